import PyProof.Rows.All
import Wide.All
import OpenK.AllK
import Wide.FinOn
import PyProof.EqAt
import PyProof.EqKinds
import PyProof.TupleCall
import KE.OsGo
import KE.KExcSuper
import KE.KExcTry
import KE.KExcStr
import KE.KExcIs
import KE.KIsAll
import HandS.ExcIs
import HandS.IsInst
import HandS.ForExc
import HandS.ForMost
import HandS.Lambda
import HandS.Wide
import HandS.Flow
import HandS.TupAny
import HandS.Style
import HandS.Star
import HandS.ClsMeth
import HandS.FStr
import HandS.SlotsOwn
import KE.KOpsOwn
import PyProof.InstNe
import HandS.Defaults
import KE.KxField
import HandS.Codes
import HandS.Text
import HandS.MakeKw
import HandS.MakeKwOnly
import KE.KCallOwn
import HandS.Iter
import HandS.List
import KE.GoesMore
import PyProof.EnumMake
import PyProof.Draws
import PyProof.Rows.MatchSeqLen
import HandS.TupMul
import HandS.RaiseMore
import PyProof.MeetsStr3
import HandS.Ends
import HandS.Dict
import HandS.DictComp
import HandS.NoneIn
import HandS.Replace
import HandS.ReplaceDef
import HandS.ReplaceLit
import HandS.TryMany
import HandS.EndOwn
import PyProof.Rows.FactsExc_KeyError
import KE.KExcInit
import HandS.ExcInit
import HandS.ExcValue
import PySem.Challenge.RW_leastrooms_k05_exceptions_apart
set_option Elab.async false
set_option linter.all false
set_option maxRecDepth 100000
set_option maxHeartbeats 4000000
/-! RoomX: the errors of the program: class RoomError(ValueError) with super().__init__(value); self.value = value, and the classes under it. -/
namespace PySem
namespace RoomX
open PySem.W PySem.Calls PyProof.Rows PySem.HandSPX
/-! ### the text of __init__ -/
def iA (p1 p2 : Pos) : Arguments := { posonlyargs := [], args := [{ arg := "self", annotation := none, pos := p1 }, { arg := "value", annotation := none, pos := p2 }], vararg := none, kwonlyargs := [], kw_defaults := [], kwarg := none, defaults := [] }
def iB (q1 q2 q3 q4 q5 q6 r1 r2 r3 r4 : Pos) : List Stmt :=
  [.Expr (.Call (.Attribute (.Call (.Name "super" q1) [] [] q2) "__init__" q3) [.Name "value" q4] [] q5) q6,
   .Assign [.Attribute (.Name "self" r1) "value" r2] (.Name "value" r3) r4]
def iS : Scope := { kind := .function, names := [(PySem.Str.ofString "self", .local), (PySem.Str.ofString "value", .local), (PySem.Str.ofString "__class__", .free), (PySem.Str.ofString "super", .globalImplicit)], isGenerator := false, isCoroutine := false, more := [] }
/-- what the written part says of RoomError, at D, and of its __init__, at fI -/
structure RoomTxt (prog : Program) (K : Frag) (mg : Str → Option Value) (D fI : Addr) : Prop where
  fn : ∃ (oc : Value) (od : Option Addr) (doc pm : Value) (an : Option Addr) (cda cc : Addr) (ct : Value) (osl : Array (Option Value)) (p1 p2 q1 q2 q3 q4 q5 q6 r1 r2 r3 r4 : Pos),
    K.lookup fI = some ⟨oc, od, .func (ksFn "__init__" "RoomError.__init__" (iA p1 p2) (iB q1 q2 q3 q4 q5 q6 r1 r2 r3 r4) iS .none .none doc pm an (.ref cda) ct cc), osl⟩ ∧ codeIn K (.ref cda) "RoomError.__init__" = true ∧ (q3.endLine == q5.line) = true ∧
    (∃ ccl cdd vs ccs file tf, K.lookup cda = some ⟨ccl, cdd, .fields vs, ccs⟩ ∧ vs[2]? = some (.str file tf) ∧ ((prog.main.file : Str) == file) = true) ∧
    (∃ cl cld csl, K.lookup cc = some ⟨cl, cld, .cell (some (.ref D)), csl⟩)
  cD : ∃ cd, clsIn K D = some cd
  msup : mg "super" = none
  mtop : (prog.main.scope.names.lookup ("super" : Str)).isSome = false
  tp : nsIn K cStatics "thirdparty.any" = some none
/-- .. of a class of errors, at C, called nm in the text -/
structure RoomCls (K : Frag) (mg : Str → Option Value) (nm : Str) (C D fI : Addr) : Prop where
  gC : mg nm = some (.ref C)
  cls : ∃ nm q N bs bm sn sub ab col dd k0 k1 k2 k3 k5, K.lookup C = some (excClassObj nm q C N bs bm true sn sub ab col dd k0 k1 k2 k3 k5 "ValueError.__new__") ∧ refsVE bm = true
  sa : findIn K (.ref C) "__setattr__" = some (some (.builtin "object.__setattr__"))
  ga : findIn K (.ref C) "__getattribute__" = some (some (.builtin "BaseException.__getattribute__"))
  gg : findIn K (.ref C) "__getattr__" = some none
  noN : findIn K (.ref C) "value" = some none
  iC : findIn K (.ref C) "__init__" = some (some (.ref fI))
  tC : typeIn K (.ref fI) = some (.type "function")
  kC : keepIn K (.ref C) = true
  exC : subIn K (.ref C) (.type "BaseException") = some true
  veC : subIn K (.ref C) (.type "ValueError") = some true
  tyC : typeIn K (.ref C) = some (.type "type")
  hdC : hasDictIn K C = true
  icl : isClsIn K C = true
  scC : subIn K (.ref C) (.ref C) = some true
  sup : ks_superIn K C D "__init__" = some (some (.builtin "ValueError.__init__"))
  mro : mroIn K C (.ref D) = some true
theorem one_size (v : Value) : [v].length ≤ sizeLine := by
  rw [sizeLine_eq]
  exact (by decide : 1 ≤ 16777216)
theorem ldX {M : Model} {s : Shared} {name : Str} {scope : Scope} {L a : Addr} {cd : Value} {cc : Addr} {m : Str → Option Value} {x : Str} {pos : Pos} {v : Value} {Q : Value → Shared → Prop} {A : Around} {E : Value → Shared → Prop} (hn : s.heap.Ns L m) (hv : m x = some v) (h : Q v s)
    (hk : scope.kind = .function := by rfl) (hl : (ksEnv name scope L a cd cc).kindOf x = some .local := by rfl) (hd : (x == ("__debug__" : Str)) = false := by decide) :
    wpAny M A (eval (.Name x pos) (ksEnv name scope L a cd cc)) Q E s := wpAny_Name (wpAny_loadName_local hk hl hn hv h) hd
/-- the bound ValueError.__init__ called: the args are laid anew -/
theorem call_mw {prog : Program} {w : World} {A : Around} {E : Value → Shared → Prop} {h : Heap} {g : Array GenState} {d : Drawn} {t : Nat} {os : OsState}
    {nm q : Str} {C N : Addr} {bs bm : List Value} {hdct : Bool} {sn : List Str} {sub : List Value} {ab : Bool} {col : Option Bool} {dd : Option Addr} {k0 k1 k2 k3 k5 : Option Value} {u e t0 : Addr} {rest : List Value} {Q : Value → Shared → Prop}
    (hC : h.get? C = some (excClassObj nm q C N bs bm hdct sn sub ab col dd k0 k1 k2 k3 k5 "ValueError.__new__")) (he : h.get? e = some (excO C t0)) (hu : h.get? u = some (kxs_mw "ValueError.__init__" e)) (hrest : rest.length ≤ sizeLine)
    (hq : ∀ h' t1, (∀ b o, b ≠ e → h.get? b = some o → h'.get? b = some o) → h'.get? e = some (excO C t1) → Q .none ⟨h', g, d, t, os⟩) :
    wpAny (model prog w) A (call (.ref u) rest) Q E ⟨h, g, d, t, os⟩ := by
  refine wpAny_call (codeAny_of_tree ?_)
  show wpAny _ A.in1 (callAny (.ref u) ⟨rest, []⟩) _ _ _
  simp only [callAny]
  refine wpAny_bind (wpAny_load hu ?_)
  simp only [kxs_mw, show (Value.type "method-wrapper" == Value.type "method" || Value.type "method-wrapper" == Value.type "builtin_function_or_method" || Value.type "method-wrapper" == Value.type "method-wrapper") = true by decide, if_true]
  refine KFB.if_so (by decide) ?_
  refine wpAny_bind (check_bound_init F.excBase_ValueError.toExcCallFacts hC he rfl ?_)
  refine wpAny_bind (wpAny_pure (wpAny_pure ?_))
  refine ⟨plainId_quiet F.excBase_ValueError.init.plain _, codeAny_builtin F.excBase_ValueError.initEntry ?_⟩
  rw [Around.under_plainId F.excBase_ValueError.init.plain _]
  wp_walk
  refine hq _ h.objs.size (fun b o hb ho => ?_) ?_
  · rw [Heap.get?_update_other _ _ (Ne.symm hb)]
    exact Heap.get?_push_of_some _ ho
  · rw [Heap.get?_update_self _ (Heap.get?_push_of_some _ he) rfl]
    rfl
/-- what __init__ leaves of a fresh exception at x -/
structure InitEnd (h h' : Heap) (x C dx : Addr) (v : Value) : Prop where
  keep : ∀ b o, b ≠ x → h.get? b = some o → h'.get? b = some o
  obj : ∃ t1 : Addr, h'.get? x = some { cls := .ref C, dict := some dx, data := .fields #[.ref t1, .none, .none, .none, .bool false, .none] }
  dbig : h.objs.size ≤ dx
  dne : dx ≠ x
  ns : h'.Ns1 dx (fun y => if y = "value" then some v else none)
/-- a made error -/
structure OwnMade (h h' : Heap) (e C d : Addr) (v : Value) : Prop where
  keep : ∀ b o, h.get? b = some o → h'.get? b = some o
  new : h.objs.size ≤ e
  obj : ∃ oe vs, h'.get? e = some oe ∧ oe.cls = .ref C ∧ oe.dict = some d ∧ oe.data = .fields vs ∧ vs[1]? = some .none
  dbig : h.objs.size ≤ d
  dne : d ≠ e
  ns : h'.Ns1 d (fun y => if y = "value" then some v else none)
section
variable {prog : Program} {w : World} {A : Around} {E : Value → Shared → Prop} {R : Result → Shared → Prop} {s : Shared} {K : Frag} {mg : Str → Option Value} {nm : Str} {C D fI : Addr}
theorem room_init (T : RoomTxt prog K mg D fI) (U : RoomCls K mg nm C D fI) {x t0 : Addr} {v : Value} (X : K.In s.heap) (hlim : s.heap.NoLimit) (hG : s.heap.Ns mainGlobals mg) (hB : ∃ mb, s.heap.Ns builtinsNs mb ∧ ∀ x : Str, x ≠ "__name__" → mb x = bootBuiltins x)
    (hx : s.heap.get? x = some (excO C t0)) (hnx : K.lookup x = none) (hroom : A.depth < recursionLimit)
    (hq : ∀ h' tk dx, InitEnd s.heap h' x C dx v → R (.ok (.ret .none)) { s with heap := h', toks := tk }) :
    codeAny (model prog w) A (.call (.ref fI) ⟨[.ref x, v], []⟩) R s := by
  obtain ⟨oc, od, doc, pm, an, cda, cc, ct, osl, p1, p2, q1, q2, q3, q4, q5, q6, r1, r2, r3, r4, ho, hcd, hline, ⟨ccl, cdd, cvs, ccs, file, tf, hcode, hvs, hfile⟩, ⟨cl, cld, csl, hcell⟩⟩ := T.fn
  obtain ⟨cn, q, N, bs, bm, sn, sub, ab, col, dd, k0, k1, k2, k3, k5, hC, hbm⟩ := U.cls
  obtain ⟨cdD, hD⟩ := T.cD
  obtain ⟨mb, hBn, hBx⟩ := hB
  have hcl : clsIn K C = some { name := cn, bases := bs, mro := .ref C :: bm, ns := N, qualname := q, hasDict := true, slotNames := sn, subclasses := sub, abstract := ab, collection := col, hasDel := false } := by unfold clsIn; rw [hC] <;> rfl
  refine ks_codeAny_call_defAt (fd := ksFn "__init__" "RoomError.__init__" (iA p1 p2) (iB q1 q2 q3 q4 q5 q6 r1 r2 r3 r4) iS .none .none doc pm an (.ref cda) ct cc) (body := iB q1 q2 q3 q4 q5 q6 r1 r2 r3 r4) (binds := [("self", .ref x), ("value", v)]) hroom (X _ _ ho) rfl hlim (codeRec_of X hcd) rfl
    (BindsTo.of_eq (by first | rfl | with_unfolding_all rfl)) (show ∀ x ∈ iS.names, x.2 ≠ NameKind.cell from by decide) (fun y hy => by
      rcases List.mem_cons.mp hy with rfl | hy
      · rfl
      rcases List.mem_cons.mp hy with rfl | hy
      · rfl
      · cases hy) (fun h₁ hn k => ?_) rfl rfl rfl
  have hxL : s.heap.objs.size ≠ x := Nat.ne_of_gt (Heap.lt_size hx)
  have X₁ : K.In h₁ := X.keeps k
  have hx₁ := k _ _ hx
  obtain ⟨hp, g, d, t, os⟩ := s
  show _root_.PySem.wpAt _ _ _ (execs (iB q1 q2 q3 q4 q5 q6 r1 r2 r3 r4) (ksEnv "RoomError.__init__" iS hp.objs.size fI (.ref cda) cc)) _ _ _
  have I₁ : InstAt h₁ x (excO C t0) C none := ⟨hx₁, rfl, rfl, trivial⟩
  obtain ⟨oD, hD1, hD2⟩ : ∃ oD, h₁.get? D = some oD ∧ oD.data = .cls cdD := by
    unfold clsIn at hD
    split at hD
    · rename_i c d cd' sl ho
      cases hD
      exact ⟨_, X₁ _ _ ho, rfl⟩
    · cases hD
  -- super().__init__(value)
  refine ks_wpAt_execs_cons (ks_wpAt_Expr_any (ks_wpAt_MethodCall (pl := (do return (← importBound (.Call (.Name "super" q1) [] [] q2) (ksEnv "RoomError.__init__" iS hp.objs.size fI (.ref cda) cc)).getD true)) ?_ ?he))
  case he =>
    show (do
      let ov ← attributeBase (.Call (.Name "super" q1) [] [] q2) "__init__" (ksEnv "RoomError.__init__" iS hp.objs.size fI (.ref cda) cc) (eval (.Call (.Name "super" q1) [] [] q2) (ksEnv "RoomError.__init__" iS hp.objs.size fI (.ref cda) cc))
      standAt q3.atName
      methodCall (.Call (.Name "super" q1) [] [] q2) "__init__" q3 q5 (ksEnv "RoomError.__init__" iS hp.objs.size fI (.ref cda) cc) ov 1 (backTo q5 (starEach [.Name "value" q4] (ksEnv "RoomError.__init__" iS hp.objs.size fI (.ref cda) cc))) []) = _
    have e1 : methodCallForm 1 (backTo q5 (starEach [.Name "value" q4] (ksEnv "RoomError.__init__" iS hp.objs.size fI (.ref cda) cc))) [] = true := rfl
    unfold methodCall methodCallPos calleeOf
    rw [e1]
    simp only [hline, if_true, Bool.not_true, Bool.or_true, pure_bind]
    try rfl
  refine ks_wpAt_super_base (env := ksEnv "RoomError.__init__" iS hp.objs.size fI (.ref cda) cc) (by rfl) (by rfl) (by decide) rfl (X₁ _ _ ho) rfl (ar := { arg := "self", annotation := none, pos := p1 }) rfl rfl (X₁ _ _ hcode) rfl hvs hfile T.mtop ?_
  refine ks_loadName_global rfl (by rfl) (loadGlobal_builtin (env := ksEnv "RoomError.__init__" iS hp.objs.size fI (.ref cda) cc) (hG.keeps k) T.msup (hBn.keeps k) ((hBx _ (by decide +kernel)).trans (by decide +kernel)) ⟨rfl, ?_⟩)
  refine wpAny_loadName_free rfl (by rfl) rfl ⟨_, X₁ _ _ hcell, rfl⟩ ?_
  refine wpAny_loadName_local rfl (by rfl) hn (by first | rfl | with_unfolding_all rfl | kernel_rfl) ?_
  refine ks_wpAny_isType_cls hD1 hD2 ⟨rfl, ?_⟩
  refine ks_wpAny_call_super hD1 hD2 I₁.at_ I₁.cls (fun c e => ?_) (looks_mroIn X₁ U.mro) (fun h₂ hso k₂ => ?_)
  · cases e
  have X₂ : K.In h₂ := X₁.keeps k₂
  have hx₂ := k₂ _ _ hx₁
  have I₂ : InstAt h₂ x (excO C t0) C none := ⟨hx₂, rfl, rfl, trivial⟩
  have hsup : alongIn K "__init__" (((.ref C :: bm : List Value).dropWhile (· != .ref D)).drop 1) = some (some (.builtin "ValueError.__init__")) := by
    have z := U.sup
    unfold ks_superIn at z
    rw [hcl] at z
    exact z
  refine kxs_getMethod kxs_ValueError hso (looks_opaque X₂ T.tp) (l₀ := .ref C :: bm) ?_ rfl X₂ hsup (I₂.type.andThen (looks_subIn X₂ U.veC)) (ks_ne X₂ I₂ hcl) (by decide) ?_
  · exact fun A Q E s k q => wpAny_bind ((looks_clsIn X₂ hcl) A _ E s k (wpAny_pure q))
  have k₃ : ∀ b o, h₂.get? b = some o → (h₂.push (kxs_mw "ValueError.__init__" x)).get? b = some o := fun b o e => Heap.get?_push_of_some _ e
  have hn₃ : (h₂.push (kxs_mw "ValueError.__init__" x)).Ns hp.objs.size (fun y => ([("self", .ref x), ("value", v)] : List (Str × Value)).reverse.lookup y) := (hn.keeps k₂).keeps k₃
  have hu₃ : (h₂.push (kxs_mw "ValueError.__init__" x)).get? h₂.objs.size = some (kxs_mw "ValueError.__init__" x) := Heap.get?_push_at rfl rfl
  dsimp only
  refine kxs_callWith (i := "ValueError.__init__") (x := x) rfl ?_
  rw [show starEach [Expr.Name "value" q4] (ksEnv "RoomError.__init__" iS hp.objs.size fI (.ref cda) cc) = [(false, eval (.Name "value" q4) (ksEnv "RoomError.__init__" iS hp.objs.size fI (.ref cda) cc))] from rfl]
  refine evalArgs_plain ?_
  refine Calls.spliced_cons (ldX (v := v) hn₃ (by first | rfl | with_unfolding_all rfl | kernel_rfl) (Calls.spliced_nil ⟨hu₃, ?_⟩))
  refine call_mw (e := x) (t0 := t0) (rest := [v]) (k₃ _ _ (X₂ _ _ hC)) (k₃ _ _ hx₂) hu₃ (one_size v) (fun h₄ t1 k₄ hx₄ => ?_)
  -- self.value = value
  have hn₄ : h₄.Ns hp.objs.size (fun y => ([("self", .ref x), ("value", v)] : List (Str × Value)).reverse.lookup y) := by
    obtain ⟨oL, es, ep, hL, r⟩ := hn₃
    exact ⟨oL, es, ep, k₄ _ _ hxL hL, r⟩
  have X₄ : K.In h₄ := fun a o e => k₄ a o (fun z => by rw [z, hnx] at e; cases e) (k₃ _ _ (X₂ a o e))
  refine wpAt_of_wpAny ?_
  refine wpAny_execs_cons (plainObj_wpAny_Assign_Attribute ?_)
  refine ldX (v := v) hn₄ (by first | rfl | with_unfolding_all rfl | kernel_rfl) (ldX (v := .ref x) hn₄ (by first | rfl | with_unfolding_all rfl | kernel_rfl) ?_)
  refine set_plain X₄ (ox := excO C t1) (od := none) ⟨hx₄, rfl, rfl, trivial⟩ U.sa ?_
  refine exc_osa X₄ hx₄ hcl (show refsVE (.ref C :: bm) = true from hbm) rfl U.noN (fun h₅ tk₅ dx k₅ dn dne hx₅ hn₅ => ?_)
  show wpAny _ _ (execs _ _) _ _ _
  have all : ∀ b o, b ≠ x → hp.get? b = some o → h₄.get? b = some o := fun b o hb e => k₄ b o hb (k₃ _ _ (k₂ _ _ (k b o e)))
  have sz : hp.objs.size ≤ h₄.objs.size := Nat.le_of_lt hn₄.lt
  exact wpAny_execs_nil (hq h₅ tk₅ dx ⟨fun b o hb e => k₅ b o hb (all b o hb e), ⟨t1, hx₅⟩, Nat.le_trans sz dn, dne, hn₅⟩)
theorem room_made (T : RoomTxt prog K mg D fI) (U : RoomCls K mg nm C D fI) {v : Value} (X : K.In s.heap) (hlim : s.heap.NoLimit) (hG : s.heap.Ns mainGlobals mg) (hB : ∃ mb, s.heap.Ns builtinsNs mb ∧ ∀ x : Str, x ≠ "__name__" → mb x = bootBuiltins x) (hroom : A.depth + 1 < recursionLimit)
    (hq : ∀ h' tk e d, OwnMade s.heap h' e C d v → R (.ok (.ret (.ref e))) { s with heap := h', toks := tk }) :
    codeAny (model prog w) A (.call (.ref C) ⟨[v], []⟩) R s := by
  obtain ⟨nm, q, N, bs, bm, sn, sub, ab, col, dd, k0, k1, k2, k3, k5, hC, hbm⟩ := U.cls
  obtain ⟨hp, g, dr, tk, os⟩ := s
  have k : ∀ b o, hp.get? b = some o → ((hp.push (kdv_tup [v])).push (excO C hp.objs.size)).get? b = some o := fun b o e => Heap.get?_push_of_some _ (Heap.get?_push_of_some _ e)
  have hget : ((hp.push (kdv_tup [v])).push (excO C hp.objs.size)).get? (hp.objs.size + 1) = some (excO C hp.objs.size) := by heap_get
  have hnx : K.lookup (hp.objs.size + 1) = none := by
    cases e : K.lookup (hp.objs.size + 1) with
    | none => rfl
    | some o =>
      have z : hp.get? (hp.objs.size + 1) = some o := X _ _ e
      exact absurd (Nat.lt_of_succ_lt (Heap.lt_size z)) (Nat.lt_irrefl _)
  obtain ⟨mb, hBn, hBx⟩ := hB
  refine call_own F.excBase_ValueError (fun X => refsVE_contains X bm hbm) (X _ _ hC) (looks_findIn X U.iC) (fun self => bind_fn X self U.tC) (one_size v) ?_
  refine room_init (s := ⟨(hp.push (kdv_tup [v])).push (excO C hp.objs.size), g, dr, tk, os⟩) T U (X.keeps k) (hlim.keeps k) (hG.keeps k) ⟨mb, hBn.keeps k, hBx⟩ hget hnx ?_ fun h' tk' dx ⟨k', ⟨t1, hx⟩, dn, dne, hns⟩ => ?_
  · show A.depth + 1 < recursionLimit
    exact hroom
  · have old : ∀ b o, hp.get? b = some o → h'.get? b = some o := fun b o e => k' b o (Nat.ne_of_lt (Nat.lt_succ_of_lt (Heap.lt_size e))) (k b o e)
    have z : hp.objs.size + 1 + 1 ≤ dx := by
      first
        | (simpa only [Heap.size_push] using dn)
        | exact dn
        | (have q := dn; rw [Heap.size_push, Heap.size_push] at q; exact q)
    exact ⟨rfl, hq h' tk' (hp.objs.size + 1) dx ⟨old, Nat.le_succ _, ⟨_, _, hx, rfl, rfl, rfl, rfl⟩, Nat.le_trans (Nat.le_trans (Nat.le_succ _) (Nat.le_succ _)) z, dne, hns⟩⟩
end
end RoomX
end PySem
namespace L2
open PySem PySem.Spec PyProof.Rows
theorem relO_one {f0 : Str} {v : V} {v' : Value} (r : RelV v v') (f : Str) : RelO (List.lookup f [(f0, v)]) (if f = f0 then some v' else none) := by
  by_cases hw : f = f0
  · subst hw
    rw [if_pos rfl]
    have q : List.lookup f [(f, v)] = some v := by simp [List.lookup]
    rw [q]
    exact r
  · rw [if_neg hw]
    have qw : (f == f0) = false := by simpa using hw
    have q2 : List.lookup f [(f0, v)] = none := by simp [List.lookup, qw]
    rw [q2]
    trivial
section
variable {X : Cx} {nm : Str} {C D fI : Addr}
/-- the dict of an error with this value -/
abbrev xval (v : V) : HO := .xd [(("value" : Str), v)]
/-- C(e) -/
def tMkRoom (C : Addr) (ta : TA) : St → Hp → XK → Prop := fun σ H Q => ta σ H fun vs H1 => ∃ v, vs = [v] ∧ ∀ d, H1 d = none → Q (.ref C) (some d) (upd H1 d (xval v))
theorem pmk_room {a : Expr} {ta : TA} {p pos : Pos} {k : Nat} (T : PySem.RoomX.RoomTxt X.prog X.K X.mg D fI) (U : PySem.RoomX.RoomCls X.K X.mg nm C D fI) (hr : Room k X.A) (ha : PA X [a] ta) (hg : Gl X nm := by rfl)
    (he : starEach (a :: []) X.env = (false, eval a X.env) :: starEach [] X.env := by rfl) (hpl : (backTo pos (starEach [] X.env)).any (·.1) = false := by rfl) (hdb : (nm == ("__debug__" : Str)) = false := by decide) :
    PMk X (.Call (.Name nm p) [a] [] pos) (tMkRoom C ta) := by
  intro pins s σ H Q I h
  refine wpAny_Call_Name_kw (ld_glob I hg U.gC ?_ hdb)
  refine PySem.W.callWith_K (h₀ := X.base) I.ok.mod.kin U.kC (thn (ha.run pos pins s σ H _ I h) fun us s1 hh => ?_) he hpl
  obtain ⟨vs, H1, I1, r1, v, ev, q1⟩ := hh
  subst ev
  refine ⟨I1.kIn, ?_⟩
  cases r1 with
  | cons rv rn =>
    rename_i v' us'
    cases rn
    show wpAny _ _ (call (.ref C) [v']) _ _ _
    have hlim := I1.nolimit
    have hG := I1.mod.glob.keeps I1.bk
    obtain ⟨mb, hBn, hBx⟩ := I1.mod.blt
    have hBn' := hBn.keeps I1.bk
    obtain ⟨hp, g, dr, tk, os⟩ := s1
    refine wpAny_call (PySem.RoomX.room_made T U I1.kIn hlim hG ⟨mb, hBn', hBx⟩ (by have := hr.dp; omega) fun h' tk' e d M => ?_)
    show MkP X pins σ Q (.ref e) ⟨h', g, dr, tk', os⟩
    obtain ⟨oe, fv, hoe, hc, hd, hdat, h1⟩ := M.obj
    have hns := M.ns
    obtain ⟨G', g1, g2⟩ := restrict h' fun b => decide (b ≠ e)
    have gk : ∀ b, b ≠ e → G'.get? b = h'.get? b := fun b hb => g1 b (decide_eq_true hb)
    have ge : G'.get? e = none := g2 e (by simp)
    have old : ∀ b o, hp.get? b = some o → G'.get? b = some o := fun b o q => (gk b (Nat.ne_of_lt (Nat.lt_of_lt_of_le (Heap.lt_size q) M.new))).trans (M.keep b o q)
    have ob : ObjOk X.prog X.w (upd H1 d (xval v)) G' d (xval v) :=
      ⟨_, hns.at (fun o q => (gk d M.dne).trans q), fun f => relO_one rv f⟩
    have J : Inv X pins σ (upd H1 d (xval v)) ⟨G', g, dr, tk', os⟩ := I1.laid (t' := tk') old M.dbig ob
    refine ⟨e, oe, fv, ⟨G', g, dr, tk', os⟩, _, .ref C, some d, rfl, J, fun b o q => ?_, ge, hoe, ⟨hc, hd⟩, hdat, h1, ?_, rfl, I1.bare, raises_own U.exC U.tyC, q1 d (I1.hok.fresh M.dbig)⟩
    · by_cases hb : b = e
      · have q' : G'.get? b = some o := q
        rw [hb, ge] at q'; cases q'
      · exact (gk b hb).symm.trans q
    · rw [upd_ne (Ne.symm M.dne)]
      exact I1.hok.fresh M.new
/-- raise C(e) -/
def tRaiseRoom (C : Addr) (W : WX) (ta : TA) : TS := fun _ σ H => tMkRoom C ta σ H fun cls d H' => W cls d σ H'
theorem ps_raiseRoom {a : Expr} {ta : TA} {W : WX} {p pos pos2 : Pos} {k : Nat} (hc : X.calm = true) (T : PySem.RoomX.RoomTxt X.prog X.K X.mg D fI) (U : PySem.RoomX.RoomCls X.K X.mg nm C D fI) (hr : Room k X.A) (tk : Takes X W) (ha : PA X [a] ta) (hg : Gl X nm := by rfl)
    (he : starEach (a :: []) X.env = (false, eval a X.env) :: starEach [] X.env := by rfl) (hpl : (backTo pos (starEach [] X.env)).any (·.1) = false := by rfl) (hdb : (nm == ("__debug__" : Str)) = false := by decide) :
    PS X (.Raise (some (.Call (.Name nm p) [a] [] pos)) none pos2) (tRaiseRoom C W ta) := ps_raise hc tk (pmk_room T U hr ha hg he hpl hdb)
/-- e.value, e the exception that the suite holds (at a; its class cls, its dict d) -/
def tValRoom (C : Addr) (a : Addr) (cls : Value) (d : Option Addr) (te : TE) : TE := fun σ H Q => te σ H fun x H1 => x = .ref a ∧ cls = .ref C ∧ ∃ (dd : Addr) (v : V), d = some dd ∧ H1 dd = some (xval v) ∧ Q v H1
theorem pe_valRoom {a : Addr} {oe : Obj} {cls : Value} {d : Option Addr} {pn : List (Addr × Obj)} {e : Expr} {te : TE} {pos : Pos} (U : PySem.RoomX.RoomCls X.K X.mg nm C D fI) (hz : Zc cls d oe) (hf : ∃ vs, oe.data = .fields vs) (he : PE (X.suite a ((a, oe) :: pn)) e te)
    (hb : attributeBase e "value" X.env (eval e X.env) = eval e X.env := by rfl) :
    PE (X.suite a ((a, oe) :: pn)) (.Attribute e "value" pos) (tValRoom C a cls d te) := by
  refine ⟨fun pins s σ H Q I h => ?_⟩
  refine attr_of hb (thn (he.run pins s σ H _ I h) fun u s1 hh => ?_)
  obtain ⟨x, H1, I1, rx, ex, ec, dd, v, ed, ea, q⟩ := hh
  subst ex
  obtain rfl : u = Value.ref a := rx
  subst ec
  subst ed
  obtain ⟨ha, _⟩ := I1.pin (a, oe) (List.mem_append_left _ List.mem_cons_self)
  obtain ⟨vs, hd⟩ := hf
  have hx : ObjOk X.prog X.w H1 s1.heap dd (xval v) := I1.hok dd _ ea
  obtain ⟨mA, hns, hr⟩ := hx
  obtain ⟨od, ho, hl⟩ := lookIn_ns hns
  have l : List.lookup ("value" : Str) [(("value" : Str), v)] = some v := by simp [List.lookup]
  obtain ⟨u, hu, ru⟩ := RelO.some_of (v := v) (o := mA "value") (by rw [← l]; exact hr "value")
  have J : PySem.W.InstAt s1.heap a oe C (some od) := ⟨ha, hz.1, by unfold PySem.W.notCls; rw [hd] <;> rfl, by rw [hz.2]; exact ho⟩
  exact HandSPX.exc_get I1.kIn J U.ga U.gg U.exC (PySem.W.findObj_own U.hdC U.noN rfl (by rw [hl, hu])) (handed_of ru) ⟨v, H1, I1.tok _, ru, q⟩
/-- what the class must say more, so that isinstance asks its instances rightly -/
structure RoomIs (K : PySem.W.Frag) (C : Addr) : Prop where
  ha : PySem.W.findIn K (.ref C) "__class__" = some (some (.builtin "object.__class__"))
  hn : PySem.W.specialIn K (.builtin "object.__class__") "__get__" = some (some (.builtin "getset_descriptor.__get__"))
  ht : PySem.W.takesIn K (.builtin "object.__class__") = some true
  hm : PySem.W.mroIn K C (.type "object") = some true
/-- isinstance(e, c), e the exception that the suite holds -/
def rIsR (K : PySem.W.Frag) (C a : Addr) (d : Option Addr) : List V → Hp → VK → Prop := fun xs H Q => ∃ (c : V) (cv : Value) (b : Bool) (dd : Addr) (fs : List (Str × V)), xs = [.ref a, c] ∧ (∀ u, RelV c u → u = cv) ∧ PySem.W.kitOne K (.ref C) cv = some b ∧ d = some dd ∧ H dd = some (.xd fs) ∧ Q (.bl b) H
theorem call_isR {a : Addr} {oe : Obj} {d : Option Addr} {pn : List (Addr × Obj)} (U : PySem.RoomX.RoomCls X.K X.mg nm C D fI) (Y : RoomIs X.K C) (hz : Zc (.ref C) d oe) (hf : ∃ vs, oe.data = .fields vs) : CallR (X.suite a ((a, oe) :: pn)) (.builtin "isinstance") (rIsR X.K C a d) := by
  intro pins s σ H xs us Q I r h
  obtain ⟨c, cv, b, dd, fs, rfl, hcv, e, ed, ea, q⟩ := h
  subst ed
  cases r with
  | cons rx rr =>
    cases rr with
    | cons rt rr =>
      cases rr
      cases rx
      have ec := hcv _ rt
      subst ec
      obtain ⟨hget, _⟩ := I.pin (a, oe) (List.mem_append.mpr (.inl List.mem_cons_self))
      obtain ⟨vs, hv⟩ := hf
      have hx : ObjOk X.prog X.w H s.heap dd (.xd fs) := I.hok dd _ ea
      obtain ⟨mA, hns, hr⟩ := hx
      obtain ⟨od, ho, hl⟩ := lookIn_ns hns
      have J : PySem.W.InstAt s.heap a oe C (some od) := ⟨hget, hz.1, by unfold PySem.W.notCls; rw [hv] <;> rfl, by rw [hz.2]; exact ho⟩
      have hcl : (PySem.W.clsIn X.K C).isSome = true := U.icl
      exact PySem.W.kia_one (PySem.W.kitx_exc hcl U.ga U.gg U.exC Y.ha Y.hn Y.ht Y.hm) I.kIn J e (fun z => nomatch z) fun tk => ⟨.bl b, H, I.kept (t' := tk) fun _ _ z => z, rfl, q⟩
end
end L2
set_option Elab.async false
set_option linter.all false
set_option maxRecDepth 100000
set_option maxHeartbeats 4000000
/-! Dv: readings over plain data. What a def does to data that nobody changes is told without the heap. -/
namespace Dv
open PySem L2
/-! ### data -/
inductive D where
  | non | bl (b : Bool) | int (i : Int) | str (x : Str) | lst (xs : List D) | tup (xs : List D) | obj (C : Addr) (fs : List (Str × D)) | dic (kvs : List (Key × D)) | scr (xs : List D) | exn (C : Addr) (fs : List (Str × D))
/-- numbers of a pool -/
def PoolL (l : List V) : Prop := ∃ a b : Int, l = [.int a, .int b] ∧ 0 ≤ b ∧ b < 4294967296
/-- no table, nothing that is known by its words alone -/
def sol : HO → Bool
  | .tbl _ => false
  | .ext _ => false
  | _ => true
theorem sol_tbl {o : HO} (h : sol o = true) : ∀ ps, o ≠ .tbl ps := fun ps e => by
  rw [e] at h
  cases h
/-- what is no data (F), what the statements here may change (W), what calls may change (G), what holds all the time (I), the pools, what is owned -/
structure Cfg where
  K : PySem.W.Frag
  F : Addr → Prop
  W : Addr → Prop
  G : Addr → Prop
  I : Hp → Prop
  pl : Addr → Prop
  ow : Nat → Option Addr
  mono : ∀ {H H' : Hp}, (∀ a o, H a = some o → H' a = some o) → I H → I H'
  live : ∀ {H : Hp} {a : Addr}, I H → F a → H a ≠ none
  WF : ∀ {a : Addr}, W a → F a
  GW : ∀ {a : Addr}, G a → W a
  plG : ∀ {p : Addr}, pl p → G p
  owW : ∀ {k : Nat} {a : Addr}, ow k = some a → W a ∧ ¬ G a
  inj : ∀ {k j : Nat} {a : Addr}, ow k = some a → ow j = some a → k = j
  plAt : ∀ {H : Hp} {p : Addr}, I H → pl p → ∃ l, H p = some (.lst l) ∧ PoolL l
  plPut : ∀ {H : Hp} {p : Addr} {l : List V}, I H → pl p → PoolL l → I (upd H p (.lst l))
  owPut : ∀ {H : Hp} {k : Nat} {a : Addr} {o : HO}, I H → ow k = some a → sol o = true → I (upd H a o)
  tb : List (Addr × Str)
  tabs : ∀ {H : Hp}, I H → LamX.Tabs tb H
  ext : ∀ {H H1 : Hp}, I H → LamX.ExtN H H1 → LamX.Tabs tb H1 → I H1
/-- the view of one who owns nothing any more -/
def Cfg.rel (c : Cfg) : Cfg where
  K := c.K
  F := fun b => c.F b ∧ (c.W b → c.G b)
  W := c.G
  G := c.G
  I := c.I
  pl := c.pl
  ow := fun _ => none
  mono := c.mono
  live := fun h z => c.live h z.1
  WF := fun z => ⟨c.WF (c.GW z), fun _ => z⟩
  GW := fun z => z
  plG := c.plG
  owW := fun e => nomatch e
  inj := fun e => nomatch e
  plAt := c.plAt
  plPut := c.plPut
  owPut := fun _ e => nomatch e
  tb := c.tb
  tabs := c.tabs
  ext := c.ext
/-- a list, a tuple of the written part -/
def KL (K : PySem.W.Frag) (a : Addr) (xs : List V) : Prop := ∃ (o : Obj) (its : Array Value) (n : Nat), K.lookup a = some o ∧ o.cls = .type "list" ∧ o.dict = none ∧ o.data = .seq its n ∧ its.size ≤ sizeLine ∧ Vals xs its.toList
def KT (K : PySem.W.Frag) (a : Addr) (xs : List V) : Prop := ∃ (o : Obj) (its : Array Value) (n : Nat), K.lookup a = some o ∧ o.cls = .type "tuple" ∧ o.data = .seq its n ∧ its.size ≤ sizeLine ∧ Vals xs its.toList
def InL (c : Cfg) (H : Hp) (a : Addr) (xs : List V) : Prop := (¬ c.F a ∧ Rd H a (.lst xs)) ∨ KL c.K a xs
def InT (c : Cfg) (H : Hp) (a : Addr) (xs : List V) : Prop := (¬ c.F a ∧ Rd H a (.tup xs)) ∨ KT c.K a xs
theorem InL.sq {c : Cfg} {H : Hp} {a : Addr} {xs : List V} (h : InL c H a xs) : SqL c.K H a xs := h.elim (fun z => .inl z.2) .inr
theorem InT.sq {c : Cfg} {H : Hp} {a : Addr} {xs : List V} (h : InT c H a xs) : SqT c.K H a xs := h.elim (fun z => .inl z.2) .inr
/-- an exception's object, of the class at C, its dict at d -/
def ExcIs (oe : Obj) (C : Addr) (d : Option Addr) : Prop := oe.cls = .ref C ∧ oe.dict = d ∧ ∃ fv, oe.data = .fields fv
def XdAt (c : Cfg) (H : Hp) : Option Addr → List (Str × V) → Prop
  | none, vs => vs = []
  | some dx, vs => ¬ c.F dx ∧ H dx = some (.xd vs)
mutual
inductive Rp (c : Cfg) (H : Hp) : V → D → Prop
  | non : Rp c H .non .non
  | bl (b : Bool) : Rp c H (.bl b) (.bl b)
  | int (i : Int) : Rp c H (.int i) (.int i)
  | str (x : Str) : Rp c H (.str x) (.str x)
  | lst {a : Addr} {xs : List V} {ds : List D} : ¬ c.F a → H a = some (.lst xs) → RpAll c H xs ds → Rp c H (.ref a) (.lst ds)
  | scr {a : Addr} {xs : List V} {ds : List D} : InL c H a xs → RpAll c H xs ds → Rp c H (.ref a) (.scr ds)
  | tup {a : Addr} {xs : List V} {ds : List D} : InT c H a xs → RpAll c H xs ds → Rp c H (.ref a) (.tup ds)
  | obj {a C dx : Addr} {fs : List (Str × V)} {ds : List (Str × D)} : ¬ c.F a → H a = some (.ins C dx fs) → RpFs c H fs ds → Rp c H (.ref a) (.obj C ds)
  | dic {a : Addr} {kvs : List (Key × V)} {ds : List (Key × D)} : ¬ c.F a → H a = some (.dK kvs) → RpKv c H kvs ds → Rp c H (.ref a) (.dic ds)
  | exn {a C : Addr} {oe : Obj} {d : Option Addr} {vs : List (Str × V)} {ds : List (Str × D)} : ¬ c.F a → H a = some (.frz oe (.own a)) → ExcIs oe C d → XdAt c H d vs → RpFs c H vs ds → Rp c H (.ref a) (.exn C ds)
inductive RpAll (c : Cfg) (H : Hp) : List V → List D → Prop
  | nil : RpAll c H [] []
  | cons {v : V} {d : D} {vs : List V} {ds : List D} : Rp c H v d → RpAll c H vs ds → RpAll c H (v :: vs) (d :: ds)
inductive RpFs (c : Cfg) (H : Hp) : List (Str × V) → List (Str × D) → Prop
  | nil : RpFs c H [] []
  | cons {n : Str} {v : V} {d : D} {vs : List (Str × V)} {ds : List (Str × D)} : Rp c H v d → RpFs c H vs ds → RpFs c H ((n, v) :: vs) ((n, d) :: ds)
inductive RpKv (c : Cfg) (H : Hp) : List (Key × V) → List (Key × D) → Prop
  | nil : RpKv c H [] []
  | cons {n : Key} {v : V} {d : D} {vs : List (Key × V)} {ds : List (Key × D)} : Rp c H v d → RpKv c H vs ds → RpKv c H ((n, v) :: vs) ((n, d) :: ds)
end
/-- what stands outside of F stands -/
def Kp (F : Addr → Prop) (H H' : Hp) : Prop := ∀ a o, ¬ F a → sol o = true → H a = some o → H' a = some o
structure Go (c : Cfg) (H H' : Hp) : Prop where
  keep : Kp c.G H H'
  inv : c.I H'
theorem Cfg.GF (c : Cfg) {a : Addr} (h : c.G a) : c.F a := c.WF (c.GW h)
theorem Cfg.plF (c : Cfg) {a : Addr} (h : c.pl a) : c.F a := c.GF (c.plG h)
theorem Kp.self {F : Addr → Prop} {H : Hp} : Kp F H H := fun _ _ _ _ e => e
theorem Kp.trans {F : Addr → Prop} {H H1 H2 : Hp} (a : Kp F H H1) (b : Kp F H1 H2) : Kp F H H2 := fun x o n t e => b x o n t (a x o n t e)
theorem Kp.le {F G : Addr → Prop} {H H1 : Hp} (h : ∀ a, F a → G a) (a : Kp F H H1) : Kp G H H1 := fun x o n t e => a x o (fun z => n (h x z)) t e
theorem Go.kF {c : Cfg} {H H' : Hp} (g : Go c H H') : Kp c.F H H' := g.keep.le fun _ z => c.GF z
theorem Go.kW {c : Cfg} {H H' : Hp} (g : Go c H H') : Kp c.W H H' := g.keep.le fun _ z => c.GW z
theorem Go.self {c : Cfg} {H : Hp} (h : c.I H) : Go c H H := ⟨Kp.self, h⟩
theorem Go.trans {c : Cfg} {H H1 H2 : Hp} (a : Go c H H1) (b : Go c H1 H2) : Go c H H2 := ⟨a.keep.trans b.keep, b.inv⟩
theorem Kp.new {F : Addr → Prop} {H : Hp} {p : Addr} {o : HO} (h : H p = none) : Kp F H (upd H p o) := fun a u _ _ e => by
  rw [upd_ne (ne_of_none e h)]
  exact e
theorem Go.new {c : Cfg} {H : Hp} {p : Addr} {o : HO} (hi : c.I H) (h : H p = none) : Go c H (upd H p o) := ⟨Kp.new h, c.mono (fun a u e => by
  rw [upd_ne (ne_of_none e h)]
  exact e) hi⟩
theorem Cfg.fresh (c : Cfg) {H : Hp} {p : Addr} (hi : c.I H) (h : H p = none) : ¬ c.F p := fun z => c.live hi z h
theorem rd_kp {F : Addr → Prop} {H H' : Hp} {a : Addr} {u : HO} (k : Kp F H H') (n : ¬ F a) (h : Rd H a u) (t : sol u = true := by rfl) : Rd H' a u := by
  rcases h with h | ⟨o, h⟩
  · exact .inl (k a _ n t h)
  · exact .inr ⟨o, k a _ n rfl h⟩
theorem InL.to {c c' : Cfg} {H H' : Hp} {a : Addr} {xs : List V} (eK : c'.K = c.K) (lF : ∀ a, c'.F a → c.F a) (k : Kp c.F H H') (h : InL c H a xs) : InL c' H' a xs := by
  rcases h with ⟨n, h⟩ | h
  · exact .inl ⟨fun z => n (lF _ z), rd_kp k n h⟩
  · exact .inr (by rw [eK]; exact h)
theorem InT.to {c c' : Cfg} {H H' : Hp} {a : Addr} {xs : List V} (eK : c'.K = c.K) (lF : ∀ a, c'.F a → c.F a) (k : Kp c.F H H') (h : InT c H a xs) : InT c' H' a xs := by
  rcases h with ⟨n, h⟩ | h
  · exact .inl ⟨fun z => n (lF _ z), rd_kp k n h⟩
  · exact .inr (by rw [eK]; exact h)
theorem XdAt.to {c c' : Cfg} {H H' : Hp} {d : Option Addr} {vs : List (Str × V)} (lF : ∀ a, c'.F a → c.F a) (k : Kp c.F H H') (h : XdAt c H d vs) : XdAt c' H' d vs := by
  cases d with
  | none => exact h
  | some dx => exact ⟨fun z => h.1 (lF _ z), k _ _ h.1 rfl h.2⟩
theorem XdAt.in_ {c c' : Cfg} {H H' : Hp} {d : Option Addr} {vs : List (Str × V)} (k : ∀ dx u, ¬ c.F dx → H dx = some u → ¬ c'.F dx ∧ H' dx = some u) (h : XdAt c H d vs) : XdAt c' H' d vs := by
  cases d with
  | none => exact h
  | some dx => exact k _ _ h.1 h.2
/-- the data stay, in a greater heap, seen with less that may change -/
theorem Rp.to {c c' : Cfg} {H H' : Hp} {v : V} {d : D} (eK : c'.K = c.K) (lF : ∀ a, c'.F a → c.F a) (k : Kp c.F H H') (h : Rp c H v d) : Rp c' H' v d := by
  refine Rp.rec (motive_1 := fun v d _ => Rp c' H' v d) (motive_2 := fun vs ds _ => RpAll c' H' vs ds) (motive_3 := fun vs ds _ => RpFs c' H' vs ds) (motive_4 := fun vs ds _ => RpKv c' H' vs ds)
    .non .bl .int .str ?_ ?_ ?_ ?_ ?_ ?_ .nil ?_ .nil ?_ .nil ?_ h
  · intro a xs ds n s _ r
    exact .lst (fun z => n (lF _ z)) (k _ _ n rfl s) r
  · intro a xs ds s _ r
    exact .scr (s.to eK lF k) r
  · intro a xs ds s _ r
    exact .tup (s.to eK lF k) r
  · intro a C dx fs ds n s _ r
    exact .obj (fun z => n (lF _ z)) (k _ _ n rfl s) r
  · intro a kvs ds n s _ r
    exact .dic (fun z => n (lF _ z)) (k _ _ n rfl s) r
  · intro a C oe d vs ds n s e x _ r
    exact .exn (fun z => n (lF _ z)) (k _ _ n rfl s) e (x.to lF k) r
  · intro v d vs ds _ _ a b
    exact .cons a b
  · intro n v d vs ds _ _ a b
    exact .cons a b
  · intro n v d vs ds _ _ a b
    exact .cons a b
theorem RpAll.to {c c' : Cfg} {H H' : Hp} (eK : c'.K = c.K) (lF : ∀ a, c'.F a → c.F a) (k : Kp c.F H H') : ∀ {vs : List V} {ds : List D}, RpAll c H vs ds → RpAll c' H' vs ds
  | _, _, .nil => .nil
  | _, _, .cons a b => .cons (a.to eK lF k) (b.to eK lF k)
theorem RpFs.to {c c' : Cfg} {H H' : Hp} (eK : c'.K = c.K) (lF : ∀ a, c'.F a → c.F a) (k : Kp c.F H H') : ∀ {vs : List (Str × V)} {ds : List (Str × D)}, RpFs c H vs ds → RpFs c' H' vs ds
  | _, _, .nil => .nil
  | _, _, .cons a b => .cons (a.to eK lF k) (b.to eK lF k)
theorem Rp.go {c : Cfg} {H H' : Hp} {v : V} {d : D} (h : Rp c H v d) (k : Kp c.F H H') : Rp c H' v d := h.to (Eq.refl _) (fun _ z => z) k
theorem RpAll.go {c : Cfg} {H H' : Hp} {vs : List V} {ds : List D} (h : RpAll c H vs ds) (k : Kp c.F H H') : RpAll c H' vs ds := h.to (Eq.refl _) (fun _ z => z) k
theorem RpAll.length {c : Cfg} {H : Hp} : ∀ {vs : List V} {ds : List D}, RpAll c H vs ds → vs.length = ds.length
  | _, _, .nil => rfl
  | _, _, .cons _ b => congrArg (· + 1) b.length
theorem RpAll.get {c : Cfg} {H : Hp} : ∀ {vs : List V} {ds : List D} {i : Nat} {d : D}, RpAll c H vs ds → ds[i]? = some d → ∃ v, vs[i]? = some v ∧ Rp c H v d
  | _, _, _, _, .nil, e => by simp at e
  | _, _, 0, _, .cons a _, e => by
    simp at e
    subst e
    exact ⟨_, rfl, a⟩
  | _, _, i + 1, d, .cons _ b, e => by
    obtain ⟨v, h1, h2⟩ := RpAll.get (i := i) (d := d) b (by simpa using e)
    exact ⟨v, by simpa using h1, h2⟩
theorem RpAll.getV {c : Cfg} {H : Hp} : ∀ {vs : List V} {ds : List D} {i : Nat} {v : V}, RpAll c H vs ds → vs[i]? = some v → ∃ d, ds[i]? = some d ∧ Rp c H v d
  | _, _, _, _, .nil, e => by simp at e
  | _, _, 0, _, .cons a _, e => by
    simp at e
    subst e
    exact ⟨_, rfl, a⟩
  | _, _, i + 1, d, .cons _ b, e => by
    obtain ⟨v, h1, h2⟩ := RpAll.getV (i := i) (v := d) b (by simpa using e)
    exact ⟨v, by simpa using h1, h2⟩
theorem RpAll.append {c : Cfg} {H : Hp} : ∀ {vs ws : List V} {ds es : List D}, RpAll c H vs ds → RpAll c H ws es → RpAll c H (vs ++ ws) (ds ++ es)
  | _, _, _, _, .nil, s => s
  | _, _, _, _, .cons a b, s => .cons a (RpAll.append b s)
/-- what an error carries: its fields, None if it has no dict -/
abbrev XP := Option (List (Str × D))
def XOk (c : Cfg) (H : Hp) : Option Addr → XP → Prop
  | some dd, some fs => ∃ vs, ¬ c.F dd ∧ H dd = some (.xd vs) ∧ RpFs c H vs fs
  | none, none => True
  | _, _ => False
theorem XOk.to {c c' : Cfg} {H H' : Hp} {d : Option Addr} {p : XP} (eK : c'.K = c.K) (lF : ∀ a, c'.F a → c.F a) (k : Kp c.F H H') (h : XOk c H d p) : XOk c' H' d p := by
  cases d <;> cases p <;> first | exact h | skip
  obtain ⟨vs, n, e, r⟩ := h
  exact ⟨vs, fun z => n (lF _ z), k _ _ n rfl e, r.to eK lF k⟩
/-! ### slots -/
inductive Sl where
  | any | v (x : V) | d (x : D) | pool | ex (a : Addr) (cls : Value) (dd : Option Addr) (p : XP) | own (k : Nat) (x : D) | tab (T : List (Addr × Str))
/-- what an owned thing holds now -/
def OwRp (c : Cfg) (H : Hp) (a : Addr) : D → Prop
  | .lst ds => ∃ xs, H a = some (.lst xs) ∧ RpAll c H xs ds
  | .obj C fs => ∃ dx vs, H a = some (.ins C dx vs) ∧ RpFs c H vs fs
  | .dic kvs => ∃ vs, H a = some (.dK vs) ∧ RpKv c H vs kvs
  | _ => False
theorem RpKv.to {c c' : Cfg} {H H' : Hp} (eK : c'.K = c.K) (lF : ∀ a, c'.F a → c.F a) (k : Kp c.F H H') : ∀ {vs : List (Key × V)} {ds : List (Key × D)}, RpKv c H vs ds → RpKv c' H' vs ds
  | _, _, .nil => .nil
  | _, _, .cons a b => .cons (a.to eK lF k) (b.to eK lF k)
theorem OwRp.to {c c' : Cfg} {H H' : Hp} {a : Addr} {d : D} (eK : c'.K = c.K) (lF : ∀ a, c'.F a → c.F a) (k : Kp c.F H H') (ka : ∀ o, sol o = true → H a = some o → H' a = some o) (h : OwRp c H a d) : OwRp c' H' a d := by
  cases d <;> try exact h
  · obtain ⟨xs, e, r⟩ := h
    exact ⟨xs, ka _ rfl e, r.to eK lF k⟩
  · obtain ⟨dx, vs, e, r⟩ := h
    exact ⟨dx, vs, ka _ rfl e, r.to eK lF k⟩
  · obtain ⟨vs, e, r⟩ := h
    exact ⟨vs, ka _ rfl e, r.to eK lF k⟩
theorem OwRp.rp {c : Cfg} {H : Hp} {a : Addr} {d : D} (n : ¬ c.F a) (h : OwRp c H a d) : Rp c H (.ref a) d := by
  cases d <;> try exact h.elim
  · obtain ⟨xs, e, r⟩ := h
    exact .lst n e r
  · obtain ⟨dx, vs, e, r⟩ := h
    exact .obj n e r
  · obtain ⟨vs, e, r⟩ := h
    exact .dic n e r
def SlOk (c : Cfg) (H : Hp) (o : Option V) : Sl → Prop
  | .any => True
  | .v x => o = some x
  | .d x => ∃ v, o = some v ∧ Rp c H v x
  | .pool => ∃ p, o = some (.ref p) ∧ c.pl p
  | .ex a _ dd p => o = some (.ref a) ∧ XOk c H dd p
  | .own k x => ∃ a, o = some (.ref a) ∧ c.ow k = some a ∧ OwRp c H a x
  | .tab T => c.tb = T
abbrev Gm := List Sl
structure StOk (c : Cfg) (σ : St) (H : Hp) (Γ : Gm) : Prop where
  inv : c.I H
  len : σ.length = Γ.length
  at_ : ∀ (i : Nat) (o : Option V) (s : Sl), σ[i]? = some o → Γ[i]? = some s → SlOk c H o s
theorem SlOk.to {c c' : Cfg} {H H' : Hp} {o : Option V} {s : Sl} (eK : c'.K = c.K) (lF : ∀ a, c'.F a → c.F a) (lp : ∀ a, c.pl a → c'.pl a) (k : Kp c.F H H') (lo : ∀ n x a, s = .own n x → c.ow n = some a → c'.ow n = some a ∧ ∀ o, sol o = true → H a = some o → H' a = some o) (lt : c'.tb = c.tb) (h : SlOk c H o s) : SlOk c' H' o s := by
  cases s with
  | any => trivial
  | v x => exact h
  | d x =>
    obtain ⟨v, e, r⟩ := h
    exact ⟨v, e, r.to eK lF k⟩
  | pool =>
    obtain ⟨p, e, r⟩ := h
    exact ⟨p, e, lp _ r⟩
  | ex a cls dd p => exact ⟨h.1, h.2.to eK lF k⟩
  | own n x =>
    obtain ⟨a, e, w, r⟩ := h
    obtain ⟨w', ka⟩ := lo n x a rfl w
    exact ⟨a, e, w', r.to eK lF k ka⟩
  | tab T => exact lt.trans h
theorem Cfg.owKeep (c : Cfg) {H H' : Hp} {n : Nat} {a : Addr} (k : Kp c.G H H') (w : c.ow n = some a) : ∀ o, sol o = true → H a = some o → H' a = some o := fun o t e => k a o (c.owW w).2 t e
theorem SlOk.go {c : Cfg} {H H' : Hp} {o : Option V} {s : Sl} (h : SlOk c H o s) (k : Kp c.G H H') : SlOk c H' o s := h.to rfl (fun _ z => z) (fun _ z => z) (k.le fun _ z => c.GF z) (fun n x a _ w => ⟨w, c.owKeep k w⟩) rfl
theorem StOk.go {c : Cfg} {σ : St} {H H' : Hp} {Γ : Gm} (h : StOk c σ H Γ) (g : Go c H H') : StOk c σ H' Γ := ⟨g.inv, h.len, fun i o s a b => (h.at_ i o s a b).go g.keep⟩
theorem StOk.set {c : Cfg} {σ : St} {H : Hp} {Γ : Gm} {i : Nat} {o : Option V} {s : Sl} (h : StOk c σ H Γ) (q : SlOk c H o s) : StOk c (σ.set i o) H (Γ.set i s) := by
  refine ⟨h.inv, by rw [List.length_set, List.length_set]; exact h.len, fun j o' s' a b => ?_⟩
  rw [List.getElem?_set] at a b
  by_cases e : i = j
  · subst e
    by_cases l : i < σ.length
    · have l' : i < Γ.length := by rw [← h.len]; exact l
      simp only [l, l', if_true] at a b
      cases a
      cases b
      exact q
    · simp [l] at a
  · simp only [e, if_false] at a b
    exact h.at_ j o' s' a b
/-- a wider view -/
structure Le (c c' : Cfg) : Prop where
  K : c'.K = c.K
  F : ∀ a, c.F a → c'.F a
  I : ∀ H, c'.I H → c.I H
  pl : ∀ a, c'.pl a → c.pl a
  ow : ∀ k a, c'.ow k = some a → c.ow k = some a
  R : ∀ a, c.rel.F a → c'.rel.F a
  tb : c'.tb = c.tb
theorem SlOk.le {c c' : Cfg} {H : Hp} {o : Option V} {s : Sl} (l : Le c c') (h : SlOk c' H o s) : SlOk c H o s := h.to l.K.symm l.F l.pl Kp.self (fun k x a _ w => ⟨l.ow k a w, fun _ _ e => e⟩) l.tb.symm
theorem StOk.le {c c' : Cfg} {σ : St} {H : Hp} {Γ : Gm} (l : Le c c') (h : StOk c' σ H Γ) : StOk c σ H Γ := ⟨l.I _ h.inv, h.len, fun i o s a b => (h.at_ i o s a b).le l⟩
theorem Rp.le {c c' : Cfg} {H : Hp} {v : V} {d : D} (l : Le c c') (h : Rp c' H v d) : Rp c H v d := h.to l.K.symm l.F Kp.self
/-- something more holds all the time -/
def Cfg.wth (c : Cfg) (φ : Hp → Prop) (hφ : ∀ {H H' : Hp}, Kp c.W H H' → φ H → φ H') : Cfg where
  K := c.K
  F := c.F
  W := c.W
  G := c.G
  I := fun H => c.I H ∧ φ H
  pl := c.pl
  ow := c.ow
  mono := fun k h => ⟨c.mono k h.1, hφ (fun a o _ _ e => k a o e) h.2⟩
  live := fun h z => c.live h.1 z
  WF := c.WF
  GW := c.GW
  plG := c.plG
  owW := c.owW
  inj := c.inj
  plAt := fun h z => c.plAt h.1 z
  plPut := fun {H p l} h z q => ⟨c.plPut h.1 z q, hφ (fun a o n _ e => by
    rw [upd_ne (fun y => n (by rw [y]; exact c.GW (c.plG z)))]
    exact e) h.2⟩
  owPut := fun {H k a o} h w t => ⟨c.owPut h.1 w t, hφ (fun b u n _ e => by
    rw [upd_ne (fun y => n (by rw [y]; exact (c.owW w).1))]
    exact e) h.2⟩
  tb := c.tb
  tabs := fun h => c.tabs h.1
  ext := fun h e t => ⟨c.ext h.1 e t, hφ (fun a o _ s z => e a o z (sol_tbl s)) h.2⟩
theorem Le.wth {c : Cfg} {φ : Hp → Prop} {hφ : ∀ {H H' : Hp}, Kp c.W H H' → φ H → φ H'} : Le c (c.wth φ hφ) := ⟨rfl, fun _ z => z, fun _ h => h.1, fun _ z => z, fun _ _ z => z, fun _ z => z, rfl⟩
theorem StOk.wth {c : Cfg} {φ : Hp → Prop} {hφ : ∀ {H H' : Hp}, Kp c.W H H' → φ H → φ H'} {σ : St} {H : Hp} {Γ : Gm} (h : StOk c σ H Γ) (q : φ H) : StOk (c.wth φ hφ) σ H Γ :=
  ⟨⟨h.inv, q⟩, h.len, fun i o s a b => SlOk.to (c := c) (c' := c.wth φ hφ) rfl (fun _ z => z) (fun _ z => z) Kp.self (fun _ _ _ _ w => ⟨w, fun _ _ e => e⟩) rfl (h.at_ i o s a b)⟩
/-- a def's own view: it changes what calls may change, and owns nothing yet -/
def Cfg.sub (c : Cfg) : Cfg where
  K := c.K
  F := c.F
  W := c.G
  G := c.G
  I := c.I
  pl := c.pl
  ow := fun _ => none
  mono := c.mono
  live := c.live
  WF := fun z => c.GF z
  GW := fun z => z
  plG := c.plG
  owW := fun e => nomatch e
  inj := fun e => nomatch e
  plAt := c.plAt
  plPut := c.plPut
  owPut := fun _ e => nomatch e
  tb := c.tb
  tabs := c.tabs
  ext := c.ext
/-- the heap without a -/
def rem (H : Hp) (a : Addr) : Hp := fun b => if b = a then none else H b
theorem rem_ne {H : Hp} {a b : Addr} (h : b ≠ a) : rem H a b = H b := if_neg h
theorem rem_same {H : Hp} {a : Addr} : rem H a a = none := if_pos rfl
theorem rem_sub {H : Hp} {a b : Addr} {o : HO} (h : rem H a b = some o) : b ≠ a ∧ H b = some o := by
  by_cases e : b = a
  · rw [e, rem_same] at h
    cases h
  · rw [rem_ne e] at h
    exact ⟨e, h⟩
theorem rem_upd {H : Hp} {a : Addr} {o : HO} : rem (upd H a o) a = rem H a := by
  funext b
  by_cases e : b = a
  · rw [e, rem_same, rem_same]
  · rw [rem_ne e, rem_ne e, upd_ne e]
theorem rem_new {H : Hp} {a : Addr} (n : H a = none) : rem H a = H := by
  funext b
  by_cases e : b = a
  · rw [e, rem_same, n]
  · rw [rem_ne e]
theorem rem_upd_ne {H : Hp} {a p : Addr} {o : HO} (h : p ≠ a) : rem (upd H p o) a = upd (rem H a) p o := by
  funext b
  by_cases e : b = a
  · rw [e, rem_same, upd_ne (Ne.symm h), rem_same]
  · by_cases e2 : b = p
    · rw [rem_ne e, e2, upd_same, upd_same]
    · rw [rem_ne e, upd_ne e2, upd_ne e2, rem_ne e]

theorem Cfg.noPl (c : Cfg) {H : Hp} {p : Addr} (hi : c.I H) (h : H p = none) : ¬ c.pl p := fun z => c.fresh hi h (c.plF z)
theorem rem_in {H H' : Hp} {a : Addr} (n : H a = none) (kp : ∀ b o, H b = some o → H' b = some o) : ∀ b o, H b = some o → rem H' a b = some o := fun b o e => by
  rw [rem_ne (ne_of_none e n)]
  exact kp b o e
/-! ### a thing at work that is no data -/
def Cfg.hide (c : Cfg) (a : Addr) (ha : ¬ c.F a) : Cfg where
  K := c.K
  F := fun b => c.F b ∨ b = a
  W := c.W
  G := c.G
  I := fun H => c.I (rem H a) ∧ ∃ o, H a = some o ∧ sol o = true
  pl := c.pl
  ow := c.ow
  mono := fun {H H'} q h => ⟨c.mono (fun b u e => by
    obtain ⟨n, e⟩ := rem_sub e
    rw [rem_ne n]
    exact q b u e) h.1, by
    obtain ⟨o, z, t⟩ := h.2
    exact ⟨o, q a o z, t⟩⟩
  live := fun {H b} h z => by
    rcases z with z | z
    · intro y
      refine c.live h.1 z ?_
      by_cases e : b = a
      · rw [e, rem_same]
      · rw [rem_ne e]
        exact y
    · rw [z]
      obtain ⟨o, y, _⟩ := h.2
      exact fun q => by
        rw [y] at q
        cases q
  WF := fun z => .inl (c.WF z)
  GW := c.GW
  plG := c.plG
  owW := c.owW
  inj := c.inj
  plAt := fun h z => by
    obtain ⟨l, e, r⟩ := c.plAt h.1 z
    exact ⟨l, (rem_sub e).2, r⟩
  plPut := fun {H p l} h z q => by
    have n : p ≠ a := fun e => ha (by rw [← e]; exact c.plF z)
    refine ⟨?_, by rw [upd_ne (Ne.symm n)]; exact h.2⟩
    rw [rem_upd_ne n]
    exact c.plPut h.1 z q
  owPut := fun {H k b o} h w t => by
    have n : b ≠ a := fun e => ha (by rw [← e]; exact c.WF (c.owW w).1)
    refine ⟨?_, by rw [upd_ne (Ne.symm n)]; exact h.2⟩
    rw [rem_upd_ne n]
    exact c.owPut h.1 w t
  tb := c.tb
  tabs := fun h => (c.tabs h.1).ext fun _ _ e => (rem_sub e).2
  ext := fun {H H1} h e t => by
    obtain ⟨o, y, s⟩ := h.2
    have y1 := e a o y (sol_tbl s)
    refine ⟨c.ext h.1 (fun b u z n => ?_) (fun p hp => ?_), o, y1, s⟩
    · obtain ⟨z1, z2⟩ := rem_sub z
      rw [rem_ne z1]
      exact e b u z2 n
    · obtain ⟨ps, t1, t2, t3⟩ := t p hp
      have n1 : p.1 ≠ a := fun q => by
        rw [q, y1] at t1
        cases t1
        cases s
      refine ⟨ps, by rw [rem_ne n1]; exact t1, t2, fun pos cv hc => ?_⟩
      obtain ⟨c1, e1, e2⟩ := t3 pos cv hc
      refine ⟨c1, e1, ?_⟩
      rw [rem_ne (fun q => ?_)]
      · exact e2
      · rw [q, y1] at e2
        cases e2
        cases s
theorem Le.hide {c : Cfg} {a : Addr} {ha : ¬ c.F a} : Le c (c.hide a ha) := ⟨rfl, fun _ z => .inl z, fun _ h => c.mono (fun _ _ e => (rem_sub e).2) h.1, fun _ z => z, fun _ _ z => z, fun _ z => ⟨.inl z.1, z.2⟩, rfl⟩
/-! ### one thing more is owned -/
def Cfg.mine (c : Cfg) (k : Nat) (a : Addr) (ha : ¬ c.F a) : Cfg where
  K := c.K
  F := fun b => c.F b ∨ b = a
  W := fun b => c.W b ∨ b = a
  G := c.G
  I := fun H => c.I (rem H a) ∧ ∃ o, H a = some o ∧ sol o = true
  pl := c.pl
  ow := fun j => if j = k then some a else c.ow j
  mono := fun {H H'} q h => ⟨c.mono (fun b u e => by
    obtain ⟨n, e⟩ := rem_sub e
    rw [rem_ne n]
    exact q b u e) h.1, by
    obtain ⟨o, z, t⟩ := h.2
    exact ⟨o, q a o z, t⟩⟩
  live := fun {H b} h z => by
    rcases z with z | z
    · intro y
      refine c.live h.1 z ?_
      by_cases e : b = a
      · rw [e, rem_same]
      · rw [rem_ne e]
        exact y
    · rw [z]
      obtain ⟨o, y, _⟩ := h.2
      exact fun q => by
        rw [y] at q
        cases q
  WF := fun z => z.elim (fun z => .inl (c.WF z)) .inr
  GW := fun z => .inl (c.GW z)
  plG := c.plG
  owW := fun {j b} e => by
    by_cases q : j = k
    · simp only [q, if_true] at e
      cases e
      exact ⟨.inr rfl, fun z => ha (c.GF z)⟩
    · simp only [q, if_false] at e
      exact ⟨.inl (c.owW e).1, (c.owW e).2⟩
  inj := fun {i j b} e1 e2 => by
    by_cases q1 : i = k <;> by_cases q2 : j = k
    · rw [q1, q2]
    · simp only [q1, q2, if_true, if_false] at e1 e2
      cases e1
      exact (ha (c.WF (c.owW e2).1)).elim
    · simp only [q1, q2, if_true, if_false] at e1 e2
      cases e2
      exact (ha (c.WF (c.owW e1).1)).elim
    · simp only [q1, q2, if_false] at e1 e2
      exact c.inj e1 e2
  plAt := fun h z => by
    obtain ⟨l, e, r⟩ := c.plAt h.1 z
    exact ⟨l, (rem_sub e).2, r⟩
  plPut := fun {H p l} h z q => by
    have n : p ≠ a := fun e => ha (by rw [← e]; exact c.plF z)
    refine ⟨?_, by rw [upd_ne (Ne.symm n)]; exact h.2⟩
    rw [rem_upd_ne n]
    exact c.plPut h.1 z q
  owPut := fun {H j b o} h w t => by
    by_cases q : j = k
    · simp only [q, if_true] at w
      cases w
      refine ⟨by rw [rem_upd]; exact h.1, o, upd_same, t⟩
    · simp only [q, if_false] at w
      have n : b ≠ a := fun e => ha (by rw [← e]; exact c.WF (c.owW w).1)
      refine ⟨?_, by rw [upd_ne (Ne.symm n)]; exact h.2⟩
      rw [rem_upd_ne n]
      exact c.owPut h.1 w t
  tb := c.tb
  tabs := fun h => (c.tabs h.1).ext fun _ _ e => (rem_sub e).2
  ext := fun {H H1} h e t => by
    obtain ⟨o, y, s⟩ := h.2
    have y1 := e a o y (sol_tbl s)
    refine ⟨c.ext h.1 (fun b u z n => ?_) (fun p hp => ?_), o, y1, s⟩
    · obtain ⟨z1, z2⟩ := rem_sub z
      rw [rem_ne z1]
      exact e b u z2 n
    · obtain ⟨ps, t1, t2, t3⟩ := t p hp
      have n1 : p.1 ≠ a := fun q => by
        rw [q, y1] at t1
        cases t1
        cases s
      refine ⟨ps, by rw [rem_ne n1]; exact t1, t2, fun pos cv hc => ?_⟩
      obtain ⟨c1, e1, e2⟩ := t3 pos cv hc
      refine ⟨c1, e1, ?_⟩
      rw [rem_ne (fun q => ?_)]
      · exact e2
      · rw [q, y1] at e2
        cases e2
        cases s
/-- no slot with this key -/
def clr (k : Nat) (Γ : Gm) : Gm := Γ.map fun s => match s with
  | .own j x => if j = k then .any else .own j x
  | s => s
/-- what was owned is data -/
def fzS (k : Nat) : Sl → Sl
  | .own j x => if j = k then .d x else .own j x
  | s => s
def fz (k : Nat) (Γ : Gm) : Gm := Γ.map (fzS k)
/-- data that stand while a is new are seen so with a that may change -/
theorem Rp.hide {c : Cfg} {H : Hp} {v : V} {d : D} {a : Addr} {ha : ¬ c.F a} (n : H a = none) (h : Rp c H v d) : Rp (c.hide a ha) H v d := by
  have no : ∀ {b : Addr} {u : HO}, Rd H b u → b ≠ a := fun {b u} z e => by
    subst e
    rcases z with z | ⟨_, z⟩ <;> (rw [n] at z; cases z)
  refine Rp.rec (motive_1 := fun v d _ => Rp (c.hide a ha) H v d) (motive_2 := fun vs ds _ => RpAll (c.hide a ha) H vs ds) (motive_3 := fun vs ds _ => RpFs (c.hide a ha) H vs ds) (motive_4 := fun vs ds _ => RpKv (c.hide a ha) H vs ds)
    .non .bl .int .str ?_ ?_ ?_ ?_ ?_ ?_ .nil ?_ .nil ?_ .nil ?_ h
  · intro b xs ds m s _ r
    exact .lst (fun z => z.elim m fun e => no (.inl s) e) s r
  · intro b xs ds s _ r
    exact .scr (s.elim (fun z => .inl ⟨fun y => y.elim z.1 (no z.2), z.2⟩) .inr) r
  · intro b xs ds s _ r
    exact .tup (s.elim (fun z => .inl ⟨fun y => y.elim z.1 (no z.2), z.2⟩) .inr) r
  · intro b C dx fs ds m s _ r
    exact .obj (fun z => z.elim m fun e => no (.inl s) e) s r
  · intro b kvs ds m s _ r
    exact .dic (fun z => z.elim m fun e => no (.inl s) e) s r
  · intro b C oe d vs ds m s e x _ r
    exact .exn (fun z => z.elim m fun e => no (.inl s) e) s e (x.in_ fun dx u m2 s2 => ⟨fun z => z.elim m2 fun e => no (.inl s2) e, s2⟩) r
  · intro v d vs ds _ _ a b
    exact .cons a b
  · intro n v d vs ds _ _ a b
    exact .cons a b
  · intro n v d vs ds _ _ a b
    exact .cons a b
theorem RpAll.hide {c : Cfg} {H : Hp} {a : Addr} {ha : ¬ c.F a} (n : H a = none) : ∀ {vs : List V} {ds : List D}, RpAll c H vs ds → RpAll (c.hide a ha) H vs ds
  | _, _, .nil => .nil
  | _, _, .cons r t => .cons (r.hide n) (RpAll.hide n t)
theorem RpFs.hide {c : Cfg} {H : Hp} {a : Addr} {ha : ¬ c.F a} (n : H a = none) : ∀ {vs : List (Str × V)} {ds : List (Str × D)}, RpFs c H vs ds → RpFs (c.hide a ha) H vs ds
  | _, _, .nil => .nil
  | _, _, .cons r t => .cons (r.hide n) (RpFs.hide n t)
theorem RpKv.hide {c : Cfg} {H : Hp} {a : Addr} {ha : ¬ c.F a} (n : H a = none) : ∀ {vs : List (Key × V)} {ds : List (Key × D)}, RpKv c H vs ds → RpKv (c.hide a ha) H vs ds
  | _, _, .nil => .nil
  | _, _, .cons r t => .cons (r.hide n) (RpKv.hide n t)
theorem XOk.hide {c : Cfg} {H : Hp} {a : Addr} {ha : ¬ c.F a} {d : Option Addr} {p : XP} (n : H a = none) (h : XOk c H d p) : XOk (c.hide a ha) H d p := by
  cases d <;> cases p <;> first | exact h | skip
  obtain ⟨vs, m, e, r⟩ := h
  refine ⟨vs, fun z => z.elim m fun y => ?_, e, r.hide n⟩
  rw [y, n] at e
  cases e
theorem OwRp.hide {c : Cfg} {H : Hp} {a b : Addr} {ha : ¬ c.F a} {d : D} (n : H a = none) (h : OwRp c H b d) : OwRp (c.hide a ha) H b d := by
  cases d <;> try exact h
  · obtain ⟨xs, e, r⟩ := h
    exact ⟨xs, e, r.hide n⟩
  · obtain ⟨dx, vs, e, r⟩ := h
    exact ⟨dx, vs, e, r.hide n⟩
  · obtain ⟨vs, e, r⟩ := h
    exact ⟨vs, e, r.hide n⟩
theorem SlOk.hide {c : Cfg} {H : Hp} {a : Addr} {ha : ¬ c.F a} {u : Option V} {s : Sl} (n : H a = none) (h : SlOk c H u s) : SlOk (c.hide a ha) H u s := by
  cases s with
  | any => trivial
  | v x => exact h
  | d x =>
    obtain ⟨v, e, r⟩ := h
    exact ⟨v, e, r.hide n⟩
  | pool => exact h
  | ex b cls dd p => exact ⟨h.1, h.2.hide n⟩
  | own j x =>
    obtain ⟨b, e, w, r⟩ := h
    exact ⟨b, e, w, r.hide n⟩
  | tab T => exact h
theorem StOk.hide {c : Cfg} {σ : St} {H H' : Hp} {Γ : Gm} {a : Addr} (ha : ¬ c.F a) (h : StOk c σ H Γ) (n : H a = none) (kp : ∀ b o, H b = some o → H' b = some o) (na : ∃ o, H' a = some o ∧ sol o = true) : StOk (c.hide a ha) σ H' Γ := by
  refine ⟨⟨c.mono (rem_in n kp) h.inv, na⟩, h.len, fun i o s e1 e2 => ?_⟩
  exact ((h.at_ i o s e1 e2).hide n).go fun b o _ _ e => kp b o e
/-- data that stand while a is new are seen so with a that may change -/
theorem Rp.mine {c : Cfg} {H : Hp} {v : V} {d : D} {k : Nat} {a : Addr} {ha : ¬ c.F a} (n : H a = none) (h : Rp c H v d) : Rp (c.mine k a ha) H v d := by
  have no : ∀ {b : Addr} {u : HO}, Rd H b u → b ≠ a := fun {b u} z e => by
    subst e
    rcases z with z | ⟨_, z⟩ <;> (rw [n] at z; cases z)
  refine Rp.rec (motive_1 := fun v d _ => Rp (c.mine k a ha) H v d) (motive_2 := fun vs ds _ => RpAll (c.mine k a ha) H vs ds) (motive_3 := fun vs ds _ => RpFs (c.mine k a ha) H vs ds) (motive_4 := fun vs ds _ => RpKv (c.mine k a ha) H vs ds)
    .non .bl .int .str ?_ ?_ ?_ ?_ ?_ ?_ .nil ?_ .nil ?_ .nil ?_ h
  · intro b xs ds m s _ r
    exact .lst (fun z => z.elim m fun e => no (.inl s) e) s r
  · intro b xs ds s _ r
    exact .scr (s.elim (fun z => .inl ⟨fun y => y.elim z.1 (no z.2), z.2⟩) .inr) r
  · intro b xs ds s _ r
    exact .tup (s.elim (fun z => .inl ⟨fun y => y.elim z.1 (no z.2), z.2⟩) .inr) r
  · intro b C dx fs ds m s _ r
    exact .obj (fun z => z.elim m fun e => no (.inl s) e) s r
  · intro b kvs ds m s _ r
    exact .dic (fun z => z.elim m fun e => no (.inl s) e) s r
  · intro b C oe d vs ds m s e x _ r
    exact .exn (fun z => z.elim m fun e => no (.inl s) e) s e (x.in_ fun dx u m2 s2 => ⟨fun z => z.elim m2 fun e => no (.inl s2) e, s2⟩) r
  · intro v d vs ds _ _ a b
    exact .cons a b
  · intro n v d vs ds _ _ a b
    exact .cons a b
  · intro n v d vs ds _ _ a b
    exact .cons a b
theorem RpAll.mine {c : Cfg} {H : Hp} {k : Nat} {a : Addr} {ha : ¬ c.F a} (n : H a = none) : ∀ {vs : List V} {ds : List D}, RpAll c H vs ds → RpAll (c.mine k a ha) H vs ds
  | _, _, .nil => .nil
  | _, _, .cons r t => .cons (r.mine n) (RpAll.mine n t)
theorem RpFs.mine {c : Cfg} {H : Hp} {k : Nat} {a : Addr} {ha : ¬ c.F a} (n : H a = none) : ∀ {vs : List (Str × V)} {ds : List (Str × D)}, RpFs c H vs ds → RpFs (c.mine k a ha) H vs ds
  | _, _, .nil => .nil
  | _, _, .cons r t => .cons (r.mine n) (RpFs.mine n t)
theorem RpKv.mine {c : Cfg} {H : Hp} {k : Nat} {a : Addr} {ha : ¬ c.F a} (n : H a = none) : ∀ {vs : List (Key × V)} {ds : List (Key × D)}, RpKv c H vs ds → RpKv (c.mine k a ha) H vs ds
  | _, _, .nil => .nil
  | _, _, .cons r t => .cons (r.mine n) (RpKv.mine n t)
theorem RpAll.le {c c' : Cfg} {H : Hp} (l : Le c c') {vs : List V} {ds : List D} (h : RpAll c' H vs ds) : RpAll c H vs ds := h.to l.K.symm l.F Kp.self
theorem XOk.mine {c : Cfg} {H : Hp} {k : Nat} {a : Addr} {ha : ¬ c.F a} {d : Option Addr} {p : XP} (n : H a = none) (h : XOk c H d p) : XOk (c.mine k a ha) H d p := by
  cases d <;> cases p <;> first | exact h | skip
  obtain ⟨vs, m, e, r⟩ := h
  refine ⟨vs, fun z => z.elim m fun y => ?_, e, r.mine n⟩
  rw [y, n] at e
  cases e
theorem OwRp.mine {c : Cfg} {H : Hp} {k : Nat} {a b : Addr} {ha : ¬ c.F a} {d : D} (n : H a = none) (h : OwRp c H b d) : OwRp (c.mine k a ha) H b d := by
  cases d <;> try exact h
  · obtain ⟨xs, e, r⟩ := h
    exact ⟨xs, e, r.mine n⟩
  · obtain ⟨dx, vs, e, r⟩ := h
    exact ⟨dx, vs, e, r.mine n⟩
  · obtain ⟨vs, e, r⟩ := h
    exact ⟨vs, e, r.mine n⟩
theorem SlOk.mine {c : Cfg} {H : Hp} {k : Nat} {a : Addr} {ha : ¬ c.F a} {u : Option V} {s : Sl} (n : H a = none) (ns : ∀ x, s ≠ .own k x) (h : SlOk c H u s) : SlOk (c.mine k a ha) H u s := by
  cases s with
  | any => trivial
  | v x => exact h
  | d x =>
    obtain ⟨v, e, r⟩ := h
    exact ⟨v, e, r.mine n⟩
  | pool => exact h
  | ex b cls dd p => exact ⟨h.1, h.2.mine n⟩
  | own j x =>
    obtain ⟨b, e, w, r⟩ := h
    have nj : j ≠ k := fun z => ns x (by rw [z])
    exact ⟨b, e, by show (if j = k then some a else c.ow j) = some b; rw [if_neg nj]; exact w, r.mine n⟩
  | tab T => exact h
theorem clr_get {k i : Nat} {Γ : Gm} {s : Sl} (h : (clr k Γ)[i]? = some s) : s = .any ∨ ((∀ x, s ≠ .own k x) ∧ Γ[i]? = some s) := by
  unfold clr at h
  rw [List.getElem?_map, Option.map_eq_some_iff] at h
  obtain ⟨t, e, z⟩ := h
  subst z
  split
  · rename_i j x
    by_cases q : j = k
    · rw [if_pos q]
      exact .inl rfl
    · rw [if_neg q]
      exact .inr ⟨fun y z => q (Sl.own.inj z).1, e⟩
  · rename_i hn
    exact .inr ⟨fun x z => hn k x z, e⟩
/-- a new thing at a is owned by key k -/
theorem StOk.mine {c : Cfg} {σ : St} {H H' : Hp} {Γ : Gm} {k : Nat} {a : Addr} (ha : ¬ c.F a) (h : StOk c σ H Γ) (n : H a = none) (kp : ∀ b o, H b = some o → H' b = some o) (na : ∃ o, H' a = some o ∧ sol o = true) : StOk (c.mine k a ha) σ H' (clr k Γ) := by
  refine ⟨⟨c.mono (rem_in n kp) h.inv, na⟩, by rw [h.len]; simp [clr], fun i o s e1 e2 => ?_⟩
  rcases clr_get e2 with z | ⟨z, e⟩
  · subst z
    trivial
  · exact ((h.at_ i o s e1 e).mine n z).go fun b o _ _ e => kp b o e
theorem SlOk.fz {c : Cfg} {H : Hp} {k : Nat} {a : Addr} {ha : ¬ c.F a} {u : Option V} {s : Sl} (h : SlOk (c.mine k a ha) H u s) : SlOk c H u (fzS k s) := by
  have lF : ∀ b, c.F b → (c.mine k a ha).F b := fun _ z => .inl z
  cases s with
  | any => trivial
  | v x => exact h
  | d x =>
    obtain ⟨v, e, r⟩ := h
    exact ⟨v, e, r.to (c := c.mine k a ha) rfl lF Kp.self⟩
  | pool => exact h
  | ex b cls dd p => exact ⟨h.1, h.2.to (c := c.mine k a ha) rfl lF Kp.self⟩
  | own j x =>
    obtain ⟨b, e, w, r⟩ := h
    have w : (if j = k then some a else c.ow j) = some b := w
    have r' := r.to (c := c.mine k a ha) (c' := c) rfl lF Kp.self fun _ _ e => e
    show SlOk c H u (if j = k then .d x else .own j x)
    by_cases q : j = k
    · rw [if_pos q] at w ⊢
      cases w
      exact ⟨_, e, r'.rp ha⟩
    · rw [if_neg q] at w ⊢
      exact ⟨b, e, w, r'⟩
  | tab T => exact h
theorem StOk.fz {c : Cfg} {σ : St} {H : Hp} {Γ : Gm} {k : Nat} {a : Addr} {ha : ¬ c.F a} (h : StOk (c.mine k a ha) σ H Γ) : StOk c σ H (fz k Γ) := by
  refine ⟨c.mono (fun _ _ e => (rem_sub e).2) h.inv.1, by rw [h.len]; simp [Dv.fz], fun i o s e1 e2 => ?_⟩
  unfold Dv.fz at e2
  rw [List.getElem?_map, Option.map_eq_some_iff] at e2
  obtain ⟨t, e, z⟩ := e2
  subst z
  exact (h.at_ i o t e1 e).fz
/-- what an owned thing holds is changed -/
theorem StOk.put {c : Cfg} {σ : St} {H : Hp} {Γ : Gm} {k i : Nat} {a : Addr} {o : HO} {x : D} (h : StOk c σ H Γ) (w : c.ow k = some a) (e : σ[i]? = some (some (.ref a))) (q : OwRp c (upd H a o) a x) (so : sol o = true := by rfl) : StOk c σ (upd H a o) ((clr k Γ).set i (.own k x)) := by
  have kk : Kp c.W H (upd H a o) := fun b u nb _ e => by
    rw [upd_ne (fun y => nb (by rw [y]; exact (c.owW w).1))]
    exact e
  refine ⟨c.owPut h.inv w so, by rw [h.len]; simp [clr], fun j u s e1 e2 => ?_⟩
  rw [List.getElem?_set] at e2
  by_cases ij : i = j
  · subst ij
    simp only [if_true] at e2
    split at e2
    · cases e2
      rw [e] at e1
      cases e1
      exact ⟨a, rfl, w, q⟩
    · cases e2
  · simp only [ij, if_false] at e2
    rcases clr_get e2 with z | ⟨z, e2⟩
    · subst z
      trivial
    · refine (h.at_ j u s e1 e2).to rfl (fun _ z => z) (fun _ z => z) (kk.le fun _ z => c.WF z) (fun n y b es wn => ⟨wn, fun o' _ e' => ?_⟩) rfl
      by_cases q : b = a
      · rw [q] at wn
        rw [c.inj wn w] at es
        exact (z y es).elim
      · rw [upd_ne q]
        exact e'
theorem StOk.hput {c : Cfg} {σ : St} {H : Hp} {Γ : Gm} {a : Addr} {ha : ¬ c.F a} {o : HO} (h : StOk (c.hide a ha) σ H Γ) (so : sol o = true := by rfl) : StOk (c.hide a ha) σ (upd H a o) Γ := by
  refine ⟨⟨by rw [rem_upd]; exact h.inv.1, o, upd_same, so⟩, h.len, fun i u s e1 e2 => ?_⟩
  have kk : Kp (c.hide a ha).F H (upd H a o) := fun b u nb _ e => by
    rw [upd_ne (fun y => nb (.inr y))]
    exact e
  refine (h.at_ i u s e1 e2).to rfl (fun _ z => z) (fun _ z => z) kk (fun n x b _ w => ⟨w, fun o' _ e' => ?_⟩) rfl
  rw [upd_ne (fun y => ha (by rw [← y]; exact c.WF (c.owW w).1))]
  exact e'
/-- all that is owned is data -/
def fzA1 : Sl → Sl
  | .own _ x => .d x
  | s => s
def fzA (Γ : Gm) : Gm := Γ.map fzA1
theorem rel_F {c : Cfg} {b : Addr} (h : c.rel.F b) : c.F b := h.1
theorem SlOk.rel {c : Cfg} {H : Hp} {u : Option V} {s : Sl} (h : SlOk c H u s) : SlOk c.rel H u (fzA1 s) := by
  have lF : ∀ b, c.rel.F b → c.F b := fun _ z => z.1
  cases s with
  | any => trivial
  | v x => exact h
  | d x =>
    obtain ⟨v, e, r⟩ := h
    exact ⟨v, e, Rp.to (c := c) (c' := c.rel) rfl lF Kp.self r⟩
  | pool => exact h
  | ex b cls dd p => exact ⟨h.1, XOk.to (c := c) (c' := c.rel) rfl lF Kp.self h.2⟩
  | own j x =>
    obtain ⟨b, e, w, r⟩ := h
    have r' := OwRp.to (c := c) (c' := c.rel) rfl lF Kp.self (fun _ _ e => e) r
    exact ⟨_, e, r'.rp fun z => (c.owW w).2 (z.2 (c.owW w).1)⟩
  | tab T => exact h
theorem StOk.rel {c : Cfg} {σ : St} {H : Hp} {Γ : Gm} (h : StOk c σ H Γ) : StOk c.rel σ H (fzA Γ) := by
  refine ⟨h.inv, by rw [h.len]; simp [fzA], fun i o s e1 e2 => ?_⟩
  unfold fzA at e2
  rw [List.getElem?_map, Option.map_eq_some_iff] at e2
  obtain ⟨t, e, z⟩ := e2
  subst z
  exact (h.at_ i o t e1 e).rel
theorem rel_mine {c : Cfg} {k : Nat} {a : Addr} {ha : ¬ c.F a} (b : Addr) (h : c.rel.F b) : (c.mine k a ha).rel.F b := ⟨.inl h.1, fun z => z.elim h.2 fun e => (ha (e ▸ h.1)).elim⟩
end Dv
set_option Elab.async false
set_option linter.all false
set_option maxRecDepth 100000
set_option maxHeartbeats 4000000
/-! De: expressions over plain data. -/
namespace Dv
open PySem L2
abbrev DK := Sl → Prop
abbrev DE := Gm → DK → Prop
abbrev DA := Gm → (List Sl → Prop) → Prop
abbrev DT := Gm → (Bool → Prop) → Prop
abbrev XW := Addr → XP → Gm → Prop
/-- W wants of an error no more than what xw tells -/
def WOk (c : Cfg) (W : WX) (xw : XW) : Prop := ∀ σ H Γ C d p, StOk c σ H Γ → XOk c H d p → xw C p Γ → W (.ref C) d σ H
theorem XOk.le {c c' : Cfg} {H : Hp} {d : Option Addr} {p : XP} (l : Le c c') (h : XOk c' H d p) : XOk c H d p := h.to l.K.symm l.F Kp.self
theorem WOk.le {c c' : Cfg} {W : WX} {xw : XW} (l : Le c c') (h : WOk c W xw) : WOk c' W xw := fun σ H Γ C d p s x q => h σ H Γ C d p (s.le l) (x.le l) q
def W0 : WX := fun _ _ _ _ => False
def xw0 : XW := fun _ _ _ => False
theorem WOk.zero {c : Cfg} {W : WX} : WOk c W xw0 := fun _ _ _ _ _ _ _ _ z => z.elim
def EvS (c : Cfg) (te : TE) (Γ : Gm) (k : DK) : Prop := ∀ σ H, StOk c σ H Γ → ∀ Q : VK, (∀ v s H2, Go c H H2 → SlOk c H2 (some v) s → k s → Q v H2) → te σ H Q
def EvAs (c : Cfg) (ta : TA) (Γ : Gm) (k : List Sl → Prop) : Prop := ∀ σ H, StOk c σ H Γ → ∀ Q : List V → Hp → Prop, (∀ vs ss H2, Go c H H2 → Paired (fun v s => SlOk c H2 (some v) s) vs ss → k ss → Q vs H2) → ta σ H Q
def EvTs (c : Cfg) (tt : TT) (Γ : Gm) (k : Bool → Prop) : Prop := ∀ σ H, StOk c σ H Γ → ∀ Q : Bool → Hp → Prop, (∀ b H2, Go c H H2 → k b → Q b H2) → tt σ H Q
def Li (K : PySem.W.Frag) (W : WX) (xw : XW) (te : TE) (de : DE) : Prop := ∀ c : Cfg, c.K = K → WOk c W xw → ∀ Γ k, de Γ k → EvS c te Γ k
def LiA (K : PySem.W.Frag) (W : WX) (xw : XW) (ta : TA) (da : DA) : Prop := ∀ c : Cfg, c.K = K → WOk c W xw → ∀ Γ k, da Γ k → EvAs c ta Γ k
def LiT (K : PySem.W.Frag) (W : WX) (xw : XW) (tt : TT) (dt : DT) : Prop := ∀ c : Cfg, c.K = K → WOk c W xw → ∀ Γ k, dt Γ k → EvTs c tt Γ k
structure PD (X : Cx) (W : WX) (xw : XW) (e : Expr) (te : TE) (de : DE) : Prop where
  pe : Takes X W → PE X e te
  li : Li X.K W xw te de
structure PDA (X : Cx) (W : WX) (xw : XW) (es : List Expr) (ta : TA) (da : DA) : Prop where
  pa : Takes X W → PA X es ta
  li : LiA X.K W xw ta da
structure PDT (X : Cx) (W : WX) (xw : XW) (e : Expr) (tt : TT) (dt : DT) : Prop where
  pt : Takes X W → PT X e tt
  li : LiT X.K W xw tt dt
structure PDW (X : Cx) (W : WX) (xw : XW) (e : Expr) (tt : TT) (dt : DT) : Prop where
  pw : Takes X W → PW X e tt
  li : LiT X.K W xw tt dt
/-! ### names and constants -/
def dVar (i : Nat) : DE := fun Γ k => match Γ[i]? with
  | some (.v x) => k (.v x)
  | some (.d x) => k (.d x)
  | some .pool => k .pool
  | some (.ex a cls dd p) => k (.ex a cls dd p)
  | some (.own n x) => k (.own n x)
  | _ => False
def dC (d : D) : DE := fun _ k => k (.d d)
def dR (v : V) : DE := fun _ k => k (.v v)
section
variable {X : Cx} {W : WX} {xw : XW} {K : PySem.W.Frag}
theorem sl_some {c : Cfg} {H : Hp} {o : Option V} {s : Sl} (h : SlOk c H o s) (n : s ≠ .any) (n2 : ∀ T, s ≠ .tab T) : ∃ v, o = some v := by
  cases s with
  | any => exact absurd rfl n
  | v x => exact ⟨x, h⟩
  | d x =>
    obtain ⟨v, e, _⟩ := h
    exact ⟨v, e⟩
  | pool =>
    obtain ⟨p, e, _⟩ := h
    exact ⟨_, e⟩
  | ex a cls dd p => exact ⟨_, h.1⟩
  | own n x =>
    obtain ⟨p, e, _⟩ := h
    exact ⟨_, e⟩
  | tab T => exact (n2 T rfl).elim
theorem li_var {i : Nat} : Li K W xw (tVar i) (dVar i) := fun c eK hW Γ k h σ H st Q q => by
  have key : ∀ s, Γ[i]? = some s → s ≠ .any → (∀ T, s ≠ .tab T) → k s → tVar i σ H Q := fun s e n n2 ks => by
    have l : i < Γ.length := (List.getElem?_eq_some_iff.mp e).1
    have l' : i < σ.length := by rw [st.len]; exact l
    have e' : σ[i]? = some σ[i] := List.getElem?_eq_some_iff.mpr ⟨l', rfl⟩
    have z := st.at_ i _ s e' e
    obtain ⟨v, ev⟩ := sl_some z n n2
    refine ⟨v, by rw [e', ev], q v s H (Go.self st.inv) (by rw [← ev]; exact z) ks⟩
  unfold dVar at h
  split at h
  · rename_i x e
    exact key _ e (by simp) (by simp) h
  · rename_i x e
    exact key _ e (by simp) (by simp) h
  · rename_i e
    exact key _ e (by simp) (by simp) h
  · rename_i e
    exact key _ e (by simp) (by simp) h
  · rename_i e
    exact key _ e (by simp) (by simp) h
  · exact h.elim
theorem li_c {v : V} {d : D} (r : ∀ c H, Rp c H v d) : Li K W xw (tC v) (dC d) := fun c eK hW Γ k h σ H st Q q => q v (.d d) H (Go.self st.inv) ⟨v, rfl, r c H⟩ h
theorem li_r {v : V} : Li K W xw (tC v) (dR v) := fun c eK hW Γ k h σ H st Q q => q v (.v v) H (Go.self st.inv) rfl h
theorem pd_v (i : Nat) {x : Str} {pos : Pos} (hN : X.N[i]? = some x := by rfl) (hv : Vis X.env.scope x := by first | exact Or.inl rfl | exact Or.inr (Or.inl rfl) | exact Or.inr (Or.inr rfl)) (hd : (x == ("__debug__" : Str)) = false := by decide) (hcd : (x == ("__classdict__" : Str)) = false := by decide) :
    PD X W xw (.Name x pos) (tVar i) (dVar i) := ⟨fun tk => pe_var hN hv hd hcd, li_var⟩
theorem pd_int {i j pos} : PD X W xw (.Constant (.int i) j pos) (tC (.int i)) (dC (.int i)) := ⟨fun tk => pe_int, li_c fun _ _ => .int _⟩
theorem pd_bl {i j pos} : PD X W xw (.Constant (.bool i) j pos) (tC (.bl i)) (dC (.bl i)) := ⟨fun tk => pe_bl, li_c fun _ _ => .bl _⟩
theorem pd_str {i j pos} : PD X W xw (.Constant (.str i) j pos) (tC (.str i)) (dC (.str i)) := ⟨fun tk => pe_str, li_c fun _ _ => .str _⟩
theorem pd_non {j pos} : PD X W xw (.Constant .none j pos) (tC .non) (dC .non) := ⟨fun tk => pe_non, li_c fun _ _ => .non⟩
theorem pd_gI {x : Str} {i : Int} {t : Tok} {pos : Pos} (hm : X.mg x = some (.int i t)) (hg : Gl X x := by rfl) (hd : (x == ("__debug__" : Str)) = false := by decide) : PD X W xw (.Name x pos) (tC (.int i)) (dC (.int i)) := ⟨fun tk => pe_glob hg hm ⟨_, rfl⟩ hd, li_c fun _ _ => .int _⟩
theorem pd_gS {x : Str} {i : Str} {t : Tok} {pos : Pos} (hm : X.mg x = some (.str i t)) (hg : Gl X x := by rfl) (hd : (x == ("__debug__" : Str)) = false := by decide) : PD X W xw (.Name x pos) (tC (.str i)) (dC (.str i)) := ⟨fun tk => pe_glob hg hm ⟨_, rfl⟩ hd, li_c fun _ _ => .str _⟩
/-- a built-in class as a value; a class of the text -/
theorem pd_ty {x : Str} {T : String} {pos : Pos} (hm : X.mg x = none) (hv : bootBuiltins x = some (.type T)) (hg : Gl X x := by rfl) (hn : x ≠ "__name__" := by decide) (hd : (x == ("__debug__" : Str)) = false := by decide) : PD X W xw (.Name x pos) (tC (.ty T)) (dR (.ty T)) := ⟨fun tk => pe_bltn hg hm hv rfl hn hd, li_r⟩
theorem pd_cls {x : Str} {C : Addr} {pos : Pos} (hm : X.mg x = some (.ref C)) (hg : Gl X x := by rfl) (hd : (x == ("__debug__" : Str)) = false := by decide) : PD X W xw (.Name x pos) (tC (.ref C)) (dR (.ref C)) := ⟨fun tk => pe_glob hg hm rfl hd, li_r⟩
/-! ### arguments, displays -/
def dNil : DA := fun _ k => k []
def dCons (a : DE) (r : DA) : DA := fun Γ k => a Γ fun s => r Γ fun ss => k (s :: ss)
theorem pda_nil : PDA X W xw [] tNil dNil := ⟨fun tk => pa_nil, fun c eK hW Γ k h σ H st Q q => q [] [] H (Go.self st.inv) .nil h⟩
theorem pda_cons {e : Expr} {es : List Expr} {te : TE} {ta : TA} {de : DE} {da : DA} (a : PD X W xw e te de) (r : PDA X W xw es ta da) (hs : starEach (e :: es) X.env = (false, eval e X.env) :: starEach es X.env := by rfl) : PDA X W xw (e :: es) (tCons te ta) (dCons de da) :=
  ⟨fun tk => pa_cons (a.pe tk) (r.pa tk) hs, fun c eK hW Γ k h σ H st Q q => a.li c eK hW Γ _ h σ H st _ fun v s H1 g1 r1 h1 => r.li c eK hW Γ _ h1 σ H1 (st.go g1) _ fun vs ss H2 g2 r2 h2 => q (v :: vs) (s :: ss) H2 (g1.trans g2) (.cons (r1.go g2.keep) r2) h2⟩
/-- data alone -/
def unD : List Sl → Option (List D)
  | [] => some []
  | .d x :: r => (unD r).map (x :: ·)
  | _ :: _ => none
theorem unD_ok {c : Cfg} {H : Hp} : ∀ {vs : List V} {ss : List Sl} {ds : List D}, Paired (fun v s => SlOk c H (some v) s) vs ss → unD ss = some ds → RpAll c H vs ds
  | _, _, _, .nil, e => by
    cases e
    exact .nil
  | _, s :: ss, ds, .cons r t, e => by
    cases s with
    | d x =>
      rw [unD, Option.map_eq_some_iff] at e
      obtain ⟨es, e1, e2⟩ := e
      subst e2
      obtain ⟨v, ev, rv⟩ := r
      cases ev
      exact .cons rv (unD_ok t e1)
    | any => cases e
    | v x => cases e
    | pool => cases e
    | ex _ _ _ _ => cases e
    | own _ _ => cases e
    | tab _ => cases e
def dTup (a : DA) : DE := fun Γ k => a Γ fun ss => match unD ss with
  | some ds => ds.length ≤ 100000 ∧ k (.d (.tup ds))
  | none => False
def dLst (a : DA) : DE := fun Γ k => a Γ fun ss => match unD ss with
  | some ds => ds.length ≤ 100000 ∧ k (.d (.lst ds))
  | none => False
theorem sz {n : Nat} (h : n ≤ 100000) : n ≤ sizeLine := Nat.le_trans h (by decide)
theorem rp_newL {c : Cfg} {H : Hp} {p : Addr} {vs : List V} {ds : List D} (hi : c.I H) (n : H p = none) (r : RpAll c H vs ds) : Rp c (upd H p (.lst vs)) (.ref p) (.lst ds) :=
  .lst (c.fresh hi n) upd_same (r.go (Kp.new n))
theorem rp_newT {c : Cfg} {H : Hp} {p : Addr} {vs : List V} {ds : List D} (hi : c.I H) (n : H p = none) (r : RpAll c H vs ds) : Rp c (upd H p (.tup vs)) (.ref p) (.tup ds) :=
  .tup (.inl ⟨c.fresh hi n, .inl upd_same⟩) (r.go (Kp.new n))
theorem pd_tup {es : List Expr} {ta : TA} {da : DA} {x1 : _} {pos : Pos} (a : PDA X W xw es ta da) : PD X W xw (.Tuple es x1 pos) (tTup ta) (dTup da) :=
  ⟨fun tk => pe_tup (a.pa tk), fun c eK hW Γ k h σ H st Q q => a.li c eK hW Γ _ h σ H st _ fun vs ss H1 g1 r1 h1 => by
    split at h1
    · rename_i ds e
      have rr := unD_ok r1 e
      exact ⟨by rw [rr.length]; exact sz h1.1, fun p n => q _ (.d (.tup ds)) _ (g1.trans (Go.new g1.inv n)) ⟨_, rfl, rp_newT g1.inv n rr⟩ h1.2⟩
    · exact h1.elim⟩
theorem pd_lst {es : List Expr} {ta : TA} {da : DA} {pos : Pos} (a : PDA X W xw es ta da) : PD X W xw (.List es pos) (tLst ta) (dLst da) :=
  ⟨fun tk => pe_lst (a.pa tk), fun c eK hW Γ k h σ H st Q q => a.li c eK hW Γ _ h σ H st _ fun vs ss H1 g1 r1 h1 => by
    split at h1
    · rename_i ds e
      have rr := unD_ok r1 e
      exact ⟨by rw [rr.length]; exact sz h1.1, fun p n => q _ (.d (.lst ds)) _ (g1.trans (Go.new g1.inv n)) ⟨_, rfl, rp_newL g1.inv n rr⟩ h1.2⟩
    · exact h1.elim⟩
/-! ### operations on two values -/
def O2 (K : PySem.W.Frag) (r : R2) (g : Sl → Sl → DK → Prop) : Prop := ∀ (c : Cfg) (H : Hp) (x y : V) (s t : Sl) (k : DK) (Q : VK), c.K = K → c.I H → SlOk c H (some x) s → SlOk c H (some y) t → g s t k →
  (∀ v u H2, Go c H H2 → SlOk c H2 (some v) u → k u → Q v H2) → r x y H Q
def dOp (g : Sl → Sl → DK → Prop) (a b : DE) : DE := fun Γ k => a Γ fun s => b Γ fun t => g s t k
theorem li_op {r : R2} {g : Sl → Sl → DK → Prop} {ta tb : TE} {a b : DE} (o : O2 K r g) (ha : Li K W xw ta a) (hb : Li K W xw tb b) : Li K W xw (tOp r ta tb) (dOp g a b) := fun c eK hW Γ k h σ H st Q q =>
  ha c eK hW Γ _ h σ H st _ fun v s H1 g1 r1 h1 => hb c eK hW Γ _ h1 σ H1 (st.go g1) _ fun u t H2 g2 r2 h2 =>
    o c H2 v u s t k Q eK g2.inv (r1.go g2.keep) r2 h2 fun z w H3 g3 r3 h3 => q z w H3 ((g1.trans g2).trans g3) r3 h3
/-- ints -/
def gI (C : Int → Int → Prop) (g : Int → Int → D) : Sl → Sl → DK → Prop := fun s t k => match s, t with
  | .d (.int i), .d (.int j) => C i j ∧ k (.d (g i j))
  | _, _ => False
def gI0 (g : Int → Int → D) : Sl → Sl → DK → Prop := fun s t k => match s, t with
  | .d (.int i), .d (.int j) => k (.d (g i j))
  | _, _ => False
theorem rp_int {c : Cfg} {H : Hp} {v : V} {i : Int} (h : Rp c H v (.int i)) : v = .int i := by
  cases h
  rfl
theorem rp_bl {c : Cfg} {H : Hp} {v : V} {i : Bool} (h : Rp c H v (.bl i)) : v = .bl i := by
  cases h
  rfl
theorem rp_str {c : Cfg} {H : Hp} {v : V} {i : Str} (h : Rp c H v (.str i)) : v = .str i := by
  cases h
  rfl
theorem sl_int {c : Cfg} {H : Hp} {v : V} {i : Int} (h : SlOk c H (some v) (.d (.int i))) : v = .int i := by
  obtain ⟨w, e, r⟩ := h
  cases e
  exact rp_int r
theorem sl_bl {c : Cfg} {H : Hp} {v : V} {i : Bool} (h : SlOk c H (some v) (.d (.bl i))) : v = .bl i := by
  obtain ⟨w, e, r⟩ := h
  cases e
  exact rp_bl r
theorem sl_str {c : Cfg} {H : Hp} {v : V} {i : Str} (h : SlOk c H (some v) (.d (.str i))) : v = .str i := by
  obtain ⟨w, e, r⟩ := h
  cases e
  exact rp_str r
theorem o2_I {C : Int → Int → Prop} {f : Int → Int → V} {g : Int → Int → D} (r : ∀ i j c H, Rp c H (f i j) (g i j)) : O2 K (rI C f) (gI C g) := fun c H x y s t k Q eK hi rs rt h q => by
  unfold gI at h
  split at h
  · exact ⟨_, _, sl_int rs, sl_int rt, h.1, q _ (.d (g _ _)) H (Go.self hi) ⟨_, rfl, r _ _ c H⟩ h.2⟩
  · exact h.elim
theorem o2_I0 {f : Int → Int → V} {g : Int → Int → D} (r : ∀ i j c H, Rp c H (f i j) (g i j)) : O2 K (rI0 f) (gI0 g) := fun c H x y s t k Q eK hi rs rt h q => by
  unfold gI0 at h
  split at h
  · exact ⟨_, _, sl_int rs, sl_int rt, q _ (.d (g _ _)) H (Go.self hi) ⟨_, rfl, r _ _ c H⟩ h⟩
  · exact h.elim
section
variable {a b cc : Expr} {ta tb tc : TE} {da db dc : DE} {pos : Pos}
theorem pd_addI (x : PD X W xw a ta da) (y : PD X W xw b tb db) : PD X W xw (.BinOp a .Add b pos) (tOp (rI0 fun i j => .int (i + j)) ta tb) (dOp (gI0 fun i j => .int (i + j)) da db) := ⟨fun tk => pe_op op_add (x.pe tk) (y.pe tk), li_op (o2_I0 fun _ _ _ _ => .int _) x.li y.li⟩
theorem pd_sub (x : PD X W xw a ta da) (y : PD X W xw b tb db) : PD X W xw (.BinOp a .Sub b pos) (tOp (rI0 fun i j => .int (i - j)) ta tb) (dOp (gI0 fun i j => .int (i - j)) da db) := ⟨fun tk => pe_op op_sub (x.pe tk) (y.pe tk), li_op (o2_I0 fun _ _ _ _ => .int _) x.li y.li⟩
theorem pd_mul (x : PD X W xw a ta da) (y : PD X W xw b tb db) : PD X W xw (.BinOp a .Mult b pos) (tOp (rI CMulW fun i j => .int (i * j)) ta tb) (dOp (gI CMulW fun i j => .int (i * j)) da db) := ⟨fun tk => pe_op op_mulW (x.pe tk) (y.pe tk), li_op (o2_I fun _ _ _ _ => .int _) x.li y.li⟩
theorem pd_fdiv (x : PD X W xw a ta da) (y : PD X W xw b tb db) : PD X W xw (.BinOp a .FloorDiv b pos) (tOp (rI CDivW fun i j => .int (i / j)) ta tb) (dOp (gI CDivW fun i j => .int (i / j)) da db) := ⟨fun tk => pe_op op_fdivW (x.pe tk) (y.pe tk), li_op (o2_I fun _ _ _ _ => .int _) x.li y.li⟩
theorem pd_mod (x : PD X W xw a ta da) (y : PD X W xw b tb db) : PD X W xw (.BinOp a .Mod b pos) (tOp (rI (fun _ j => 0 < j) fun i j => .int (i % j)) ta tb) (dOp (gI (fun _ j => 0 < j) fun i j => .int (i % j)) da db) := ⟨fun tk => pe_op op_mod (x.pe tk) (y.pe tk), li_op (o2_I fun _ _ _ _ => .int _) x.li y.li⟩
theorem pd_pow (x : PD X W xw a ta da) (y : PD X W xw b tb db) : PD X W xw (.BinOp a .Pow b pos) (tOp (rI CPow fun i j => .int (i ^ j.toNat)) ta tb) (dOp (gI CPow fun i j => .int (i ^ j.toNat)) da db) := ⟨fun tk => pe_op op_pow (x.pe tk) (y.pe tk), li_op (o2_I fun _ _ _ _ => .int _) x.li y.li⟩
theorem pd_lt (x : PD X W xw a ta da) (y : PD X W xw b tb db) : PD X W xw (.Compare a [.Lt] [b] pos) (tOp (rI0 fun i j => .bl (decide (i < j))) ta tb) (dOp (gI0 fun i j => .bl (decide (i < j))) da db) := ⟨fun tk => pe_cmpR op_lt (x.pe tk) (y.pe tk) (nomark _), li_op (o2_I0 fun _ _ _ _ => .bl _) x.li y.li⟩
theorem pd_le (x : PD X W xw a ta da) (y : PD X W xw b tb db) : PD X W xw (.Compare a [.LtE] [b] pos) (tOp (rI0 fun i j => .bl (decide (i ≤ j))) ta tb) (dOp (gI0 fun i j => .bl (decide (i ≤ j))) da db) := ⟨fun tk => pe_cmpR op_le (x.pe tk) (y.pe tk) (nomark _), li_op (o2_I0 fun _ _ _ _ => .bl _) x.li y.li⟩
theorem pd_gt (x : PD X W xw a ta da) (y : PD X W xw b tb db) : PD X W xw (.Compare a [.Gt] [b] pos) (tOp (rI0 fun i j => .bl (decide (j < i))) ta tb) (dOp (gI0 fun i j => .bl (decide (j < i))) da db) := ⟨fun tk => pe_cmpR op_gt (x.pe tk) (y.pe tk) (nomark _), li_op (o2_I0 fun _ _ _ _ => .bl _) x.li y.li⟩
theorem pd_ge (x : PD X W xw a ta da) (y : PD X W xw b tb db) : PD X W xw (.Compare a [.GtE] [b] pos) (tOp (rI0 fun i j => .bl (decide (j ≤ i))) ta tb) (dOp (gI0 fun i j => .bl (decide (j ≤ i))) da db) := ⟨fun tk => pe_cmpR op_ge (x.pe tk) (y.pe tk) (nomark _), li_op (o2_I0 fun _ _ _ _ => .bl _) x.li y.li⟩
end
end
end Dv
set_option Elab.async false
set_option linter.all false
set_option maxRecDepth 100000
set_option maxHeartbeats 4000000
/-! De2: equality, tests, places, built-ins. -/
namespace Dv
open PySem L2
/-! ### equality of data -/
mutual
def toPy : D → PyData
  | .non => .none
  | .bl b => .bool b
  | .int i => .int i
  | .str x => .str x
  | .lst xs => .list (toPys xs)
  | .tup xs => .tuple (toPys xs)
  | .obj _ _ => .dict []
  | .dic _ => .dict []
  | .exn _ _ => .dict []
  | .scr _ => .dict []
def toPys : List D → List PyData
  | [] => []
  | x :: r => toPy x :: toPys r
end
def okD (d : D) : Bool := SeqAt.shaped (toPy d)
def deq (d e : D) : Bool := PyData.eqv (toPy d) (toPy e)
theorem rp_dp {c : Cfg} {H : Hp} {v : V} {d : D} (h : Rp c H v d) (o : (toPy d).canLay0 = true) : Dp c.K H v (toPy d) := by
  refine Rp.rec (motive_1 := fun v d _ => (toPy d).canLay0 = true → Dp c.K H v (toPy d)) (motive_2 := fun vs ds _ => PyData.canLayAll0 (toPys ds) = true → DpAll c.K H vs (toPys ds)) (motive_3 := fun _ _ _ => True) (motive_4 := fun _ _ _ => True)
    ?_ ?_ ?_ ?_ ?_ ?_ ?_ ?_ ?_ ?_ ?_ ?_ trivial ?_ trivial ?_ h o
  · exact fun _ => .non
  · exact fun b _ => .bl b
  · exact fun b _ => .int b
  · exact fun b _ => .str b
  · intro a xs ds _ s _ r o
    exact .lst (.inl (.inl s)) (r (by simpa [toPy, PyData.canLay0] using o))
  · intro a xs ds s _ r o
    simp [toPy, PyData.canLay0] at o
  · intro a xs ds s _ r o
    exact .tup s.sq (r (by simpa [toPy, PyData.canLay0] using o))
  · intro a C dx fs ds _ _ _ _ o
    simp [toPy, PyData.canLay0] at o
  · intro a kvs ds _ _ _ _ o
    simp [toPy, PyData.canLay0] at o
  · intro a C oe d vs ds _ _ _ _ _ _ o
    simp [toPy, PyData.canLay0] at o
  · intro _
    exact .nil
  · intro v d vs ds _ _ a b o
    have o' : (toPy d).canLay0 = true ∧ PyData.canLayAll0 (toPys ds) = true := by simpa [toPys, PyData.canLayAll0] using o
    exact .cons (a o'.1) (b o'.2)
  · intros
    trivial
  · intros
    trivial
def gEq : Sl → Sl → DK → Prop := fun s t k => match s, t with
  | .d x, .d y => okD x = true ∧ okD y = true ∧ k (.d (.bl (deq x y)))
  | _, _ => False
def gNe : Sl → Sl → DK → Prop := fun s t k => match s, t with
  | .d x, .d y => okD x = true ∧ okD y = true ∧ k (.d (.bl (!deq x y)))
  | _, _ => False
section
variable {X : Cx} {W : WX} {xw : XW} {K : PySem.W.Frag}
theorem o2_eq : O2 K (rEqD K) gEq := fun c H x y s t k Q eK hi rs rt h q => by
  unfold gEq at h
  split at h
  · rename_i x' y'
    obtain ⟨h1, h2, h3⟩ := h
    obtain ⟨w, e, r⟩ := rs
    cases e
    obtain ⟨w, e, r'⟩ := rt
    cases e
    subst eK
    exact ⟨_, _, rp_dp r (SeqAt.canLay_of_shaped h1), rp_dp r' (SeqAt.canLay_of_shaped h2), h1, h2, q _ (.d (.bl _)) H (Go.self hi) ⟨_, rfl, .bl _⟩ h3⟩
  · exact h.elim
theorem o2_ne : O2 K (rNeD K) gNe := fun c H x y s t k Q eK hi rs rt h q => by
  unfold gNe at h
  split at h
  · rename_i x' y'
    obtain ⟨h1, h2, h3⟩ := h
    obtain ⟨w, e, r⟩ := rs
    cases e
    obtain ⟨w, e, r'⟩ := rt
    cases e
    subst eK
    exact ⟨_, _, rp_dp r (SeqAt.canLay_of_shaped h1), rp_dp r' (SeqAt.canLay_of_shaped h2), h1, h2, q _ (.d (.bl _)) H (Go.self hi) ⟨_, rfl, .bl _⟩ h3⟩
  · exact h.elim
section
variable {a b cc : Expr} {ta tb tc : TE} {da db dc : DE} {pos : Pos}
theorem pd_eq (hu : X.A.units + 64 < cLine) (x : PD X W xw a ta da) (y : PD X W xw b tb db) : PD X W xw (.Compare a [.Eq] [b] pos) (tOp (rEqD X.K) ta tb) (dOp gEq da db) := ⟨fun tk => pe_cmpR (op_eqD hu) (x.pe tk) (y.pe tk) (nomark _), li_op o2_eq x.li y.li⟩
theorem pd_ne (hu : X.A.units + 64 < cLine) (x : PD X W xw a ta da) (y : PD X W xw b tb db) : PD X W xw (.Compare a [.NotEq] [b] pos) (tOp (rNeD X.K) ta tb) (dOp gNe da db) := ⟨fun tk => pe_cmpR (op_neD hu) (x.pe tk) (y.pe tk) (nomark _), li_op o2_ne x.li y.li⟩
/-! ### is None -/
def isNon : D → Bool
  | .non => true
  | _ => false
def gIsN : Sl → Sl → DK → Prop := fun s t k => match s, t with
  | .d x, .d .non => k (.d (.bl (isNon x)))
  | _, _ => False
def gNotN : Sl → Sl → DK → Prop := fun s t k => match s, t with
  | .d x, .d .non => k (.d (.bl (!isNon x)))
  | _, _ => False
theorem rp_isNon {c : Cfg} {H : Hp} {v : V} {d : D} (h : Rp c H v d) : decide (v = .non) = isNon d := by
  cases h <;> simp [isNon]
theorem sl_non {c : Cfg} {H : Hp} {v : V} (h : SlOk c H (some v) (.d .non)) : v = .non := by
  obtain ⟨w, e, r⟩ := h
  cases e
  cases r
  rfl
theorem o2_isN : O2 K (fun x y H Q => y = .non ∧ Q (.bl (decide (x = .non))) H) gIsN := fun c H x y s t k Q eK hi rs rt h q => by
  unfold gIsN at h
  split at h
  · rename_i x'
    refine ⟨sl_non rt, ?_⟩
    obtain ⟨w, e, r⟩ := rs
    cases e
    rw [rp_isNon r]
    exact q _ (.d (.bl _)) H (Go.self hi) ⟨_, rfl, .bl _⟩ h
  · exact h.elim
theorem o2_notN : O2 K (fun x y H Q => y = .non ∧ Q (.bl (!decide (x = .non))) H) gNotN := fun c H x y s t k Q eK hi rs rt h q => by
  unfold gNotN at h
  split at h
  · rename_i x'
    refine ⟨sl_non rt, ?_⟩
    obtain ⟨w, e, r⟩ := rs
    cases e
    rw [rp_isNon r]
    exact q _ (.d (.bl _)) H (Go.self hi) ⟨_, rfl, .bl _⟩ h
  · exact h.elim
theorem pd_isN (x : PD X W xw a ta da) (y : PD X W xw b tb db) : PD X W xw (.Compare a [.Is] [b] pos) (tOp (fun x y H Q => y = .non ∧ Q (.bl (decide (x = .non))) H) ta tb) (dOp gIsN da db) := ⟨fun tk => pe_cmpR op_isN (x.pe tk) (y.pe tk) (nomark _), li_op o2_isN x.li y.li⟩
theorem pd_notN (x : PD X W xw a ta da) (y : PD X W xw b tb db) : PD X W xw (.Compare a [.IsNot] [b] pos) (tOp (fun x y H Q => y = .non ∧ Q (.bl (!decide (x = .non))) H) ta tb) (dOp gNotN da db) := ⟨fun tk => pe_cmpR op_notN (x.pe tk) (y.pe tk) (nomark _), li_op o2_notN x.li y.li⟩
/-! ### a op b op c -/
def dChain (g g' : Sl → Sl → DK → Prop) (a b c : DE) : DE := fun Γ k => a Γ fun s => b Γ fun t => g s t fun z => match z with
  | .d (.bl true) => c Γ fun u => g' t u k
  | .d (.bl false) => k (.d (.bl false))
  | _ => False
theorem li_chain {r r' : R2} {g g' : Sl → Sl → DK → Prop} (o : O2 K r g) (o' : O2 K r' g') (ha : Li K W xw ta da) (hb : Li K W xw tb db) (hc : Li K W xw tc dc) : Li K W xw (tChain r r' ta tb tc) (dChain g g' da db dc) := fun c eK hW Γ k h σ H st Q q =>
  ha c eK hW Γ _ h σ H st _ fun v s H1 g1 r1 h1 => hb c eK hW Γ _ h1 σ H1 (st.go g1) _ fun u t H2 g2 r2 h2 =>
    o c H2 v u s t _ _ eK g2.inv (r1.go g2.keep) r2 h2 fun z w H3 g3 r3 h3 => by
      have g13 := (g1.trans g2).trans g3
      try dsimp only at h3
      split at h3
      · refine ⟨true, sl_bl r3, ?_⟩
        rw [if_pos rfl]
        exact hc c eK hW Γ _ h3 σ H3 (st.go g13) _ fun y w H4 g4 r4 h4 => o' c H4 u y t w k Q eK g4.inv ((r2.go g3.keep).go g4.keep) r4 h4 fun z1 w1 H5 g5 r5 h5 => q z1 w1 H5 ((g13.trans g4).trans g5) r5 h5
      · refine ⟨false, sl_bl r3, ?_⟩
        rw [if_neg Bool.false_ne_true]
        exact q _ (.d (.bl false)) H3 g13 ⟨_, rfl, .bl _⟩ h3
      · exact h3.elim
def gLt := gI0 fun i j => .bl (decide (i < j))
def gLe := gI0 fun i j => .bl (decide (i ≤ j))
theorem pd_chLeLe (x : PD X W xw a ta da) (y : PD X W xw b tb db) (z : PD X W xw cc tc dc) (hm : lastMarks [.LtE, .LtE] [b, cc] = false := by with_unfolding_all rfl) : PD X W xw (.Compare a [.LtE, .LtE] [b, cc] pos) (tChain (rI0 fun i j => .bl (decide (i ≤ j))) (rI0 fun i j => .bl (decide (i ≤ j))) ta tb tc) (dChain gLe gLe da db dc) :=
  ⟨fun tk => pe_chain op_le op_le (x.pe tk) (y.pe tk) (z.pe tk) hm, li_chain (o2_I0 fun _ _ _ _ => .bl _) (o2_I0 fun _ _ _ _ => .bl _) x.li y.li z.li⟩
theorem pd_chLeLt (x : PD X W xw a ta da) (y : PD X W xw b tb db) (z : PD X W xw cc tc dc) (hm : lastMarks [.LtE, .Lt] [b, cc] = false := by with_unfolding_all rfl) : PD X W xw (.Compare a [.LtE, .Lt] [b, cc] pos) (tChain (rI0 fun i j => .bl (decide (i ≤ j))) (rI0 fun i j => .bl (decide (i < j))) ta tb tc) (dChain gLe gLt da db dc) :=
  ⟨fun tk => pe_chain op_le op_lt (x.pe tk) (y.pe tk) (z.pe tk) hm, li_chain (o2_I0 fun _ _ _ _ => .bl _) (o2_I0 fun _ _ _ _ => .bl _) x.li y.li z.li⟩
/-! ### tests -/
def dB (a : DE) : DT := fun Γ k => a Γ fun s => match s with
  | .d (.bl b) => k b
  | _ => False
theorem li_b {t : TE} {d : DE} (h : Li K W xw t d) : LiT K W xw (tB t) (dB d) := fun c eK hW Γ k hk σ H st Q q => h c eK hW Γ _ hk σ H st _ fun v s H1 g1 r1 h1 => by
  try dsimp only at h1
  split at h1
  · exact ⟨_, sl_bl r1, q _ H1 g1 h1⟩
  · exact h1.elim
theorem pdt_val (h : PD X W xw a ta da) (he : ∀ whole, isTrue a X.env whole = (do let v ← whole; standAt a.pos; holding [v] (truthy v)) := by intro _; rfl) : PDT X W xw a (tB ta) (dB da) := ⟨fun tk => pt_val (h.pe tk) he, li_b h.li⟩
/-- a comparison as a test -/
theorem pdt_cmp {op : CmpOp} {r : R2} {g : Sl → Sl → DK → Prop} (ho : OpR X (compareOp op) r) (o : O2 X.K r g) (x : PD X W xw a ta da) (y : PD X W xw b tb db) (hm : behindInMarks op b = false) : PDT X W xw (.Compare a [op] [b] pos) (tTest (tOp r ta tb)) (dB (dOp g da db)) :=
  ⟨fun tk => pt_cmpR ho (x.pe tk) (y.pe tk) hm, li_b (li_op o x.li y.li)⟩
def dAnd (t u : DT) : DT := fun Γ k => t Γ fun b => cond b (u Γ k) (k false)
def dOr (t u : DT) : DT := fun Γ k => t Γ fun b => cond b (k true) (u Γ k)
def dNot (t : DT) : DT := fun Γ k => t Γ fun b => k (!b)
section
variable {t u : TT} {d e : DT} {rest : List Expr}
theorem pdw_pt (h : PDW X W xw a t d) : PDT X W xw a t d := ⟨fun tk => (h.pw tk).pt, h.li⟩
theorem pdw_and1 (h : PDT X W xw a t d) : PDW X W xw (.BoolOp .And [a] pos) t d := ⟨fun tk => pw_and1 (h.pt tk), h.li⟩
theorem pdw_or1 (h : PDT X W xw a t d) : PDW X W xw (.BoolOp .Or [a] pos) t d := ⟨fun tk => pw_or1 (h.pt tk), h.li⟩
theorem pdw_and (h : PDT X W xw a t d) (h' : PDW X W xw (.BoolOp .And (b :: rest) pos) u e) : PDW X W xw (.BoolOp .And (a :: b :: rest) pos) (tAnd t u) (dAnd d e) :=
  ⟨fun tk => pw_and (h.pt tk) (h'.pw tk), fun c eK hW Γ k hk σ H st Q q => h.li c eK hW Γ _ hk σ H st _ fun v H1 g1 h1 => by
    cases v
    · rw [if_neg Bool.false_ne_true]
      exact q false H1 g1 h1
    · rw [if_pos rfl]
      exact h'.li c eK hW Γ _ h1 σ H1 (st.go g1) _ fun w H2 g2 h2 => q w H2 (g1.trans g2) h2⟩
theorem pdw_or (h : PDT X W xw a t d) (h' : PDW X W xw (.BoolOp .Or (b :: rest) pos) u e) : PDW X W xw (.BoolOp .Or (a :: b :: rest) pos) (tOr t u) (dOr d e) :=
  ⟨fun tk => pw_or (h.pt tk) (h'.pw tk), fun c eK hW Γ k hk σ H st Q q => h.li c eK hW Γ _ hk σ H st _ fun v H1 g1 h1 => by
    cases v
    · rw [if_neg Bool.false_ne_true]
      exact h'.li c eK hW Γ _ h1 σ H1 (st.go g1) _ fun w H2 g2 h2 => q w H2 (g1.trans g2) h2
    · rw [if_pos rfl]
      exact q true H1 g1 h1⟩
theorem pdt_not (h : PDT X W xw a t d) : PDT X W xw (.UnaryOp .Not a pos) (tNot t) (dNot d) := ⟨fun tk => pt_not (h.pt tk), fun c eK hW Γ k hk σ H st Q q => h.li c eK hW Γ _ hk σ H st _ fun v H1 g1 h1 => q (!v) H1 g1 h1⟩
/-! ### and, or, not as values -/
def dAndV (a b : DE) : DE := fun Γ k => a Γ fun s => match s with
  | .d (.bl true) => b Γ k
  | .d (.bl false) => k (.d (.bl false))
  | _ => False
def dOrV (a b : DE) : DE := fun Γ k => a Γ fun s => match s with
  | .d (.bl true) => k (.d (.bl true))
  | .d (.bl false) => b Γ k
  | _ => False
def dNotV (a : DE) : DE := fun Γ k => a Γ fun s => match s with
  | .d (.bl b) => k (.d (.bl (!b)))
  | _ => False
theorem pd_one {op} (h : PD X W xw a ta da) : PD X W xw (.BoolOp op [a] pos) ta da := ⟨fun tk => pe_one (h.pe tk), h.li⟩
theorem pd_and (h : PD X W xw a ta da) (h' : PD X W xw (.BoolOp .And (b :: rest) pos) tb db) : PD X W xw (.BoolOp .And (a :: b :: rest) pos) (tAndV ta tb) (dAndV da db) :=
  ⟨fun tk => pe_and (h.pe tk) (h'.pe tk), fun c eK hW Γ k hk σ H st Q q => h.li c eK hW Γ _ hk σ H st _ fun v s H1 g1 r1 h1 => by
    try dsimp only at h1
    split at h1
    · refine ⟨true, sl_bl r1, ?_⟩
      rw [if_pos rfl]
      exact h'.li c eK hW Γ _ h1 σ H1 (st.go g1) _ fun w s2 H2 g2 r2 h2 => q w s2 H2 (g1.trans g2) r2 h2
    · refine ⟨false, sl_bl r1, ?_⟩
      rw [if_neg Bool.false_ne_true]
      exact q _ (.d (.bl false)) H1 g1 ⟨_, rfl, .bl _⟩ h1
    · exact h1.elim⟩
theorem pd_or (h : PD X W xw a ta da) (h' : PD X W xw (.BoolOp .Or (b :: rest) pos) tb db) : PD X W xw (.BoolOp .Or (a :: b :: rest) pos) (tOrV ta tb) (dOrV da db) :=
  ⟨fun tk => pe_or (h.pe tk) (h'.pe tk), fun c eK hW Γ k hk σ H st Q q => h.li c eK hW Γ _ hk σ H st _ fun v s H1 g1 r1 h1 => by
    try dsimp only at h1
    split at h1
    · refine ⟨true, sl_bl r1, ?_⟩
      rw [if_pos rfl]
      exact q _ (.d (.bl true)) H1 g1 ⟨_, rfl, .bl _⟩ h1
    · refine ⟨false, sl_bl r1, ?_⟩
      rw [if_neg Bool.false_ne_true]
      exact h'.li c eK hW Γ _ h1 σ H1 (st.go g1) _ fun w s2 H2 g2 r2 h2 => q w s2 H2 (g1.trans g2) r2 h2
    · exact h1.elim⟩
theorem pd_not (h : PD X W xw a ta da) : PD X W xw (.UnaryOp .Not a pos) (tNotV ta) (dNotV da) :=
  ⟨fun tk => pe_not (h.pe tk), fun c eK hW Γ k hk σ H st Q q => h.li c eK hW Γ _ hk σ H st _ fun v s H1 g1 r1 h1 => by
    try dsimp only at h1
    split at h1
    · exact ⟨_, sl_bl r1, q _ (.d (.bl _)) H1 g1 ⟨_, rfl, .bl _⟩ h1⟩
    · exact h1.elim⟩
def dIf (t : DT) (a b : DE) : DE := fun Γ k => t Γ fun v => cond v (a Γ k) (b Γ k)
theorem pd_ifExp {c0 : Expr} (hc : PDT X W xw c0 t d) (ha : PD X W xw a ta da) (hb : PD X W xw b tb db) : PD X W xw (.IfExp c0 a b pos) (tIf t ta tb) (dIf d da db) :=
  ⟨fun tk => pe_ifExp (hc.pt tk) (ha.pe tk) (hb.pe tk), fun c eK hW Γ k hk σ H st Q q => hc.li c eK hW Γ _ hk σ H st _ fun v H1 g1 h1 => by
    cases v
    · rw [if_neg Bool.false_ne_true]
      exact hb.li c eK hW Γ _ h1 σ H1 (st.go g1) _ fun w s2 H2 g2 r2 h2 => q w s2 H2 (g1.trans g2) r2 h2
    · rw [if_pos rfl]
      exact ha.li c eK hW Γ _ h1 σ H1 (st.go g1) _ fun w s2 H2 g2 r2 h2 => q w s2 H2 (g1.trans g2) r2 h2⟩
end
/-! ### -a -/
def dUnI (f : Int → Int) (a : DE) : DE := fun Γ k => a Γ fun s => match s with
  | .d (.int i) => k (.d (.int (f i)))
  | _ => False
theorem pd_neg (h : PD X W xw a ta da) : PD X W xw (.UnaryOp .USub a pos) (tUn (rU fun i => .int (-i)) ta) (dUnI (fun i => -i) da) :=
  ⟨fun tk => pe_un un_neg (h.pe tk), fun c eK hW Γ k hk σ H st Q q => h.li c eK hW Γ _ hk σ H st _ fun v s H1 g1 r1 h1 => by
    try dsimp only at h1
    split at h1
    · exact ⟨_, sl_int r1, q _ (.d (.int _)) H1 g1 ⟨_, rfl, .int _⟩ h1⟩
    · exact h1.elim⟩
/-! ### x[i] -/
def gIx : Sl → Sl → DK → Prop := fun s t k => match s, t with
  | .d (.lst xs), .d (.int i) => match atI xs i with
    | some x => k (.d x)
    | none => False
  | .d (.tup xs), .d (.int i) => match atI xs i with
    | some x => k (.d x)
    | none => False
  | .d (.scr xs), .d (.int i) => match atI xs i with
    | some x => k (.d x)
    | none => False
  | .d (.str z), .d (.int i) => match atI z.cps.toList i with
    | some x => z.length ≤ 100000 ∧ k (.d (.str ⟨#[x]⟩))
    | none => False
  | _, _ => False
theorem atI_rp {c : Cfg} {H : Hp} {vs : List V} {ds : List D} {i : Int} {d : D} (r : RpAll c H vs ds) (e : atI ds i = some d) : ∃ v, atI vs i = some v ∧ Rp c H v d := by
  unfold atI at e ⊢
  rw [r.length]
  cases z : ixN ds.length i with
  | none =>
    rw [z] at e
    cases e
  | some j =>
    rw [z] at e
    obtain ⟨v, h1, h2⟩ := r.get e
    exact ⟨v, h1, h2⟩
theorem o2_ix : O2 K (rIx K) gIx := fun c H x y s t k Q eK hi rs rt h q => by
  subst eK
  unfold gIx at h
  split at h
  · split at h
    · rename_i z e
      obtain ⟨w, ew, r⟩ := rs
      cases ew
      cases r with
      | lst nf il0 ra =>
        have il := (show Rd _ _ _ from Or.inl il0)
        obtain ⟨v, h1, h2⟩ := atI_rp ra e
        exact .inl ⟨_, _, _, v, rfl, sl_int rt, .inl il, h1, q _ (.d z) H (Go.self hi) ⟨_, rfl, h2⟩ h⟩
    · exact h.elim
  · split at h
    · rename_i z e
      obtain ⟨w, ew, r⟩ := rs
      cases ew
      cases r with
      | tup il ra =>
        obtain ⟨v, h1, h2⟩ := atI_rp ra e
        exact .inr (.inl ⟨_, _, _, v, rfl, sl_int rt, il.sq, h1, q _ (.d z) H (Go.self hi) ⟨_, rfl, h2⟩ h⟩)
    · exact h.elim
  · split at h
    · rename_i z e
      obtain ⟨w, ew, r⟩ := rs
      cases ew
      cases r with
      | scr il ra =>
        obtain ⟨v, h1, h2⟩ := atI_rp ra e
        exact .inl ⟨_, _, _, v, rfl, sl_int rt, il.sq, h1, q _ (.d z) H (Go.self hi) ⟨_, rfl, h2⟩ h⟩
    · exact h.elim
  · split at h
    · rename_i z e
      exact .inr (.inr ⟨_, _, _, sl_str rs, sl_int rt, sz h.1, e, q _ (.d (.str _)) H (Go.self hi) ⟨_, rfl, .str _⟩ h.2⟩)
    · exact h.elim
  · exact h.elim
theorem pd_ix (x : PD X W xw a ta da) (y : PD X W xw b tb db) (hs : PlainIx b := by intro _ _; rfl) : PD X W xw (.Subscript a b pos) (tOp (rIx X.K) ta tb) (dOp gIx da db) := ⟨fun tk => pe_ix ix_seq (x.pe tk) (y.pe tk) hs, li_op o2_ix x.li y.li⟩
/-! ### a + b of ints, texts, lists, tuples -/
def gAdd : Sl → Sl → DK → Prop := fun s t k => match s, t with
  | .d (.int i), .d (.int j) => k (.d (.int (i + j)))
  | .d (.str x), .d (.str y) => x.length + y.length ≤ 100000 ∧ k (.d (.str (x ++ y)))
  | .d (.lst xs), .d (.lst ys) => xs.length + ys.length ≤ 100000 ∧ k (.d (.lst (xs ++ ys)))
  | .d (.tup xs), .d (.tup ys) => xs.length + ys.length ≤ 100000 ∧ k (.d (.tup (xs ++ ys)))
  | _, _ => False
def rCatR : R2 := fun x y H Q => ∃ l b xs zs, x = .ref l ∧ y = .ref b ∧ Rd H l (.lst xs) ∧ Rd H b (.lst zs) ∧ xs.length + zs.length ≤ sizeLine ∧ ∀ p, H p = none → Q (.ref p) (upd H p (.lst (xs ++ zs)))
theorem rd_lst {pins : List (Addr × Obj)} {σ : St} {H : Hp} {sh : Shared} {l : Addr} {xs : List V} (I : Inv X pins σ H sh) (h : Rd H l (.lst xs)) : ∃ (its : List Value) (n : Nat), Vals xs its ∧ sh.heap.get? l = some { cls := .type "list", data := .seq its.toArray n } := by
  rcases h with h | ⟨o, h⟩
  · obtain ⟨_, its, n, r, e⟩ := I.hok l _ h
    exact ⟨its, n, r, e⟩
  · obtain ⟨_, _, its, n, r, e⟩ := I.hok l _ h
    exact ⟨its, n, r, e⟩
theorem op_catR : OpR X (binaryOp .Add) rCatR := by
  intro pins s σ H x y v u Q I rx ry h
  obtain ⟨l, b, xs, zs, rfl, rfl, hH, hB, hz, q⟩ := h
  cases rx
  cases ry
  obtain ⟨its, n, r, e⟩ := rd_lst I hH
  obtain ⟨its2, n2, r2, e2⟩ := rd_lst I hB
  refine PySem.P.add_list e e2 ?_ (by rw [List.size_toArray, List.size_toArray, ← r.length, ← r2.length]; omega)
  have ea : its.toArray ++ its2.toArray = (its ++ its2).toArray := by simp
  rw [ea]
  exact ⟨.ref _, _, I.lnew (t' := s.toks) (r.append r2) (by rw [List.length_append]; omega), rfl, q _ I.fresh⟩
abbrev rAddA (K : PySem.W.Frag) : R2 := fun x y H Q => rI0 (fun i j => .int (i + j)) x y H Q ∨ ((∃ i j, x = .str i ∧ y = .str j ∧ i.length + j.length ≤ sizeLine ∧ Q (.str (i ++ j)) H) ∨ (rCatR x y H Q ∨ rCatA K x y H Q))
theorem op_addA : OpR X (binaryOp .Add) (rAddA X.K) := op_add.or (op_add_str.or (op_catR.or op_catA))
theorem o2_add : O2 K (rAddA K) gAdd := fun c H x y s t k Q eK hi rs rt h q => by
  subst eK
  unfold gAdd at h
  split at h
  · exact .inl ⟨_, _, sl_int rs, sl_int rt, q _ (.d (.int _)) H (Go.self hi) ⟨_, rfl, .int _⟩ h⟩
  · exact .inr (.inl ⟨_, _, sl_str rs, sl_str rt, sz h.1, q _ (.d (.str _)) H (Go.self hi) ⟨_, rfl, .str _⟩ h.2⟩)
  · obtain ⟨w, ew, r⟩ := rs
    cases ew
    obtain ⟨w, ew, r'⟩ := rt
    cases ew
    cases r with
    | lst nf il0 ra =>
      have il := (show Rd _ _ _ from Or.inl il0)
      cases r' with
      | lst nf' il' ra' => exact .inr (.inr (.inl ⟨_, _, _, _, rfl, rfl, il, (Or.inl il'), by rw [ra.length, ra'.length]; exact sz h.1, fun p np => q _ (.d (.lst _)) _ (Go.new hi np) ⟨_, rfl, rp_newL hi np (ra.append ra')⟩ h.2⟩))
  · obtain ⟨w, ew, r⟩ := rs
    cases ew
    obtain ⟨w, ew, r'⟩ := rt
    cases ew
    cases r with
    | tup il ra =>
      cases r' with
      | tup il' ra' =>
        refine .inr (.inr (.inr ⟨_, _, _, _, rfl, rfl, il.sq, il'.sq, by rw [ra.length, ra'.length]; exact sz h.1, fun e => ?_, fun _ e => ?_, fun _ _ p np => q _ (.d (.tup _)) _ (Go.new hi np) ⟨_, rfl, rp_newT hi np (ra.append ra')⟩ h.2⟩))
        · subst e
          cases ra
          exact q _ (.d (.tup _)) H (Go.self hi) ⟨_, rfl, .tup il' ra'⟩ h.2
        · subst e
          cases ra'
          have z := h.2
          rw [List.append_nil] at z
          exact q _ (.d (.tup _)) H (Go.self hi) ⟨_, rfl, .tup il ra⟩ z
  · exact h.elim
theorem pd_add (x : PD X W xw a ta da) (y : PD X W xw b tb db) : PD X W xw (.BinOp a .Add b pos) (tOp (rAddA X.K) ta tb) (dOp gAdd da db) := ⟨fun tk => pe_op op_addA (x.pe tk) (y.pe tk), li_op o2_add x.li y.li⟩
/-! ### comparisons as tests -/
theorem pdt_lt (x : PD X W xw a ta da) (y : PD X W xw b tb db) : PDT X W xw (.Compare a [.Lt] [b] pos) (tTest (tOp (rI0 fun i j => .bl (decide (i < j))) ta tb)) (dB (dOp (gI0 fun i j => .bl (decide (i < j))) da db)) := pdt_cmp op_lt (o2_I0 fun _ _ _ _ => .bl _) x y (nomark _)
theorem pdt_le (x : PD X W xw a ta da) (y : PD X W xw b tb db) : PDT X W xw (.Compare a [.LtE] [b] pos) (tTest (tOp (rI0 fun i j => .bl (decide (i ≤ j))) ta tb)) (dB (dOp (gI0 fun i j => .bl (decide (i ≤ j))) da db)) := pdt_cmp op_le (o2_I0 fun _ _ _ _ => .bl _) x y (nomark _)
theorem pdt_gt (x : PD X W xw a ta da) (y : PD X W xw b tb db) : PDT X W xw (.Compare a [.Gt] [b] pos) (tTest (tOp (rI0 fun i j => .bl (decide (j < i))) ta tb)) (dB (dOp (gI0 fun i j => .bl (decide (j < i))) da db)) := pdt_cmp op_gt (o2_I0 fun _ _ _ _ => .bl _) x y (nomark _)
theorem pdt_ge (x : PD X W xw a ta da) (y : PD X W xw b tb db) : PDT X W xw (.Compare a [.GtE] [b] pos) (tTest (tOp (rI0 fun i j => .bl (decide (j ≤ i))) ta tb)) (dB (dOp (gI0 fun i j => .bl (decide (j ≤ i))) da db)) := pdt_cmp op_ge (o2_I0 fun _ _ _ _ => .bl _) x y (nomark _)
theorem pdt_eq (hu : X.A.units + 64 < cLine) (x : PD X W xw a ta da) (y : PD X W xw b tb db) : PDT X W xw (.Compare a [.Eq] [b] pos) (tTest (tOp (rEqD X.K) ta tb)) (dB (dOp gEq da db)) := pdt_cmp (op_eqD hu) o2_eq x y (nomark _)
theorem pdt_ne (hu : X.A.units + 64 < cLine) (x : PD X W xw a ta da) (y : PD X W xw b tb db) : PDT X W xw (.Compare a [.NotEq] [b] pos) (tTest (tOp (rNeD X.K) ta tb)) (dB (dOp gNe da db)) := pdt_cmp (op_neD hu) o2_ne x y (nomark _)
theorem pdt_isN (x : PD X W xw a ta da) (y : PD X W xw b tb db) : PDT X W xw (.Compare a [.Is] [b] pos) (tTest (tOp (fun x y H Q => y = .non ∧ Q (.bl (decide (x = .non))) H) ta tb)) (dB (dOp gIsN da db)) := pdt_cmp op_isN o2_isN x y (nomark _)
theorem pdt_notN (x : PD X W xw a ta da) (y : PD X W xw b tb db) : PDT X W xw (.Compare a [.IsNot] [b] pos) (tTest (tOp (fun x y H Q => y = .non ∧ Q (.bl (!decide (x = .non))) H) ta tb)) (dB (dOp gNotN da db)) := pdt_cmp op_notN o2_notN x y (nomark _)
theorem pdt_chLeLe (x : PD X W xw a ta da) (y : PD X W xw b tb db) (z : PD X W xw cc tc dc) (hm : lastMarks [.LtE, .LtE] [b, cc] = false := by with_unfolding_all rfl) : PDT X W xw (.Compare a [.LtE, .LtE] [b, cc] pos) (tTest (tChain (rI0 fun i j => .bl (decide (i ≤ j))) (rI0 fun i j => .bl (decide (i ≤ j))) ta tb tc)) (dB (dChain gLe gLe da db dc)) :=
  ⟨fun tk => pt_chain op_le op_le (x.pe tk) (y.pe tk) (z.pe tk) hm, li_b (li_chain (o2_I0 fun _ _ _ _ => .bl _) (o2_I0 fun _ _ _ _ => .bl _) x.li y.li z.li)⟩
theorem pdt_chLeLt (x : PD X W xw a ta da) (y : PD X W xw b tb db) (z : PD X W xw cc tc dc) (hm : lastMarks [.LtE, .Lt] [b, cc] = false := by with_unfolding_all rfl) : PDT X W xw (.Compare a [.LtE, .Lt] [b, cc] pos) (tTest (tChain (rI0 fun i j => .bl (decide (i ≤ j))) (rI0 fun i j => .bl (decide (i < j))) ta tb tc)) (dB (dChain gLe gLt da db dc)) :=
  ⟨fun tk => pt_chain op_le op_lt (x.pe tk) (y.pe tk) (z.pe tk) hm, li_b (li_chain (o2_I0 fun _ _ _ _ => .bl _) (o2_I0 fun _ _ _ _ => .bl _) x.li y.li z.li)⟩
end
end
end Dv
set_option Elab.async false
set_option linter.all false
set_option maxRecDepth 100000
set_option maxHeartbeats 4000000
/-! De3: calls of built-ins, walks, comprehensions. -/
namespace Dv
open PySem L2
section
variable {X : Cx} {W : WX} {xw : XW} {K : PySem.W.Frag}
/-! ### calls of built-ins -/
def OC (K : PySem.W.Frag) (r : List V → Hp → VK → Prop) (g : List Sl → DK → Prop) : Prop := ∀ (c : Cfg) (H : Hp) (vs : List V) (ss : List Sl) (k : DK) (Q : VK), c.K = K → c.I H → Paired (fun v s => SlOk c H (some v) s) vs ss → g ss k →
  (∀ v u H2, Go c H H2 → SlOk c H2 (some v) u → k u → Q v H2) → r vs H Q
def dCB (g : List Sl → DK → Prop) (a : DA) : DE := fun Γ k => a Γ fun ss => g ss k
theorem li_cb {r : List V → Hp → VK → Prop} {g : List Sl → DK → Prop} {ta : TA} {da : DA} (o : OC K r g) (h : LiA K W xw ta da) : Li K W xw (tCB r ta) (dCB g da) := fun c eK hW Γ k hk σ H st Q q =>
  h c eK hW Γ _ hk σ H st _ fun vs ss H1 g1 r1 h1 => o c H1 vs ss k Q eK g1.inv r1 h1 fun v u H2 g2 r2 h2 => q v u H2 (g1.trans g2) r2 h2
section
variable {x : Str} {p pos : Pos} {e : Expr} {es : List Expr} {ta : TA} {da : DA} {id T : String} {r : List V → Hp → VK → Prop} {g : List Sl → DK → Prop}
theorem pd_callB (hc : CallR X (.builtin id) r) (o : OC X.K r g) (hm : X.mg x = none) (hv : bootBuiltins x = some (.builtin id)) (a : PDA X W xw (e :: es) ta da) (hg : Gl X x := by rfl) (hn : x ≠ "__name__" := by decide) (hdb : (x == ("__debug__" : Str)) = false := by decide)
    (he : starEach (e :: es) X.env = (false, eval e X.env) :: starEach es X.env := by rfl) (hpl : (backTo pos (starEach es X.env)).any (·.1) = false := by rfl) : PD X W xw (.Call (.Name x p) (e :: es) [] pos) (tCB r ta) (dCB g da) :=
  ⟨fun tk => pe_callB hc hg hm hv (a.pa tk) hn hdb he hpl, li_cb o a.li⟩
theorem pd_callTy (hc : CallR X (.type T) r) (o : OC X.K r g) (hm : X.mg x = none) (hv : bootBuiltins x = some (.type T)) (a : PDA X W xw (e :: es) ta da) (hg : Gl X x := by rfl) (hn : x ≠ "__name__" := by decide) (hdb : (x == ("__debug__" : Str)) = false := by decide)
    (he : starEach (e :: es) X.env = (false, eval e X.env) :: starEach es X.env := by rfl) (hpl : (backTo pos (starEach es X.env)).any (·.1) = false := by rfl) : PD X W xw (.Call (.Name x p) (e :: es) [] pos) (tCB r ta) (dCB g da) :=
  ⟨fun tk => pe_callTy hc hg hm hv (a.pa tk) hn hdb he hpl, li_cb o a.li⟩
end
theorem paired1 {F : V → Sl → Prop} {vs : List V} {s : Sl} (h : Paired F vs [s]) : ∃ v, vs = [v] ∧ F v s := by
  cases h with
  | cons a b =>
    cases b
    exact ⟨_, rfl, a⟩
theorem paired2 {F : V → Sl → Prop} {vs : List V} {s t : Sl} (h : Paired F vs [s, t]) : ∃ v w, vs = [v, w] ∧ F v s ∧ F w t := by
  cases h with
  | cons a b =>
    obtain ⟨w, rfl, q⟩ := paired1 b
    exact ⟨_, _, rfl, a, q⟩
/-- len -/
def gLen : List Sl → DK → Prop := fun ss k => match ss with
  | [.d (.lst xs)] => k (.d (.int xs.length))
  | [.d (.tup xs)] => k (.d (.int xs.length))
  | [.d (.scr xs)] => k (.d (.int xs.length))
  | [.d (.str z)] => z.length ≤ 100000 ∧ k (.d (.int z.length))
  | _ => False
theorem oc_len : OC K (fun xs H Q => ∃ x n, xs = [x] ∧ LenV K x H n ∧ Q (.int n) H) gLen := fun c H vs ss k Q eK hi r h q => by
  subst eK
  unfold gLen at h
  split at h
  · obtain ⟨v, rfl, w, e, rr⟩ := paired1 r
    cases e
    cases rr with
    | lst nf il ra => exact ⟨_, _, rfl, .inl ⟨_, .inl (Or.inl il), rfl⟩, q _ (.d (.int _)) H (Go.self hi) ⟨_, rfl, by rw [ra.length]; exact .int _⟩ h⟩
  · obtain ⟨v, rfl, w, e, rr⟩ := paired1 r
    cases e
    cases rr with
    | tup il ra => exact ⟨_, _, rfl, .inr ⟨_, il.sq, rfl⟩, q _ (.d (.int _)) H (Go.self hi) ⟨_, rfl, by rw [ra.length]; exact .int _⟩ h⟩
  · obtain ⟨v, rfl, w, e, rr⟩ := paired1 r
    cases e
    cases rr with
    | scr il ra => exact ⟨_, _, rfl, .inl ⟨_, il.sq, rfl⟩, q _ (.d (.int _)) H (Go.self hi) ⟨_, rfl, by rw [ra.length]; exact .int _⟩ h⟩
  · obtain ⟨v, rfl, rr⟩ := paired1 r
    have e := sl_str rr
    subst e
    exact ⟨_, _, rfl, ⟨sz h.1, rfl⟩, q _ (.d (.int _)) H (Go.self hi) ⟨_, rfl, .int _⟩ h.2⟩
  · exact h.elim
/-- all, any of a list of truths -/
def unB : List D → Option (List Bool)
  | [] => some []
  | .bl b :: r => (unB r).map (b :: ·)
  | _ :: _ => none
theorem unB_ok {c : Cfg} {H : Hp} : ∀ {vs : List V} {ds : List D} {bs : List Bool}, RpAll c H vs ds → unB ds = some bs → vs = bs.map V.bl
  | _, _, _, .nil, e => by
    cases e
    rfl
  | _, d :: ds, bs, .cons r t, e => by
    cases d <;> first | cases e; done | skip
    rw [unB, Option.map_eq_some_iff] at e
    obtain ⟨es, e1, e2⟩ := e
    subst e2
    rw [unB_ok t e1, rp_bl r]
    rfl
def gAll : List Sl → DK → Prop := fun ss k => match ss with
  | [.d (.lst xs)] => match unB xs with
    | some bs => k (.d (.bl (bs.all id)))
    | none => False
  | _ => False
def gAny : List Sl → DK → Prop := fun ss k => match ss with
  | [.d (.lst xs)] => match unB xs with
    | some bs => k (.d (.bl (bs.any id)))
    | none => False
  | _ => False
theorem oc_all : OC K (rAll K) gAll := fun c H vs ss k Q eK hi r h q => by
  subst eK
  unfold gAll at h
  split at h
  · split at h
    · rename_i bs e
      obtain ⟨v, rfl, w, ew, rr⟩ := paired1 r
      cases ew
      cases rr with
      | lst nf il0 ra =>
        have il := (show Rd _ _ _ from Or.inl il0)
        have z : SqL c.K H _ _ := .inl il
        rw [unB_ok ra e] at z
        exact ⟨_, bs, rfl, z, q _ (.d (.bl _)) H (Go.self hi) ⟨_, rfl, .bl _⟩ h⟩
    · exact h.elim
  · exact h.elim
/-- int of an int or a truth -/
def gInt : List Sl → DK → Prop := fun ss k => match ss with
  | [.d (.int i)] => k (.d (.int i))
  | [.d (.bl b)] => k (.d (.int (if b then 1 else 0)))
  | _ => False
theorem oc_int : OC K (fun xs H Q => (∃ i, xs = [.int i] ∧ Q (.int i) H) ∨ ∃ k, xs = [.bl k] ∧ Q (.int (if k then 1 else 0)) H) gInt := fun c H vs ss k Q eK hi r h q => by
  unfold gInt at h
  split at h
  · obtain ⟨v, rfl, rr⟩ := paired1 r
    have e := sl_int rr
    subst e
    exact .inl ⟨_, rfl, q _ (.d (.int _)) H (Go.self hi) ⟨_, rfl, .int _⟩ h⟩
  · obtain ⟨v, rfl, rr⟩ := paired1 r
    have e := sl_bl rr
    subst e
    exact .inr ⟨_, rfl, q _ (.d (.int _)) H (Go.self hi) ⟨_, rfl, .int _⟩ h⟩
  · exact h.elim
/-- max, min of two ints, abs -/
def gI2 (f : Int → Int → Int) : List Sl → DK → Prop := fun ss k => match ss with
  | [.d (.int i), .d (.int j)] => k (.d (.int (f i j)))
  | _ => False
def gI1 (f : Int → Int) : List Sl → DK → Prop := fun ss k => match ss with
  | [.d (.int i)] => k (.d (.int (f i)))
  | _ => False
theorem oc_I2 {f : Int → Int → Int} : OC K (fun xs H Q => ∃ i j, xs = [.int i, .int j] ∧ Q (.int (f i j)) H) (gI2 f) := fun c H vs ss k Q eK hi r h q => by
  unfold gI2 at h
  split at h
  · obtain ⟨v, w, rfl, rr, r2⟩ := paired2 r
    have e := sl_int rr
    subst e
    have e := sl_int r2
    subst e
    exact ⟨_, _, rfl, q _ (.d (.int _)) H (Go.self hi) ⟨_, rfl, .int _⟩ h⟩
  · exact h.elim
theorem oc_I1 {f : Int → Int} : OC K (fun xs H Q => ∃ i, xs = [.int i] ∧ Q (.int (f i)) H) (gI1 f) := fun c H vs ss k Q eK hi r h q => by
  unfold gI1 at h
  split at h
  · obtain ⟨v, rfl, rr⟩ := paired1 r
    have e := sl_int rr
    subst e
    exact ⟨_, rfl, q _ (.d (.int _)) H (Go.self hi) ⟨_, rfl, .int _⟩ h⟩
  · exact h.elim
/-! ### isinstance with a built-in class -/
inductive Ty where
  | int | bool | str | list | tuple | dict
def Ty.nm : Ty → String
  | .int => "int"
  | .bool => "bool"
  | .str => "str"
  | .list => "list"
  | .tuple => "tuple"
  | .dict => "dict"
def isTy : Ty → D → Bool
  | .int, .int _ => true
  | .int, .bl _ => true
  | .bool, .bl _ => true
  | .str, .str _ => true
  | .list, .lst _ => true
  | .tuple, .tup _ => true
  | .dict, .dic _ => true
  | _, _ => false
def isObj : D → Bool
  | .obj _ _ => true
  | .exn _ _ => true
  | .scr _ => true
  | _ => false
def gIs (T : Ty) : List Sl → DK → Prop := fun ss k => match ss with
  | [.d x, .v (.ty n)] => n = T.nm ∧ isObj x = false ∧ k (.d (.bl (isTy T x)))
  | _ => False
theorem kitN {K : PySem.W.Frag} (T : Ty) : PySem.W.kitOne K (.type "NoneType") (.type T.nm) = some false := by cases T <;> first | exact kit_ty (show kitB _ _ = some true from by decide +kernel) | exact kit_ty (show kitB _ _ = some false from by decide +kernel)
theorem kitBl {K : PySem.W.Frag} (T : Ty) (b : Bool) : PySem.W.kitOne K (.type "bool") (.type T.nm) = some (isTy T (.bl b)) := by cases T <;> first | exact kit_ty (show kitB _ _ = some true from by decide +kernel) | exact kit_ty (show kitB _ _ = some false from by decide +kernel)
theorem kitI {K : PySem.W.Frag} (T : Ty) (b : Int) : PySem.W.kitOne K (.type "int") (.type T.nm) = some (isTy T (.int b)) := by cases T <;> first | exact kit_ty (show kitB _ _ = some true from by decide +kernel) | exact kit_ty (show kitB _ _ = some false from by decide +kernel)
theorem kitS {K : PySem.W.Frag} (T : Ty) (b : Str) : PySem.W.kitOne K (.type "str") (.type T.nm) = some (isTy T (.str b)) := by cases T <;> first | exact kit_ty (show kitB _ _ = some true from by decide +kernel) | exact kit_ty (show kitB _ _ = some false from by decide +kernel)
theorem kitL {K : PySem.W.Frag} (T : Ty) (b : List D) : PySem.W.kitOne K (.type "list") (.type T.nm) = some (isTy T (.lst b)) := by cases T <;> first | exact kit_ty (show kitB _ _ = some true from by decide +kernel) | exact kit_ty (show kitB _ _ = some false from by decide +kernel)
theorem kitT {K : PySem.W.Frag} (T : Ty) (b : List D) : PySem.W.kitOne K (.type "tuple") (.type T.nm) = some (isTy T (.tup b)) := by cases T <;> first | exact kit_ty (show kitB _ _ = some true from by decide +kernel) | exact kit_ty (show kitB _ _ = some false from by decide +kernel)
theorem kitD {K : PySem.W.Frag} (T : Ty) (b : List (Key × D)) : PySem.W.kitOne K (.type "dict") (.type T.nm) = some (isTy T (.dic b)) := by cases T <;> first | exact kit_ty (show kitB _ _ = some true from by decide +kernel) | exact kit_ty (show kitB _ _ = some false from by decide +kernel)
/-- a type for what is no object of an own class -/
theorem rp_ty {c : Cfg} {H : Hp} {v : V} {d : D} (h : Rp c H v d) (n : isObj d = false) : ∃ t, TyX c.K H v t ∧ ∀ T : Ty, PySem.W.kitOne c.K t (.type T.nm) = some (isTy T d) := by
  cases h with
  | non => exact ⟨_, .base .non, fun T => by cases T <;> exact kitN _⟩
  | bl b => exact ⟨_, .base (.bl _), fun T => kitBl T b⟩
  | int b => exact ⟨_, .base (.int _), fun T => kitI T b⟩
  | str b => exact ⟨_, .base (.str _), fun T => kitS T b⟩
  | @lst a xs ds nf il ra =>
    refine ⟨.type "list", ?_, fun T => kitL T ds⟩
    exact .base (.lst il)
  | scr _ _ => cases n
  | @tup a xs ds il ra =>
    refine ⟨.type "tuple", ?_, fun T => kitT T ds⟩
    rcases il with ⟨_, il | ⟨o, il⟩⟩ | ⟨o, _, _, e, cl, _⟩
    · exact .base (.tup il)
    · exact .fTuple il
    · exact .kTuple e cl
  | obj _ _ _ => cases n
  | exn _ _ _ _ _ => cases n
  | @dic a kvs ds nf il ra =>
    refine ⟨.type "dict", ?_, fun T => kitD T ds⟩
    exact .base (.dK il)
theorem oc_is (T : Ty) : OC K (rIsi K) (gIs T) := fun c H vs ss k Q eK hi r h q => by
  subst eK
  unfold gIs at h
  split at h
  · rename_i x n
    obtain ⟨v, w, rfl, ⟨z, ez, rr⟩, r2⟩ := paired2 r
    cases ez
    have ew : w = .ty n := Option.some.inj r2
    subst ew
    obtain ⟨en, no, hk⟩ := h
    subst en
    obtain ⟨t, ht, hT⟩ := rp_ty rr no
    exact ⟨_, _, _, _, _, rfl, .ty _, ht, hT T, q _ (.d (.bl _)) H (Go.self hi) ⟨_, rfl, .bl _⟩ hk⟩
  · exact h.elim
/-! ### walks -/
structure WalkD (c : Cfg) (J : It) (xs : List D) (φ : Hp → Prop) : Prop where
  st : ∀ {H H' : Hp}, Kp c.F H H' → φ H → φ H'
  go : ∀ i H, φ H → c.I H → i < xs.length → J.go i H
  stop : ∀ i H, φ H → xs.length ≤ i → J.stop i H
  yld : ∀ i H x H' d, φ H → c.I H → xs[i]? = some d → J.yld i H x H' → Go c H H' ∧ Rp c H' x d
/-- a walk that stands at H, also beside a new thing that changes -/
structure WalkOk (c : Cfg) (J : It) (xs : List D) (H : Hp) : Prop where
  now : ∃ φ, WalkD c J xs φ ∧ φ H
  own : ∀ a, H a = none → ∃ φ : Hp → Prop, φ H ∧ ∀ ha, WalkD (c.hide a ha) J xs φ
abbrev DI := Gm → (List D → Prop) → Prop
def LiI (K : PySem.W.Frag) (W : WX) (xw : XW) (wi : TI) (di : DI) : Prop := ∀ c : Cfg, c.K = K → WOk c W xw → ∀ Γ k, di Γ k → ∀ σ H, StOk c σ H Γ → ∀ R : It → Hp → Prop,
  (∀ J H1 xs, Go c H H1 → WalkOk c J xs H1 → k xs → R J H1) → wi σ H R
structure PDI (X : Cx) (W : WX) (xw : XW) (tg iter : Expr) (wi : TI) (di : DI) : Prop where
  pi : Takes X W → PI X tg iter wi
  li : LiI X.K W xw wi di
/-- a list or a tuple -/
def iSeq (K : PySem.W.Frag) (tl : TE) : TI := fun σ H R => tl σ H fun x H1 => (∃ a, x = .ref a ∧ (∃ xs, SqL K H1 a xs) ∧ R (Itl K a) H1) ∨ (∃ a, x = .ref a ∧ (∃ xs, SqT K H1 a xs) ∧ R (Itt K a) H1)
theorem pi_seq {tg l : Expr} {tl : TE} (hl : PE X l tl) : PI X tg l (iSeq X.K tl) := by
  refine ⟨fun pins s σ H R I h => ?_⟩
  refine thn (hl.run pins s σ H _ I h) fun v s1 ⟨x, H1, I1, r1, q1⟩ => ?_
  rcases q1 with ⟨a, e, ⟨xs, hq⟩, q⟩ | ⟨a, e, ⟨xs, hq⟩, q⟩
  · subst e
    cases r1
    obtain ⟨its, rv, p, hz⟩ := I1.list hq
    refine wpAny_pyIter_list p.isList ?_
    refine ⟨s1.heap.objs.size, [s1.heap.objs.size], _, _, H1, rfl, I1.kept (t' := s1.toks) fun b o e => Heap.get?_push_of_some _ e, turn_list a _, ⟨_, Heap.get?_push_size _ rfl, rfl, rfl⟩, fun b hb => ?_, q⟩
    have e : b = s1.heap.objs.size := by simpa using hb
    subst e
    exact I1.fpOk (Nat.le_refl _) (I1.hok.fresh (Nat.le_refl _))
  · subst e
    cases r1
    obtain ⟨its, rv, p, hz⟩ := I1.tuple hq
    refine wpAny_pyIter_tuple (show s1.heap.IsTuple a its.toArray from p) ?_
    refine ⟨s1.heap.objs.size, [s1.heap.objs.size], _, _, H1, rfl, I1.kept (t' := s1.toks) fun b o e => Heap.get?_push_of_some _ e, turn_tuple a _, ⟨_, Heap.get?_push_size _ rfl, rfl, rfl⟩, fun b hb => ?_, q⟩
    have e : b = s1.heap.objs.size := by simpa using hb
    subst e
    exact I1.fpOk (Nat.le_refl _) (I1.hok.fresh (Nat.le_refl _))
theorem walk_l {c : Cfg} {a : Addr} {vs : List V} {xs : List D} : WalkD c (Itl c.K a) xs (fun H => InL c H a vs ∧ RpAll c H vs xs) where
  st := fun k h => ⟨h.1.to rfl (fun _ z => z) k, h.2.go k⟩
  go := fun i H h _ l => ⟨vs, vs[i]'(by rw [h.2.length]; exact l), h.1.sq, List.getElem?_eq_some_iff.mpr ⟨by rw [h.2.length]; exact l, rfl⟩⟩
  stop := fun i H h l => ⟨vs, h.1.sq, by rw [h.2.length]; exact l⟩
  yld := fun i H x H' d h hi e y => by
    obtain ⟨e1, e2⟩ := y
    subst e1
    obtain ⟨v, h1, h2⟩ := h.2.get e
    have e3 := e2 vs h.1.sq
    rw [h1] at e3
    cases e3
    exact ⟨Go.self hi, h2⟩
theorem walk_t {c : Cfg} {a : Addr} {vs : List V} {xs : List D} : WalkD c (Itt c.K a) xs (fun H => InT c H a vs ∧ RpAll c H vs xs) where
  st := fun k h => ⟨h.1.to rfl (fun _ z => z) k, h.2.go k⟩
  go := fun i H h _ l => ⟨vs, vs[i]'(by rw [h.2.length]; exact l), h.1.sq, List.getElem?_eq_some_iff.mpr ⟨by rw [h.2.length]; exact l, rfl⟩⟩
  stop := fun i H h l => ⟨vs, h.1.sq, by rw [h.2.length]; exact l⟩
  yld := fun i H x H' d h hi e y => by
    obtain ⟨e1, e2⟩ := y
    subst e1
    obtain ⟨v, h1, h2⟩ := h.2.get e
    have e3 := e2 vs h.1.sq
    rw [h1] at e3
    cases e3
    exact ⟨Go.self hi, h2⟩
theorem walkOk_l {c : Cfg} {a : Addr} {vs : List V} {xs : List D} {H : Hp} (il : InL c H a vs) (ra : RpAll c H vs xs) : WalkOk c (Itl c.K a) xs H :=
  ⟨⟨_, walk_l, il, ra⟩, fun b nb => ⟨fun H => ((¬ (c.F a ∨ a = b) ∧ Rd H a (.lst vs)) ∨ KL c.K a vs) ∧ ∀ ha, RpAll (c.hide b ha) H vs xs, ⟨il.elim (fun z => .inl ⟨fun y => y.elim z.1 fun e => by
      subst e
      rcases z.2 with z | ⟨_, z⟩ <;> (rw [nb] at z; cases z), z.2⟩) .inr, fun ha => ra.hide nb⟩, fun ha => by
    have w : WalkD (c.hide b ha) (Itl (c.hide b ha).K a) xs (fun H => InL (c.hide b ha) H a vs ∧ RpAll (c.hide b ha) H vs xs) := walk_l
    exact ⟨fun k h => ⟨(InL.to (c := c.hide b ha) (c' := c.hide b ha) rfl (fun _ z => z) k h.1), fun ha' => RpAll.to (c := c.hide b ha') (c' := c.hide b ha') rfl (fun _ z => z) k (h.2 ha')⟩,
      fun i H h => w.go i H ⟨h.1, h.2 ha⟩, fun i H h => w.stop i H ⟨h.1, h.2 ha⟩, fun i H x H' d h => w.yld i H x H' d ⟨h.1, h.2 ha⟩⟩⟩⟩
theorem walkOk_t {c : Cfg} {a : Addr} {vs : List V} {xs : List D} {H : Hp} (il : InT c H a vs) (ra : RpAll c H vs xs) : WalkOk c (Itt c.K a) xs H :=
  ⟨⟨_, walk_t, il, ra⟩, fun b nb => ⟨fun H => ((¬ (c.F a ∨ a = b) ∧ Rd H a (.tup vs)) ∨ KT c.K a vs) ∧ ∀ ha, RpAll (c.hide b ha) H vs xs, ⟨il.elim (fun z => .inl ⟨fun y => y.elim z.1 fun e => by
      subst e
      rcases z.2 with z | ⟨_, z⟩ <;> (rw [nb] at z; cases z), z.2⟩) .inr, fun ha => ra.hide nb⟩, fun ha => by
    have w : WalkD (c.hide b ha) (Itt (c.hide b ha).K a) xs (fun H => InT (c.hide b ha) H a vs ∧ RpAll (c.hide b ha) H vs xs) := walk_t
    exact ⟨fun k h => ⟨(InT.to (c := c.hide b ha) (c' := c.hide b ha) rfl (fun _ z => z) k h.1), fun ha' => RpAll.to (c := c.hide b ha') (c' := c.hide b ha') rfl (fun _ z => z) k (h.2 ha')⟩,
      fun i H h => w.go i H ⟨h.1, h.2 ha⟩, fun i H h => w.stop i H ⟨h.1, h.2 ha⟩, fun i H x H' d h => w.yld i H x H' d ⟨h.1, h.2 ha⟩⟩⟩⟩
def diSeq (a : DE) : DI := fun Γ k => a Γ fun s => match s with
  | .d (.lst xs) => k xs
  | .d (.tup xs) => k xs
  | _ => False
theorem pdi_seq {tg l : Expr} {tl : TE} {dl : DE} (h : PD X W xw l tl dl) : PDI X W xw tg l (iSeq X.K tl) (diSeq dl) :=
  ⟨fun tk => pi_seq (h.pe tk), fun c eK hW Γ k hk σ H st R q => h.li c eK hW Γ _ hk σ H st _ fun v s H1 g1 r1 h1 => by
    rw [← eK]
    try dsimp only at h1
    split at h1
    · obtain ⟨w, e, rr⟩ := r1
      cases e
      cases rr with
      | lst nf il ra => exact .inl ⟨_, rfl, ⟨_, .inl (Or.inl il)⟩, q _ H1 _ g1 (walkOk_l (.inl ⟨nf, (Or.inl il)⟩) ra) h1⟩
    · obtain ⟨w, e, rr⟩ := r1
      cases e
      cases rr with
      | tup il ra => exact .inr ⟨_, rfl, ⟨_, il.sq⟩, q _ H1 _ g1 (walkOk_t il ra) h1⟩
    · exact h1.elim⟩
/-- range(n) -/
def intsFrom (lo : Int) : Nat → List D
  | 0 => []
  | n + 1 => .int lo :: intsFrom (lo + 1) n
theorem intsFrom_length (lo : Int) (n : Nat) : (intsFrom lo n).length = n := by
  induction n generalizing lo with
  | zero => rfl
  | succ n ih => rw [intsFrom, List.length_cons, ih]
theorem intsFrom_get {lo : Int} {n i : Nat} {d : D} (h : (intsFrom lo n)[i]? = some d) : d = .int (lo + i) := by
  induction n generalizing lo i with
  | zero => simp [intsFrom] at h
  | succ n ih =>
    cases i with
    | zero =>
      simp [intsFrom] at h
      rw [← h]
      simp
    | succ i =>
      rw [intsFrom, List.getElem?_cons_succ] at h
      rw [ih h]
      congr 1
      omega
theorem walk_r {c : Cfg} {lo : Int} {n : Nat} : WalkD c (Itr lo n) (intsFrom lo n) (fun _ => True) where
  st := fun _ h => h
  go := fun i H _ _ l => by rw [intsFrom_length] at l; exact l
  stop := fun i H _ l => by rw [intsFrom_length] at l; exact l
  yld := fun i H x H' d _ hi e y => by
    obtain ⟨e1, e2⟩ := y
    subst e1 e2
    rw [intsFrom_get e]
    exact ⟨Go.self hi, .int _⟩
def diRange1 (a : DA) : DI := fun Γ k => a Γ fun ss => match ss with
  | [.d (.int n)] => (-(2 ^ 62) ≤ n ∧ n < 2 ^ 62) ∧ k (intsFrom 0 n.toNat)
  | _ => False
theorem pdi_range1 {tg e : Expr} {p pos : Pos} {ta : TA} {da : DA} (hm : X.mg "range" = none) (a : PDA X W xw [e] ta da) (hg : Gl X "range" := by rfl) (hs : starEach [e] X.env = [(false, eval e X.env)] := by rfl) : PDI X W xw tg (.Call (.Name "range" p) [e] [] pos) (iRng1 ta) (diRange1 da) :=
  ⟨fun tk => pi_range1 hg hm (a.pa tk) hs, fun c eK hW Γ k hk σ H st R q => a.li c eK hW Γ _ hk σ H st _ fun vs ss H1 g1 r1 h1 => by
    try dsimp only at h1
    split at h1
    · obtain ⟨v, rfl, rr⟩ := paired1 r1
      have e := sl_int rr
      subst e
      exact ⟨_, rfl, h1.1.1, h1.1.2, q _ H1 _ g1 ⟨⟨_, walk_r, trivial⟩, fun _ _ => ⟨fun _ => True, trivial, fun _ => walk_r⟩⟩ h1.2⟩
    · exact h1.elim⟩
/-! ### comprehensions with one name -/
def wipeD (Γ : Gm) (i : Nat) : Gm := Γ.set i .any
def lcD (i : Nat) (ts : DT) (e : DE) (Γ : Gm) : List D → (List D → Prop) → Prop
  | [], k => k []
  | x :: r, k => ts (Γ.set i (.d x)) fun b => cond b (e (Γ.set i (.d x)) fun s => match s with
    | .d y => lcD i ts e Γ r fun ys => k (y :: ys)
    | _ => False) (lcD i ts e Γ r k)
def dLc (i : Nat) (di : DI) (ts : DT) (e : DE) : DE := fun Γ k => di Γ fun xs => xs.length ≤ 100000 ∧ lcD i ts e Γ xs fun ys => k (.d (.lst ys))
def dYes : DT := fun _ k => k true
theorem li_lc {i : Nat} {wi : TI} {tt : TT} {te : TE} {di : DI} {ts : DT} {e : DE} (hi : LiI K W xw wi di) (ht : LiT K W0 xw0 tt ts) (he : Li K W0 xw0 te e) : Li K W xw (tLc wi (gName i) tt te [i]) (dLc i di ts e) := fun c eK hW Γ k hk σ H st Q q => by
  refine hi c eK hW Γ _ hk σ H st _ fun J H1 xs g1 wo hxs => fun q0 nD => ?_
  obtain ⟨hl, hk⟩ := hxs
  obtain ⟨φ, hφ, wk⟩ := wo.own q0 nD
  have nF : ¬ c.F q0 := c.fresh g1.inv nD
  -- beside the new list, with the walk's own and all that stood
  let G : Addr → Prop := fun b => c.G b ∨ b = q0
  have kD : ∀ {H : Hp} {o : HO}, Kp G H (upd H q0 o) := fun {H o} b u nb _ e => by
    rw [upd_ne (fun y => nb (.inr y))]
    exact e
  have kF : ∀ {H : Hp} {o : HO}, Kp (c.hide q0 nF).F H (upd H q0 o) := fun {H o} => kD.le fun b z => z.elim (fun z => .inl (c.GF z)) .inr
  have kG : ∀ {H H' : Hp}, Kp c.G H H' → Kp G H H' := fun k => k.le fun _ z => .inl z
  refine ⟨fun n m H => m = xs.length - n ∧ n ≤ xs.length ∧ φ H ∧ Kp G H1 H ∧ ∃ (acc : List V) (ys : List D), H q0 = some (.lst acc) ∧ StOk (c.hide q0 nF) σ H Γ ∧ RpAll (c.hide q0 nF) H acc ys ∧ acc.length ≤ n ∧ lcD i ts e Γ (xs.drop n) (fun zs => k (.d (.lst (ys ++ zs)))), ⟨xs.length, by simp, Nat.zero_le _, (wk nF).st kF hφ, kD, [], [], upd_same, (st.go g1).hide nF nD (fun b o e => by rw [upd_ne (ne_of_none e nD)]; exact e) ⟨_, upd_same, rfl⟩, .nil, Nat.le_refl _, by simpa using hk⟩, ?_⟩
  rintro n m H2 ⟨rfl, hn, hf, kk, acc, ys, ea, sk, ra, la, hd⟩
  by_cases hlt : n < xs.length
  · refine .inr ⟨(wk nF).go n H2 hf sk.inv hlt, fun H' => n + 1 ≤ xs.length ∧ φ H' ∧ Kp G H1 H' ∧ ∃ (acc : List V) (ys : List D), H' q0 = some (.lst acc) ∧ StOk (c.hide q0 nF) σ H' Γ ∧ RpAll (c.hide q0 nF) H' acc ys ∧ acc.length ≤ n + 1 ∧ lcD i ts e Γ (xs.drop (n + 1)) (fun zs => k (.d (.lst (ys ++ zs)))), fun H' z => ⟨xs.length - (n + 1), by omega, rfl, z⟩, fun x H' y => ?_⟩
    have ex : xs[n]? = some xs[n] := List.getElem?_eq_some_iff.mpr ⟨hlt, rfl⟩
    obtain ⟨g2, rx⟩ := (wk nF).yld n H2 x H' xs[n] hf sk.inv ex y
    rw [List.drop_eq_getElem_cons hlt, lcD] at hd
    have ew : wipe σ [i] = σ.set i none := rfl
    refine ⟨by rw [ew]; simp [wipe], ?_⟩
    rw [ew, List.set_set]
    have s2 : StOk (c.hide q0 nF) (σ.set i (some x)) H' (Γ.set i (.d xs[n])) := (sk.go g2).set ⟨x, rfl, rx⟩
    refine ht (c.hide q0 nF) eK WOk.zero _ _ hd _ H' s2 _ fun b H3 g3 hb => ?_
    have st3 : ∀ {H3 : Hp}, Go (c.hide q0 nF) H2 H3 → φ H3 ∧ Kp G H1 H3 ∧ H3 q0 = some (.lst acc) := fun {H3} g => ⟨(wk nF).st g.kF hf, kk.trans (kG g.keep), g.keep q0 _ (fun z => nF (c.GF z)) rfl ea⟩
    cases b
    · rw [if_neg Bool.false_ne_true]
      have g23 := g2.trans g3
      exact ⟨hlt, (st3 g23).1, (st3 g23).2.1, acc, ys, (st3 g23).2.2, sk.go g23, ra.go g23.kF, by omega, hb⟩
    · rw [if_pos rfl]
      refine he (c.hide q0 nF) eK WOk.zero _ _ hb _ H3 (s2.go g3) _ fun v s H4 g4 rv hv => ?_
      try dsimp only at hv
      have g24 := (g2.trans g3).trans g4
      split at hv
      · rename_i yy
        obtain ⟨w, ew', rr⟩ := rv
        cases ew'
        have sk4 := sk.go g24
        refine ⟨acc, (st3 g24).2.2, Nat.lt_of_le_of_lt la (Nat.lt_of_lt_of_le hlt (sz hl)), hlt, (wk nF).st kF (st3 g24).1, (st3 g24).2.1.trans kD, acc ++ [v], ys ++ [yy], upd_same, sk4.hput, ?_, by rw [List.length_append]; simp; omega, ?_⟩
        · exact RpAll.append ((ra.go g24.kF).go kF) (.cons (rr.go kF) .nil)
        · simpa using hv
      · exact hv.elim
  · have en : n = xs.length := by omega
    subst en
    rw [List.drop_length] at hd
    refine .inl ⟨(wk nF).stop _ H2 hf (Nat.le_refl _), q (.ref q0) (.d (.lst ys)) H2 (g1.trans ⟨fun b u nb tb eb => kk b u (fun z => z.elim nb fun y => by
      rw [y, nD] at eb
      cases eb) tb eb, Le.hide.I _ sk.inv⟩) ⟨_, rfl, .lst nF ea (ra.le Le.hide)⟩ (by simpa [lcD] using hd)⟩
end
end Dv
set_option Elab.async false
set_option linter.all false
set_option maxRecDepth 100000
set_option maxHeartbeats 4000000
/-! Ds: statements over plain data. -/
namespace Dv
open PySem L2
structure DEnds where
  nx : Gm → Prop
  rt : Sl → Prop := fun _ => False
  bk : Gm → Prop := fun _ => False
  ct : Gm → Prop := fun _ => False
  ro : D → Prop := fun x => rt (.d x)
abbrev DS := DEnds → Gm → Prop
structure EndsOk (c : Cfg) (E : Ends) (D : DEnds) : Prop where
  nx : ∀ Γ σ H, StOk c σ H Γ → D.nx Γ → E.nx σ H
  rt : ∀ v s H, c.I H → SlOk c H (some v) s → D.rt s → E.rt v H
  bk : ∀ Γ σ H, StOk c σ H Γ → D.bk Γ → E.bk σ H
  ct : ∀ Γ σ H, StOk c σ H Γ → D.ct Γ → E.ct σ H
  ro : ∀ v x H, c.I H → Rp c.rel H v x → D.ro x → E.rt v H
theorem EndsOk.le {c c' : Cfg} {E : Ends} {D : DEnds} (l : Le c c') (h : EndsOk c E D) : EndsOk c' E D :=
  ⟨fun Γ σ H s q => h.nx Γ σ H (s.le l) q, fun v s H i r q => h.rt v s H (l.I _ i) (r.le l) q, fun Γ σ H s q => h.bk Γ σ H (s.le l) q, fun Γ σ H s q => h.ct Γ σ H (s.le l) q, fun v x H i r q => h.ro v x H (l.I _ i) (Rp.to (c := c'.rel) (c' := c.rel) l.K.symm l.R Kp.self r) q⟩
def LiS (K : PySem.W.Frag) (W : WX) (xw : XW) (ts : TS) (ds : DS) : Prop := ∀ c : Cfg, c.K = K → WOk c W xw → ∀ (E : Ends) (D : DEnds), EndsOk c E D → ∀ Γ σ H, StOk c σ H Γ → ds D Γ → ts E σ H
structure PDS (X : Cx) (W : WX) (xw : XW) (st : Stmt) (ts : TS) (ds : DS) : Prop where
  ps : Takes X W → PS X st ts
  li : LiS X.K W xw ts ds
structure PDSs (X : Cx) (W : WX) (xw : XW) (st : List Stmt) (ts : TS) (ds : DS) : Prop where
  ps : Takes X W → PSs X st ts
  li : LiS X.K W xw ts ds
section
variable {X : Cx} {W : WX} {xw : XW} {K : PySem.W.Frag} {pos : Pos}
def dNext : DS := fun D Γ => D.nx Γ
def dSeq (a b : DS) : DS := fun D Γ => a { D with nx := b D } Γ
def dBreak : DS := fun D Γ => D.bk Γ
def dCont : DS := fun D Γ => D.ct Γ
def dRet (e : DE) : DS := fun D Γ => e Γ D.rt
def dRetN : DS := fun D _ => D.rt (.d .non)
def dDrop (e : DE) : DS := fun D Γ => e Γ fun _ => D.nx Γ
def dIfS (t : DT) (a b : DS) : DS := fun D Γ => t Γ fun v => cond v (a D Γ) (b D Γ)
def dAsg (i : Nat) (e : DE) : DS := fun D Γ => e Γ fun s => D.nx (Γ.set i s)
section
variable {st : Stmt} {rest : List Stmt} {t u : TS} {d e : DS}
theorem pdss_nil : PDSs X W xw [] tNext dNext := ⟨fun tk => pss_nil, fun c eK hW E D o Γ σ H s h => o.nx Γ σ H s h⟩
theorem li_seq (h1 : LiS K W xw t d) (h2 : LiS K W xw u e) : LiS K W xw (tSeq t u) (dSeq d e) := fun c eK hW E D o Γ σ H s h =>
  h1 c eK hW { E with nx := u E } { D with nx := e D } ⟨fun Γ σ H s q => h2 c eK hW E D o Γ σ H s q, o.rt, o.bk, o.ct, o.ro⟩ Γ σ H s h
theorem pdss_cons (h1 : PDS X W xw st t d) (h2 : PDSs X W xw rest u e) : PDSs X W xw (st :: rest) (tSeq t u) (dSeq d e) := ⟨fun tk => pss_cons (h1.ps tk) (h2.ps tk), li_seq h1.li h2.li⟩
theorem pdss_one (h1 : PDS X W xw st t d) : PDSs X W xw [st] t d := ⟨fun tk => pss_one (h1.ps tk), h1.li⟩
theorem pds_pass : PDS X W xw (.Pass pos) tNext dNext := ⟨fun tk => ps_pass, fun c eK hW E D o Γ σ H s h => o.nx Γ σ H s h⟩
theorem pds_break : PDS X W xw (.Break pos) tBreak dBreak := ⟨fun tk => ps_break, fun c eK hW E D o Γ σ H s h => o.bk Γ σ H s h⟩
theorem pds_continue : PDS X W xw (.Continue pos) tCont dCont := ⟨fun tk => ps_continue, fun c eK hW E D o Γ σ H s h => o.ct Γ σ H s h⟩
theorem pds_ret {a : Expr} {ta : TE} {da : DE} (h : PD X W xw a ta da) : PDS X W xw (.Return (some a) pos) (tRet ta) (dRet da) :=
  ⟨fun tk => ps_ret (h.pe tk), fun c eK hW E D o Γ σ H s hd => h.li c eK hW Γ _ hd σ H s _ fun v s' H1 g r q => o.rt v s' H1 g.inv r q⟩
/-- return e, where what is owned becomes data -/
def dRetR (e : DE) : DS := fun D Γ => e (fzA Γ) fun s => match s with
  | .d x => D.ro x
  | _ => False
theorem pds_retR {a : Expr} {ta : TE} {da : DE} (h : PD X W0 xw0 a ta da) : PDS X W xw (.Return (some a) pos) (tRet ta) (dRetR da) :=
  ⟨fun tk => ps_ret (h.pe takes0), fun c eK hW E D o Γ σ H s hd => h.li c.rel eK WOk.zero (fzA Γ) _ hd σ H s.rel _ fun v s' H1 g r q => by
    try dsimp only at q
    split at q
    · obtain ⟨w, e, rr⟩ := r
      cases e
      exact o.ro v _ H1 g.inv rr q
    · exact q.elim⟩
theorem pds_retN : PDS X W xw (.Return none pos) tRetN dRetN := ⟨fun tk => ps_retN, fun c eK hW E D o Γ σ H s hd => o.rt .non (.d .non) H s.inv ⟨_, rfl, .non⟩ hd⟩
theorem pds_expr {a : Expr} {ta : TE} {da : DE} (h : PD X W xw a ta da) (hs : swapsWith a none pos.line X.env = pure false := by rfl) : PDS X W xw (.Expr a pos) (tDrop ta) (dDrop da) :=
  ⟨fun tk => ps_expr (h.pe tk) hs, fun c eK hW E D o Γ σ H s hd => h.li c eK hW Γ _ hd σ H s _ fun v s' H1 g r q => o.nx Γ σ H1 (s.go g) q⟩
theorem pds_if {c0 : Expr} {a b : List Stmt} {tc : TT} {dc : DT} (hc : PDT X W xw c0 tc dc) (ha : PDSs X W xw a t d) (hb : PDSs X W xw b u e) : PDS X W xw (.If c0 a b pos) (tIfS tc t u) (dIfS dc d e) :=
  ⟨fun tk => ps_if (hc.pt tk) (ha.ps tk) (hb.ps tk), fun c eK hW E D o Γ σ H s hd => hc.li c eK hW Γ _ hd σ H s _ fun v H1 g h1 => by
    cases v
    · rw [if_neg Bool.false_ne_true]
      exact hb.li c eK hW E D o Γ σ H1 (s.go g) h1
    · rw [if_pos rfl]
      exact ha.li c eK hW E D o Γ σ H1 (s.go g) h1⟩
theorem pds_set {i : Nat} {x : Str} {a : Expr} {ta : TE} {da : DE} {pos' : Pos} (h : PD X W xw a ta da) (hN : X.N.Nodup) (hi : X.N[i]? = some x := by rfl) (hx : Loc X.env.scope x := by first | exact Or.inl rfl | exact Or.inr rfl) (hs : swapsWith a (some (.Name x pos')) pos.line X.env = pure false := by rfl) (hf : X.fn x = true ∨ X.env.scope.names.lookup x = some .local := by first | exact .inl rfl | exact .inr rfl | assumption) :
    PDS X W xw (.Assign [.Name x pos'] a pos) (tAsg ta (gName i)) (dAsg i da) :=
  ⟨fun tk => ps_set hN hi hx (h.pe tk) hs hf, fun c eK hW E D o Γ σ H s hd => h.li c eK hW Γ _ hd σ H s _ fun v s' H1 g r q => o.nx _ _ H1 ((s.go g).set r) q⟩
/-- a, b = x, y -/
def dPar (i j : Nat) (a : DA) : DS := fun D Γ => a Γ fun ss => match ss with
  | [s, t] => D.nx ((Γ.set i s).set j t)
  | _ => False
theorem pds_par {i j : Nat} {x y : Str} {a b : Expr} {ta : TA} {da : DA} {px py pt : Pos} {kt k2 pt2} (h : PDA X W xw [a, b] ta da) (hc : X.calm = true) (hN : X.N.Nodup) (hi : X.N[i]? = some x := by rfl) (hj : X.N[j]? = some y := by rfl) (hij : i ≠ j := by decide)
    (hx : X.env.scope.names.lookup x = some .local := by rfl) (hy : X.env.scope.names.lookup y = some .local := by rfl)
    (hw : swappedStores [.Tuple [.Name x px, .Name y py] kt pt] (.Tuple [a, b] k2 pt2) X.env = pure (some [x, y]) := by rfl)
    (hs : swapsWithSole [.Tuple [.Name x px, .Name y py] kt pt] (.Tuple [a, b] k2 pt2) pos.line X.env = pure false := by rfl) :
    PDS X W xw (.Assign [.Tuple [.Name x px, .Name y py] kt pt] (.Tuple [a, b] k2 pt2) pos) (tPar i j ta) (dPar i j da) :=
  ⟨fun tk => ps_par hc hN hi hj hij hx hy (h.pa tk) hw hs, fun c eK hW E D o Γ σ H s hd => h.li c eK hW Γ _ hd σ H s _ fun vs ss H1 g r q => by
    try dsimp only at q
    split at q
    · obtain ⟨v, w, rfl, r1, r2⟩ := paired2 r
      exact ⟨v, w, rfl, o.nx _ _ H1 (((s.go g).set r1).set r2) q⟩
    · exact q.elim⟩
end
/-! ### targets -/
abbrev DG := D → Gm → (Gm → Prop) → Prop
def LiG (K : PySem.W.Frag) (g : TG) (dg : DG) : Prop := ∀ c : Cfg, c.K = K → ∀ x d Γ σ H k, StOk c σ H Γ → Rp c H x d → dg d Γ k → ∀ Q : St → Hp → Prop, (∀ σ' Γ', StOk c σ' H Γ' → k Γ' → Q σ' H) → g x σ H Q
structure PDG (X : Cx) (tg : Expr) (g : TG) (dg : DG) : Prop where
  pg : PG X tg g
  li : LiG X.K g dg
def dgName (i : Nat) : DG := fun d Γ k => k (Γ.set i (.d d))
theorem pdg_name {i : Nat} {x : Str} (hN : X.N.Nodup) (hi : X.N[i]? = some x := by rfl) (hx : Loc X.env.scope x := by first | exact Or.inl rfl | exact Or.inr rfl) (hf : X.fn x = true ∨ X.env.scope.names.lookup x = some .local := by first | exact .inl rfl | exact .inr rfl | assumption) : PDG X (.Name x pos) (gName i) (dgName i) :=
  ⟨pg_name hN hi hx hf, fun c eK x d Γ σ H k s r h Q q => q _ _ (s.set (s := .d d) ⟨x, rfl, r⟩) h⟩
abbrev DGs := List D → Gm → (Gm → Prop) → Prop
def LiGs (K : PySem.W.Frag) (g : TGs) (dg : DGs) : Prop := ∀ c : Cfg, c.K = K → ∀ xs ds Γ σ H k, StOk c σ H Γ → RpAll c H xs ds → dg ds Γ k → ∀ Q : St → Hp → Prop, (∀ σ' Γ', StOk c σ' H Γ' → k Γ' → Q σ' H) → g xs σ H Q
structure PDGs (X : Cx) (tg : List Expr) (g : TGs) (dg : DGs) : Prop where
  pg : PGs X tg g
  li : LiGs X.K g dg
def dgNil : DGs := fun ds Γ k => match ds with
  | [] => k Γ
  | _ => False
def dgCons (a : DG) (r : DGs) : DGs := fun ds Γ k => match ds with
  | d :: ds => a d Γ fun Γ' => r ds Γ' k
  | [] => False
theorem pdgs_nil : PDGs X [] gNil dgNil := ⟨pgs_nil, fun c eK xs ds Γ σ H k s r h Q q => by
  cases r with
  | nil => exact ⟨rfl, q σ Γ s h⟩
  | cons _ _ => exact h.elim⟩
theorem pdgs_cons {e : Expr} {es : List Expr} {t : TG} {u : TGs} {a : DG} {b : DGs} (h1 : PDG X e t a) (h2 : PDGs X es u b)
    (hs : (assignEach (e :: es) X.env).map (·.2) = assign e X.env :: (assignEach es X.env).map (·.2) := by rfl) : PDGs X (e :: es) (gCons t u) (dgCons a b) :=
  ⟨pgs_cons h1.pg h2.pg hs, fun c eK xs ds Γ σ H k s r h Q q => by
    cases r with
    | nil => exact h.elim
    | cons r1 r2 => exact ⟨_, _, rfl, h1.li c eK _ _ Γ σ H _ s r1 h _ fun σ' Γ' s' h' => h2.li c eK _ _ Γ' σ' H k s' r2 h' Q q⟩⟩
def dgTup (n : Nat) (a : DGs) : DG := fun d Γ k => match d with
  | .tup xs => xs.length = n ∧ a xs Γ k
  | _ => False
theorem pdg_tup {es : List Expr} {k : _} {t : TGs} {a : DGs} {n : Nat} (hc : X.calm = true) (h : PDGs X es t a) (hn : (assignEach es X.env).length = n := by rfl) (hst : (assignEach es X.env).findIdx? (·.1) = none := by rfl) : PDG X (.Tuple es k pos) (gTup X.K n t) (dgTup n a) :=
  ⟨pg_tup hc h.pg hn hst, fun c eK x d Γ σ H k s r hd Q q => by
    unfold dgTup at hd
    split at hd
    · cases r with
      | tup il ra => exact ⟨_, _, rfl, by rw [← eK]; exact il.sq, by rw [ra.length]; exact hd.1, h.li c eK _ _ Γ σ H k s ra hd.2 Q q⟩
    · exact hd.elim⟩
/-- target = value, the value data -/
def dAsgG (g : DG) (e : DE) : DS := fun D Γ => e Γ fun s => match s with
  | .d x => g x Γ D.nx
  | _ => False
theorem pds_asg {tg a : Expr} {ta : TE} {da : DE} {g : TG} {dg : DG} (h : PD X W xw a ta da) (hg : PDG X tg g dg) (hs : swapsWithSole [tg] a pos.line X.env = pure false := by rfl) (hw : swappedStores [tg] a X.env = pure none := by rfl)
    (h1 : (assignEach [tg] X.env).map (·.2) = [assign tg X.env] := by rfl) : PDS X W xw (.Assign [tg] a pos) (tAsg ta g) (dAsgG dg da) :=
  ⟨fun tk => ps_asg (h.pe tk) hg.pg hs hw h1, fun c eK hW E D o Γ σ H s hd => h.li c eK hW Γ _ hd σ H s _ fun v s' H1 g1 r q => by
    try dsimp only at q
    split at q
    · obtain ⟨w, e, rr⟩ := r
      cases e
      exact hg.li c eK _ _ Γ σ H1 _ (s.go g1) rr q _ fun σ' Γ' s2 k2 => o.nx Γ' σ' H1 s2 k2
    · exact q.elim⟩
/-! ### for -/
def forD (g : DG) (b : DS) (E : DEnds) : List D → Gm → Prop
  | [], Γ => E.nx Γ
  | x :: r, Γ => g x Γ fun Γ' => b { E with nx := forD g b E r, ct := forD g b E r, bk := E.nx } Γ'
def dFor (di : DI) (g : DG) (b : DS) : DS := fun D Γ => di Γ fun xs => forD g b D xs Γ
theorem li_for {wi : TI} {g : TG} {tb : TS} {di : DI} {dg : DG} {b : DS} (hi : LiI K W xw wi di) (hg : LiG K g dg) (hb : LiS K W xw tb b) : LiS K W xw (tFor wi g tb) (dFor di dg b) := fun c eK hW E D o Γ σ H s hd => by
  refine hi c eK hW Γ _ hd σ H s _ fun J H1 xs g1 wo hxs => ?_
  obtain ⟨φ, wk, hφ⟩ := wo.now
  let c' := c.wth φ fun k h => wk.st (k.le fun _ z => c.WF z) h
  have lc : Le c c' := Le.wth
  refine ⟨fun n m σ H => m = xs.length - n ∧ n ≤ xs.length ∧ ∃ Γ, StOk c' σ H Γ ∧ forD dg b D (xs.drop n) Γ, ⟨xs.length, by simp, Nat.zero_le _, Γ, (s.go g1).wth hφ, hxs⟩, ?_⟩
  rintro n m σ2 H2 ⟨rfl, hn, Γ2, s2, hd2⟩
  by_cases hlt : n < xs.length
  · refine .inr ⟨wk.go n H2 s2.inv.2 s2.inv.1 hlt, fun σ' H' => n + 1 ≤ xs.length ∧ ∃ Γ', StOk c' σ' H' Γ' ∧ forD dg b D (xs.drop (n + 1)) Γ', fun σ' H' z => ⟨xs.length - (n + 1), by omega, rfl, z⟩, fun x H' y => ?_⟩
    have ex : xs[n]? = some xs[n] := List.getElem?_eq_some_iff.mpr ⟨hlt, rfl⟩
    obtain ⟨g2, rx⟩ := wk.yld n H2 x H' xs[n] s2.inv.2 s2.inv.1 ex y
    rw [List.drop_eq_getElem_cons hlt, forD] at hd2
    have s3 : StOk c' σ2 H' Γ2 := s2.go ⟨g2.keep, g2.inv, wk.st g2.kF s2.inv.2⟩
    refine hg c' eK x _ Γ2 σ2 H' _ s3 (Rp.to (c := c) (c' := c') rfl (fun _ z => z) Kp.self rx) hd2 _ fun σ4 Γ4 s4 h4 => ?_
    refine hb c' eK (hW.le lc) { E with nx := fun σ' H' => n + 1 ≤ xs.length ∧ ∃ Γ', StOk c' σ' H' Γ' ∧ forD dg b D (xs.drop (n + 1)) Γ', ct := fun σ' H' => n + 1 ≤ xs.length ∧ ∃ Γ', StOk c' σ' H' Γ' ∧ forD dg b D (xs.drop (n + 1)) Γ', bk := E.nx } { D with nx := forD dg b D (xs.drop (n + 1)), ct := forD dg b D (xs.drop (n + 1)), bk := D.nx } ⟨?_, (o.le lc).rt, (o.le lc).nx, ?_, (o.le lc).ro⟩ Γ4 σ4 H' s4 h4
    · exact fun Γ σ H s q => ⟨hlt, Γ, s, q⟩
    · exact fun Γ σ H s q => ⟨hlt, Γ, s, q⟩
  · have en : n = xs.length := by omega
    subst en
    rw [List.drop_length] at hd2
    exact .inl ⟨wk.stop _ H2 s2.inv.2 (Nat.le_refl _), o.nx Γ2 σ2 H2 (s2.le lc) hd2⟩
theorem pds_for {tg iter : Expr} {body : List Stmt} {wi : TI} {g : TG} {tb : TS} {di : DI} {dg : DG} {b : DS} (hp : PassesOwn (model X.prog X.w) X.A X.env X.xe) (hc : X.calm = true) (hi : PDI X W xw tg iter wi di) (hg : PDG X tg g dg) (hb : PDSs X W xw body tb b)
    (hs : ∀ x, foldedSetIterable iter X.env x = pure x := by intro _; rfl) : PDS X W xw (.For tg iter body [] pos) (tFor wi g tb) (dFor di dg b) := ⟨fun tk => ps_for hp hc (hi.pi tk) hg.pg (hb.ps tk) hs, li_for hi.li hg.li hb.li⟩
/-! ### raise of an error of the program -/
def dRaise (C : Addr) (xw : XW) (a : DA) : DS := fun _ Γ => a Γ fun ss => match ss with
  | [.d x] => xw C (some [(("value" : Str), x)]) Γ
  | _ => False
theorem pds_raise {nm : Str} {C D fI : Addr} {a : Expr} {ta : TA} {da : DA} {p pos pos2 : Pos} {k : Nat} (hc : X.calm = true) (T : PySem.RoomX.RoomTxt X.prog X.K X.mg D fI) (U : PySem.RoomX.RoomCls X.K X.mg nm C D fI) (hr : Room k X.A) (h : PDA X W xw [a] ta da) (hg : Gl X nm := by rfl)
    (he : starEach (a :: []) X.env = (false, eval a X.env) :: starEach [] X.env := by rfl) (hpl : (backTo pos (starEach [] X.env)).any (·.1) = false := by rfl) (hdb : (nm == ("__debug__" : Str)) = false := by decide) :
    PDS X W xw (.Raise (some (.Call (.Name nm p) [a] [] pos)) none pos2) (tRaiseRoom C W ta) (dRaise C xw da) :=
  ⟨fun tk => ps_raiseRoom hc T U hr tk (h.pa tk) hg he hpl hdb, fun c eK hW E D o Γ σ H s hd => h.li c eK hW Γ _ hd σ H s _ fun vs ss H1 g r q => by
    try dsimp only at q
    split at q
    · obtain ⟨v, rfl, w, e, rr⟩ := paired1 r
      cases e
      refine ⟨v, rfl, fun d nd => ?_⟩
      have g2 := Go.new (o := xval v) g.inv nd
      exact hW σ _ Γ C (some d) (some _) ((s.go g).go g2) ⟨_, c.fresh g.inv nd, upd_same, .cons (rr.go g2.kF) .nil⟩ q
    · exact q.elim⟩
end
end Dv
set_option Elab.async false
set_option linter.all false
set_option maxRecDepth 100000
set_option maxHeartbeats 4000000
/-! Df: defs and their contracts over plain data; try; pools. -/
namespace Dv
open PySem L2
def noOwn : List Sl → Bool
  | [] => true
  | .own _ _ :: _ => false
  | _ :: r => noOwn r
theorem paired_sub {c : Cfg} {H : Hp} {vs : List V} {ss : List Sl} (h : Paired (fun v s => SlOk c H (some v) s) vs ss) : noOwn ss = true → Paired (fun v s => SlOk c.sub H (some v) s) vs ss := by
  induction h with
  | nil => exact fun _ => .nil
  | cons a b ih =>
    rename_i v s vs ss
    intro z
    cases s with
    | any => exact .cons trivial (ih z)
    | v x => exact .cons a (ih z)
    | d x =>
      obtain ⟨w, e, r⟩ := a
      exact .cons ⟨w, e, Rp.to (c := c) (c' := c.sub) rfl (fun _ z => z) Kp.self r⟩ (ih z)
    | pool => exact .cons a (ih z)
    | ex b cls dd p => exact .cons ⟨a.1, XOk.to (c := c) (c' := c.sub) rfl (fun _ z => z) Kp.self a.2⟩ (ih z)
    | own k x => cases z
    | tab T => exact .cons a (ih z)
/-- what a def tells: of arguments, of what is wanted of the value, of what is wanted of an error -/
structure Ctr where
  n : Nat
  f : List Sl → DK → (Addr → XP → Prop) → Prop
  mono : ∀ {ss : List Sl} {k k' : DK} {x x' : Addr → XP → Prop}, (∀ s, k s → k' s) → (∀ C p, x C p → x' C p) → f ss k x → f ss k' x'
  no : ∀ {ss : List Sl} {k : DK} {x : Addr → XP → Prop}, f ss k x → noOwn ss = true := by (intro ss k x h; (try dsimp only at h); split at h <;> first | rfl | exact h.elim)
def Ctr.sp (C : Ctr) (K : PySem.W.Frag) : Sp := fun vs H Q E => ∃ (c : Cfg) (ss : List Sl), c.K = K ∧ c.I H ∧ Paired (fun v s => SlOk c H (some v) s) vs ss ∧ ss.length = C.n ∧
  C.f ss (fun s => ∀ v H', Go c H H' → SlOk c H' (some v) s → Q v H') (fun A p => ∀ d H', Go c H H' → XOk c H' d p → E (.ref A) d H')
theorem paired_len {α β : Type} {F : α → β → Prop} {xs : List α} {ys : List β} (h : Paired F xs ys) : xs.length = ys.length := by
  induction h with
  | nil => rfl
  | cons _ _ ih => exact congrArg (· + 1) ih
section
variable {X : Cx} {W : WX} {xw : XW} {K : PySem.W.Frag}
def dCall (C : Ctr) (xw : XW) (a : DA) : DE := fun Γ k => a Γ fun ss => ss.length = C.n ∧ C.f ss k fun A p => xw A p Γ
section
variable {C : Ctr} {f : Addr} {fd : FuncData} {ps : List Str} {k : Nat} {x : Str} {p pos : Pos} {e : Expr} {es : List Expr} {ta : TA} {da : DA}
/-- f(..) that raises nothing here -/
theorem pd_call (F : FnOk X.prog X.w X.K X.mg X.base (L2.CX X.prog X.w) k f fd ps (C.sp X.K)) (hr : Room k X.A) (hm : X.mg x = some (.ref f)) (hk : PySem.W.keepIn X.K (.ref f) = true) (hb : Binds X.K fd ps []) (a : PDA X W xw (e :: es) ta da) (hg : Gl X x := by rfl)
    (hdb : (x == ("__debug__" : Str)) = false := by decide) (he : starEach (e :: es) X.env = (false, eval e X.env) :: starEach es X.env := by rfl) (hpl : (backTo pos (starEach es X.env)).any (·.1) = false := by rfl) :
    PD X W xw (.Call (.Name x p) (e :: es) [] pos) (tCall (C.sp X.K) [] E0 ta) (dCall C xw0 da) :=
  ⟨fun tk => pe_call F hr hg hm hk hb .nil passL (a.pa tk) hdb he hpl, fun c eK hW Γ k hd σ H st Q q => a.li c eK hW Γ _ hd σ H st _ fun vs ss H1 g r h => by
    rw [List.append_nil]
    exact ⟨c, ss, eK, g.inv, r, h.1, C.mono (fun s ks v H' g' r' => q v s H' (g.trans g') r' ks) (fun _ _ z => z.elim) h.2⟩⟩
/-- f(..) that may raise -/
theorem pd_callX (F : FnOk X.prog X.w X.K X.mg X.base (L2.CX X.prog X.w) k f fd ps (C.sp X.K)) (hr : Room k X.A) (hm : X.mg x = some (.ref f)) (hk : PySem.W.keepIn X.K (.ref f) = true) (hb : Binds X.K fd ps []) (a : PDA X W xw (e :: es) ta da) (hg : Gl X x := by rfl)
    (hdb : (x == ("__debug__" : Str)) = false := by decide) (he : starEach (e :: es) X.env = (false, eval e X.env) :: starEach es X.env := by rfl) (hpl : (backTo pos (starEach es X.env)).any (·.1) = false := by rfl) :
    PD X W xw (.Call (.Name x p) (e :: es) [] pos) (tCallS (C.sp X.K) (WE W) ta) (dCall C xw da) :=
  ⟨fun tk => pe_callS F hr hg hm hk hb (fun σ => passAt tk σ) (a.pa tk) hdb he hpl, fun c eK hW Γ k hd σ H st Q q => a.li c eK hW Γ _ hd σ H st _ fun vs ss H1 g r h =>
    ⟨c, ss, eK, g.inv, r, h.1, C.mono (fun s ks v H' g' r' => q v s H' (g.trans g') r' ks) (fun A pp z d H' g' x' => hW σ H' Γ A d pp (st.go (g.trans g')) x' z) h.2⟩⟩
end
end
/-! ### a def keeps its contract -/
def startD (N : List Str) (ss : List Sl) : Gm := ss ++ List.replicate (N.length - ss.length) .any
theorem start_ok {c : Cfg} {H : Hp} {N : List Str} {vs : List V} {ss : List Sl} (hi : c.I H) (r : Paired (fun v s => SlOk c H (some v) s) vs ss) : StOk c (L2.start N vs) H (startD N ss) := by
  have hl := paired_len r
  refine ⟨hi, by simp [L2.start, startD, hl], fun i o s e1 e2 => ?_⟩
  unfold L2.start at e1
  unfold startD at e2
  by_cases h : i < ss.length
  · rw [List.getElem?_append_left (by simpa [hl] using h), List.getElem?_map] at e1
    rw [List.getElem?_append_left h] at e2
    have key : ∀ {vs : List V} {ss : List Sl} {i : Nat}, Paired (fun v s => SlOk c H (some v) s) vs ss → Option.map some vs[i]? = some o → ss[i]? = some s → SlOk c H o s := by
      intro vs ss i r
      induction r generalizing i with
      | nil =>
        intro z
        simp at z
      | cons a b ih =>
        intro z1 z2
        cases i with
        | zero =>
          simp at z1 z2
          subst z1 z2
          exact a
        | succ i => exact ih (by simpa using z1) (by simpa using z2)
    exact key r e1 e2
  · rw [List.getElem?_append_right (by omega)] at e2
    have z : s = .any := by
      have y := List.getElem?_replicate (a := Sl.any) (n := N.length - ss.length) (i := i - ss.length)
      rw [y] at e2
      split at e2
      · exact (Option.some.inj e2).symm
      · cases e2
    rw [z]
    trivial
section
variable {P : Program} {w : World} {K : PySem.W.Frag} {mg : Str → Option Value} {base : Heap}
theorem fn_ok {x qual : Str} {st : Stmt} {f : Addr} {fd : FuncData} {N ps : List Str} {k : Nat} (C : Ctr) (F : Fun K x qual st f fd) (S : FnScope N ps (defScope st)) (hn : ps.length = C.n)
    (body : ∀ (cdv : Value) (A : Around) (outer : List Env) (s : Shared) (H : Hp) (E : XK) (xw : XW), Room k (A.deeper (PyProof.Rows.envOfC qual (defScope st) s.heap.objs.size f cdv)) →
      PassesOwn (model P w) (cxOf (L2.CX P w) P w K mg base N qual (defScope st) f cdv A outer s H E).A (cxOf (L2.CX P w) P w K mg base N qual (defScope st) f cdv A outer s H E).env (cxOf (L2.CX P w) P w K mg base N qual (defScope st) f cdv A outer s H E).xe →
      ∃ ts ds, PDSs (cxOf (L2.CX P w) P w K mg base N qual (defScope st) f cdv A outer s H E) (fun cls d _ H => E cls d H) xw (defBody st) ts ds ∧
        ∀ ss kk xx, ss.length = C.n → C.f ss kk xx → (xw = fun A p _ => xx A p) → ds { nx := fun _ => kk (.d .non), rt := kk } (startD N ss)) : FnOk P w K mg base (L2.CX P w) (k + 1) f fd ps (C.sp K) := by
  refine F.okX S (fun vs H Q E h => ?_) (fun cdv A outer s H vs Q E hr h => ?_)
  · obtain ⟨c, ss, _, _, r, hl, _⟩ := h
    rw [paired_len r, hl, hn]
  · obtain ⟨c, ss, eK, hi, r, hl, hf⟩ := h
    obtain ⟨ts, ds, pd, hd⟩ := body cdv A outer s H E (fun A p _ => ∀ d H', Go c H H' → XOk c H' d p → E (.ref A) d H') hr (passes_of rfl)
    refine ⟨ts, pd.ps (takes_of rfl rfl rfl rfl), ?_⟩
    have q := hd ss _ _ hl hf rfl
    let c' := c.sub.wth (Kp c.G H) (fun {H1 H2} k h => h.trans k)
    have lc : Le c c' := ⟨rfl, fun _ z => z, fun _ h => h.1, fun _ z => z, fun _ _ e => (nomatch e), fun _ z => ⟨z.1, fun y => y⟩, rfl⟩
    have s0 : StOk c' (L2.start N vs) H (startD N ss) := (start_ok (c := c.sub) hi (paired_sub r (C.no hf))).wth Kp.self
    refine pd.li c' eK ?_ _ _ ⟨?_, ?_, ?_, ?_, ?_⟩ _ _ _ s0 q
    · exact fun σ H' Γ A d p st x z => z d H' ⟨st.inv.2, st.inv.1⟩ (x.le lc)
    · exact fun Γ σ H' st z => z .non H' ⟨st.inv.2, st.inv.1⟩ ⟨_, rfl, .non⟩
    · exact fun v s H' i r z => z v H' ⟨i.2, i.1⟩ (r.le lc)
    · exact fun _ _ _ _ z => z.elim
    · exact fun _ _ _ _ z => z.elim
    · exact fun v x H' i r z => z v H' ⟨i.2, i.1⟩ ⟨v, rfl, Rp.to (c := c'.rel) (c' := c) rfl (fun _ z => ⟨z, fun y => y⟩) Kp.self r⟩
/-- a def that lets nothing out -/
theorem fn_ok0 {x qual : Str} {st : Stmt} {f : Addr} {fd : FuncData} {N ps : List Str} {k : Nat} (C : Ctr) (F : Fun K x qual st f fd) (S : FnScope N ps (defScope st)) (hn : ps.length = C.n)
    (body : ∀ (cdv : Value) (A : Around) (outer : List Env) (s : Shared) (H : Hp) (E : XK), Room k (A.deeper (PyProof.Rows.envOfC qual (defScope st) s.heap.objs.size f cdv)) →
      PassesOwn (model P w) (cxOf (L2.CX P w) P w K mg base N qual (defScope st) f cdv A outer s H E).A (cxOf (L2.CX P w) P w K mg base N qual (defScope st) f cdv A outer s H E).env (cxOf (L2.CX P w) P w K mg base N qual (defScope st) f cdv A outer s H E).xe →
      ∃ ts ds, PDSs (cxOf (L2.CX P w) P w K mg base N qual (defScope st) f cdv A outer s H E) (fun cls d _ H => E cls d H) xw0 (defBody st) ts ds ∧
        ∀ ss kk xx, ss.length = C.n → C.f ss kk xx → ds { nx := fun _ => kk (.d .non), rt := kk } (startD N ss)) : FnOk P w K mg base (L2.CX P w) (k + 1) f fd ps (C.sp K) := by
  refine F.okX S (fun vs H Q E h => ?_) (fun cdv A outer s H vs Q E hr h => ?_)
  · obtain ⟨c, ss, _, _, r, hl, _⟩ := h
    rw [paired_len r, hl, hn]
  · obtain ⟨c, ss, eK, hi, r, hl, hf⟩ := h
    obtain ⟨ts, ds, pd, hd⟩ := body cdv A outer s H E hr (passes_of rfl)
    refine ⟨ts, pd.ps (takes_of rfl rfl rfl rfl), ?_⟩
    have q := hd ss _ _ hl hf
    let c' := c.sub.wth (Kp c.G H) (fun {H1 H2} k h => h.trans k)
    have lc : Le c c' := ⟨rfl, fun _ z => z, fun _ h => h.1, fun _ z => z, fun _ _ e => (nomatch e), fun _ z => ⟨z.1, fun y => y⟩, rfl⟩
    have s0 : StOk c' (L2.start N vs) H (startD N ss) := (start_ok (c := c.sub) hi (paired_sub r (C.no hf))).wth Kp.self
    refine pd.li c' eK WOk.zero _ _ ⟨?_, ?_, ?_, ?_, ?_⟩ _ _ _ s0 q
    · exact fun Γ σ H' st z => z .non H' ⟨st.inv.2, st.inv.1⟩ ⟨_, rfl, .non⟩
    · exact fun v s H' i r z => z v H' ⟨i.2, i.1⟩ (r.le lc)
    · exact fun _ _ _ _ z => z.elim
    · exact fun _ _ _ _ z => z.elim
    · exact fun v x H' i r z => z v H' ⟨i.2, i.1⟩ ⟨v, rfl, Rp.to (c := c'.rel) (c' := c) rfl (fun _ z => ⟨z, fun y => y⟩) Kp.self r⟩
end
end Dv
set_option Elab.async false
set_option linter.all false
set_option maxRecDepth 100000
set_option maxHeartbeats 4000000
/-! Dt: comprehensions as expressions; try; the caught error; pools. -/
namespace Dv
open PySem L2
section
variable {X : Cx} {W : WX} {xw : XW} {K : PySem.W.Frag} {pos : Pos}
structure PDTs (X : Cx) (W : WX) (xw : XW) (es : List Expr) (tt : TT) (dt : DT) : Prop where
  pt : Takes X W → PTs X es tt
  li : LiT X.K W xw tt dt
theorem pdts_nil : PDTs X W xw [] tYes dYes := ⟨fun _ => pts_nil, fun c eK hW Γ k h σ H st Q q => q true H (Go.self st.inv) h⟩
theorem pdts_one {e : Expr} {t : TT} {d : DT} (h : PDT X W xw e t d) : PDTs X W xw [e] t d := ⟨fun tk => pts_one (h.pt tk), h.li⟩
/-- what may hang on the block's place, and does not -/
abbrev Blk (α : Type) := Shared → Hp → Addr → List (Str × Addr) → List Addr → α
abbrev Blk.at0 {α : Type} (X : Cx) (t : Blk α) : α := t X.s_0 X.H_0 0 [] []
/-- [e for x in xs if t] -/
theorem pd_lc {i : Nat} {x : Str} {tp : Pos} {elt iter : Expr} {ifs : List Expr} {scope : Scope} {wi : TI} {tt : Blk TT} {te : Blk TE} {di : DI} {dt : DT} {de : DE} (hc : X.calm = true) (hN : X.N.Nodup) (hi : PDI X W xw (.Name x tp) iter wi di) (ok : BlkOk X.N X.env.scope scope [(x, i)])
    (hg : ∀ (s : Shared) (H : Hp) (C : Addr) (cl : List (Str × Addr)) (fp : List Addr), PG (X.blk s H scope (compEnvC scope cl C X.env) fp) (.Name x tp) (gName i)) (ht : ∀ (s : Shared) (H : Hp) (C : Addr) (cl : List (Str × Addr)) (fp : List Addr), PDTs (X.blk s H scope (compEnvC scope cl C X.env) fp) W0 xw0 ifs (tt s H C cl fp) dt)
    (he : ∀ (s : Shared) (H : Hp) (C : Addr) (cl : List (Str × Addr)) (fp : List Addr), PD (X.blk s H scope (compEnvC scope cl C X.env) fp) W0 xw0 elt (te s H C cl fp) de) (hs : ∀ x, foldedSetIterable iter X.env x = pure x := by intro _; rfl)
    (htt : ∀ s H C cl fp, tt s H C cl fp = Blk.at0 X tt := by intros; rfl) (hte : ∀ s H C cl fp, te s H C cl fp = Blk.at0 X te := by intros; rfl) :
    PD X W xw (.ListComp elt [⟨.Name x tp, iter, ifs, 0⟩] scope pos) (tLc wi (gName i) (Blk.at0 X tt) (Blk.at0 X te) [i]) (dLc i di dt de) :=
  ⟨fun tk => pe_lc (own := [(x, i)]) hc hN (hi.pi tk) ok hg (fun s H C cl fp => htt s H C cl fp ▸ (ht s H C cl fp).pt takes0) (fun s H C cl fp => hte s H C cl fp ▸ (he s H C cl fp).pe takes0) hs, li_lc hi.li (ht X.s_0 X.H_0 0 [] []).li (he X.s_0 X.H_0 0 [] []).li⟩
/-- y = [e for x in xs if t] -/
theorem pds_setLc {j i : Nat} {y x : Str} {py tp : Pos} {elt iter : Expr} {ifs : List Expr} {scope : Scope} {pos spos : Pos} {wi : TI} {tt : Blk TT} {te : Blk TE} {di : DI} {dt : DT} {de : DE} (hc : X.calm = true) (hN : X.N.Nodup)
    (hi : PDI X W xw (.Name x tp) iter wi di) (ok : BlkOk X.N X.env.scope scope [(x, i)])
    (hg : ∀ (s : Shared) (H : Hp) (C : Addr) (cl : List (Str × Addr)) (fp : List Addr), PG (X.blk s H scope (compEnvC scope cl C X.env) fp) (.Name x tp) (gName i)) (ht : ∀ (s : Shared) (H : Hp) (C : Addr) (cl : List (Str × Addr)) (fp : List Addr), PDTs (X.blk s H scope (compEnvC scope cl C X.env) fp) W0 xw0 ifs (tt s H C cl fp) dt)
    (he : ∀ (s : Shared) (H : Hp) (C : Addr) (cl : List (Str × Addr)) (fp : List Addr), PD (X.blk s H scope (compEnvC scope cl C X.env) fp) W0 xw0 elt (te s H C cl fp) de) (hy : X.N[j]? = some y := by rfl) (hyl : X.env.scope.names.lookup y = some .local := by rfl)
    (hsw : swapsWith (.ListComp elt [⟨.Name x tp, iter, ifs, 0⟩] scope pos) (some (.Name y py)) spos.line X.env = pure true := by exact sw_true rfl rfl rfl (by decide +kernel)) (hs : ∀ x, foldedSetIterable iter X.env x = pure x := by intro _; rfl)
    (htt : ∀ s H C cl fp, tt s H C cl fp = Blk.at0 X tt := by intros; rfl) (hte : ∀ s H C cl fp, te s H C cl fp = Blk.at0 X te := by intros; rfl) :
    PDS X W xw (.Assign [.Name y py] (.ListComp elt [⟨.Name x tp, iter, ifs, 0⟩] scope pos) spos) (tAsg (tLc wi (gName i) (Blk.at0 X tt) (Blk.at0 X te) [i]) (gName j)) (dAsg j (dLc i di dt de)) :=
  ⟨fun tk => ps_setLc (own := [(x, i)]) hc hN hy hyl hsw (hi.pi tk) ok hg (fun s H C cl fp => htt s H C cl fp ▸ (ht s H C cl fp).pt takes0) (fun s H C cl fp => hte s H C cl fp ▸ (he s H C cl fp).pe takes0) hs, fun c eK hW E D o Γ σ H s hd =>
    li_lc hi.li (ht X.s_0 X.H_0 0 [] []).li (he X.s_0 X.H_0 0 [] []).li c eK hW Γ _ hd σ H s _ fun v s' H1 g r q => o.nx _ _ H1 ((s.go g).set r) q⟩
/-! ### try .. except C as e -/
def dTry (K : PySem.W.Frag) (c0 : Value) (i : Nat) (xw : XW) (db : XW → DS) (dsu : Addr → Value → Option Addr → DS) : DS := fun D Γ =>
  db (fun A p Γ' => ∃ b, PySem.W.exmOne K (.ref A) c0 = some b ∧ cond b (∀ a d, dsu a (.ref A) d { nx := fun Γ => D.nx (Γ.set i .any), rt := D.rt, bk := fun Γ => D.bk (Γ.set i .any), ct := fun Γ => D.ct (Γ.set i .any), ro := D.ro } (Γ'.set i (.ex a (.ref A) d p))) (xw A p Γ')) D Γ
/-- an exception's object of which nothing is asked -/
abbrev oe0 (cls : Value) (d : Option Addr) : Obj := { cls := cls, dict := d, data := .fields #[] }
theorem pds_try {x n : Str} {c0 : Value} {i : Nat} {body suite : List Stmt} {b₀ : Stmt} {np pos' : Pos} {tb : WX → List (Addr × Obj) → (Value → Shared → Prop) → TS} {ts : Addr → Obj → Value → Option Addr → List (Addr × Obj) → TS} {db : XW → DS} {dsu : Addr → Value → Option Addr → DS} (hN : X.N.Nodup) (hc : Names X x c0)
    (hb : ∀ (W' : WX) (xw' : XW) (pn : List (Addr × Obj)) (xe : Value → Shared → Prop), PDSs (X.tr pn xe) W' xw' body (tb W' pn xe) (db xw'))
    (hsu : ∀ (a : Addr) (oe : Obj) (cls : Value) (d : Option Addr) (pn : List (Addr × Obj)), Zc cls d oe → (∃ vs, oe.data = .fields vs) → PDSs (X.suite a ((a, oe) :: pn)) W0 xw0 (b₀ :: suite) (ts a oe cls d pn) (dsu a cls d))
    (hs : X.stack = X.env :: X.outer := by rfl) (hf : X.env.frame = some X.env.locals := by rfl) (hi : X.N[i]? = some n := by rfl) (hln : X.env.kindOf n = some .local := by rfl)
    (htb : ∀ W' pn xe, tb W' pn xe = tb W' X.pn X.xe := by intros; rfl) (hts : ∀ a oe cls d pn, ts a oe cls d pn = ts a (oe0 cls d) cls d [] := by intros; rfl) :
    PDS X W xw (.Try body [.ExceptHandler (some (.Name x np)) (some n) (b₀ :: suite) pos'] [] [] pos) (fun D σ H => tb (wAs X.K c0 i (fun a cls d => ts a (oe0 cls d) cls d []) W D) X.pn X.xe D σ H) (dTry X.K c0 i xw db dsu) :=
  ⟨fun tk => ps_try_as (tb := fun W' => tb W' X.pn X.xe) (ts := fun a cls d => ts a (oe0 cls d) cls d []) hs hf hN hi hln hc tk (fun W' pn xe tk' _ => htb W' pn xe ▸ (hb W' xw0 pn xe).ps tk') (fun a oe cls d pn z f => hts a oe cls d pn ▸ (hsu a oe cls d pn z f).ps takes0), fun c eK hW E D o Γ σ H s hd => by
    refine (hb (wAs X.K c0 i (fun a cls d => ts a (oe0 cls d) cls d []) W E) _ X.pn X.xe).li c eK ?_ E D o Γ σ H s hd
    intro σ1 H1 Γ1 A d p s1 x1 h1
    obtain ⟨b, eb, h1⟩ := h1
    refine ⟨b, eb, fun e a na => ?_, fun e => ?_⟩
    · subst e
      have L := (hsu a (oe0 (.ref A) d) (.ref A) d [] ⟨rfl, rfl⟩ ⟨_, rfl⟩).li
      refine L c eK WOk.zero { nx := fun σ' H' => E.nx (σ'.set i none) H', rt := E.rt, bk := fun σ' H' => E.bk (σ'.set i none) H', ct := fun σ' H' => E.ct (σ'.set i none) H' } { nx := fun Γ => D.nx (Γ.set i .any), rt := D.rt, bk := fun Γ => D.bk (Γ.set i .any), ct := fun Γ => D.ct (Γ.set i .any), ro := D.ro } ⟨?_, o.rt, ?_, ?_, o.ro⟩ _ _ _ (s1.set (s := .ex a (.ref A) d p) ⟨rfl, x1⟩) (h1 a d)
      · exact fun Γ σ H s q => o.nx _ _ H (s.set (s := .any) trivial) q
      · exact fun Γ σ H s q => o.bk _ _ H (s.set (s := .any) trivial) q
      · exact fun Γ σ H s q => o.ct _ _ H (s.set (s := .any) trivial) q
    · subst e
      exact hW σ1 H1 Γ1 A d p s1 x1 h1⟩
/-! ### the caught error -/
def dVal (C a : Addr) (cls : Value) (d : Option Addr) (e : DE) : DE := fun Γ k => e Γ fun s => match s with
  | .ex a' _ d' (some [(n, x)]) => a' = a ∧ cls = .ref C ∧ d' = d ∧ n = ("value" : Str) ∧ k (.d x)
  | _ => False
theorem pd_val {nm : Str} {C D fI a : Addr} {oe : Obj} {cls : Value} {d : Option Addr} {pn : List (Addr × Obj)} {e : Expr} {te : TE} {de : DE} (U : PySem.RoomX.RoomCls X.K X.mg nm C D fI) (hz : Zc cls d oe) (hf : ∃ vs, oe.data = .fields vs) (h : PD (X.suite a ((a, oe) :: pn)) W xw e te de)
    (hb : attributeBase e "value" X.env (eval e X.env) = eval e X.env := by rfl) : PD (X.suite a ((a, oe) :: pn)) W xw (.Attribute e "value" pos) (tValRoom C a cls d te) (dVal C a cls d de) :=
  ⟨fun tk => pe_valRoom U hz hf (h.pe tk) hb, fun c eK hW Γ k hd σ H st Q q => h.li c eK hW Γ _ hd σ H st _ fun v s H1 g r h1 => by
    try dsimp only at h1
    split at h1
    · obtain ⟨ea, e1, ed', en, hk⟩ := h1
      subst en
      have ev := Option.some.inj r.1
      rw [ea] at ev
      obtain ⟨_, xo⟩ := r
      rw [ed'] at xo
      cases z : d with
      | none =>
        rw [z] at xo
        exact xo.elim
      | some d1 =>
        rw [z] at xo
        obtain ⟨vs, nF, ed, rf⟩ := xo
        cases rf with
        | cons rv rn =>
          cases rn
          exact ⟨ev, e1, d1, _, rfl, ed, q _ (.d _) H1 g ⟨_, rfl, rv⟩ hk⟩
    · exact h1.elim⟩
/-- isinstance(e, T), e the caught error, T a built-in class -/
def dIsR (K : PySem.W.Frag) (C a : Addr) (cls : Value) (d : Option Addr) (T : String) (e : DE) : DE := fun Γ k => e Γ fun s => match s with
  | .ex a' _ d' (some _) => a' = a ∧ cls = .ref C ∧ d' = d ∧ ∃ b, PySem.W.kitOne K (.ref C) (.type T) = some b ∧ k (.d (.bl b))
  | _ => False
end
end Dv
namespace L2
open PySem
/-- as rIsR, the class told by the reading -/
def rIsQ (K : PySem.W.Frag) (C a : Addr) (cls : Value) (d : Option Addr) : List V → Hp → VK → Prop := fun xs H Q => cls = .ref C ∧ rIsR K C a d xs H Q
theorem call_isQ {X : Cx} {nm : Str} {C D fI a : Addr} {oe : Obj} {cls : Value} {d : Option Addr} {pn : List (Addr × Obj)} (U : PySem.RoomX.RoomCls X.K X.mg nm C D fI) (Y : RoomIs X.K C) (hz : Zc cls d oe) (hf : ∃ vs, oe.data = .fields vs) : CallR (X.suite a ((a, oe) :: pn)) (.builtin "isinstance") (rIsQ X.K C a cls d) := by
  intro pins s σ H xs us Q I r h
  obtain ⟨e, h⟩ := h
  subst e
  exact call_isR U Y hz hf pins s σ H xs us Q I r h
end L2
namespace Dv
open PySem L2
section
variable {X : Cx} {W : WX} {xw : XW} {K : PySem.W.Frag} {pos : Pos}
theorem pd_isR {nm tn : Str} {T : String} {C D fI a : Addr} {oe : Obj} {cls : Value} {d : Option Addr} {pn : List (Addr × Obj)} {e : Expr} {te : TE} {de : DE} {p p2 : Pos} (U : PySem.RoomX.RoomCls X.K X.mg nm C D fI) (Y : RoomIs X.K C) (hz : Zc cls d oe) (hf : ∃ vs, oe.data = .fields vs) (hm : X.mg "isinstance" = none) (hmT : X.mg tn = none) (hvT : bootBuiltins tn = some (.type T)) (h : PD (X.suite a ((a, oe) :: pn)) W xw e te de)
    (hg : Gl X "isinstance" := by rfl) (hgT : Gl X tn := by rfl) (hnT : tn ≠ "__name__" := by decide) (hdT : (tn == ("__debug__" : Str)) = false := by decide)
    (hs1 : starEach [e, .Name tn p2] X.env = (false, eval e X.env) :: starEach [.Name tn p2] X.env := by rfl) (hpl : (backTo pos (starEach [.Name tn p2] X.env)).any (·.1) = false := by rfl) :
    PD (X.suite a ((a, oe) :: pn)) W xw (.Call (.Name "isinstance" p) [e, .Name tn p2] [] pos) (tCB (rIsQ X.K C a cls d) (tCons te (tCons (tC (.ty T)) tNil))) (dIsR X.K C a cls d T de) :=
  ⟨fun tk => pe_callB (X := X.suite a ((a, oe) :: pn)) (call_isQ U Y hz hf) hg hm (by decide +kernel) (pa_cons (h.pe tk) (pa_cons (pe_bltn (X := X.suite a ((a, oe) :: pn)) hgT hmT hvT rfl hnT hdT) pa_nil) hs1) (by decide) (by decide) hs1 hpl, fun c eK hW Γ k hd σ H st Q q => h.li c eK hW Γ _ hd σ H st _ fun v s H1 g r h1 => by
    try dsimp only at h1
    split at h1
    · obtain ⟨ea, e1, ed', b, hb, hk⟩ := h1
      have ev := Option.some.inj r.1
      rw [ea] at ev
      subst ev
      obtain ⟨_, xo⟩ := r
      rw [ed'] at xo
      cases z : d with
      | none =>
        rw [z] at xo
        exact xo.elim
      | some d1 =>
        rw [z] at xo
        obtain ⟨vs, nF, ed, rf⟩ := xo
        exact ⟨e1, _, _, b, d1, vs, rfl, fun u ru => ru, hb, rfl, ed, q _ (.d (.bl b)) H1 g ⟨_, rfl, .bl b⟩ hk⟩
    · exact h1.elim⟩
end
end Dv
set_option Elab.async false
set_option linter.all false
set_option maxRecDepth 100000
set_option maxHeartbeats 4000000
/-! Dq: pools: made at the beginning of a law's turn, drawn from by take; the law's end. -/
namespace Dv
open PySem L2
/-! ### a pool more -/
def Cfg.ownP (c : Cfg) (p : Addr) (hp : ¬ c.F p) : Cfg where
  K := c.K
  F := fun b => c.F b ∨ b = p
  W := fun b => c.W b ∨ b = p
  G := fun b => c.G b ∨ b = p
  ow := c.ow
  I := fun H => c.I (rem H p) ∧ ∃ l, H p = some (.lst l) ∧ PoolL l
  pl := fun b => c.pl b ∨ b = p
  mono := fun {H H'} k h => ⟨c.mono (fun b u e => by
    obtain ⟨n, e⟩ := rem_sub e
    rw [rem_ne n]
    exact k b u e) h.1, let ⟨l, e, r⟩ := h.2; ⟨l, k p _ e, r⟩⟩
  live := fun {H b} h z => by
    rcases z with z | z
    · intro y
      refine c.live h.1 z ?_
      by_cases e : b = p
      · rw [e, rem_same]
      · rw [rem_ne e]
        exact y
    · obtain ⟨l, e, _⟩ := h.2
      rw [z, e]
      exact fun y => nomatch y
  WF := fun z => z.elim (fun z => .inl (c.WF z)) .inr
  GW := fun z => z.elim (fun z => .inl (c.GW z)) .inr
  plG := fun z => z.elim (fun z => .inl (c.plG z)) .inr
  owW := fun w => ⟨.inl (c.owW w).1, fun z => z.elim (c.owW w).2 fun e => hp (by rw [← e]; exact c.WF (c.owW w).1)⟩
  inj := c.inj
  owPut := fun {H k b o} h w so => by
    have n : b ≠ p := fun e => hp (by rw [← e]; exact c.WF (c.owW w).1)
    refine ⟨?_, ?_⟩
    · rw [rem_upd_ne n]
      exact c.owPut h.1 w so
    · rw [upd_ne (Ne.symm n)]
      exact h.2
  tb := c.tb
  tabs := fun h => (c.tabs h.1).ext fun _ _ e => (rem_sub e).2
  ext := fun {H H1} h e t => by
    obtain ⟨l, y, pq⟩ := h.2
    have y1 := e p _ y (fun _ z => nomatch z)
    refine ⟨c.ext h.1 (fun b u z n => ?_) (fun p0 hp => ?_), l, y1, pq⟩
    · obtain ⟨z1, z2⟩ := rem_sub z
      rw [rem_ne z1]
      exact e b u z2 n
    · obtain ⟨ps, t1, t2, t3⟩ := t p0 hp
      have n1 : p0.1 ≠ p := fun q => by
        rw [q, y1] at t1
        cases t1
      refine ⟨ps, by rw [rem_ne n1]; exact t1, t2, fun pos cv hc => ?_⟩
      obtain ⟨c1, e1, e2⟩ := t3 pos cv hc
      refine ⟨c1, e1, ?_⟩
      rw [rem_ne (fun q => ?_)]
      · exact e2
      · rw [q, y1] at e2
        cases e2
  plAt := fun {H q} h z => by
    rcases z with z | z
    · obtain ⟨l, e, r⟩ := c.plAt h.1 z
      exact ⟨l, (rem_sub e).2, r⟩
    · rw [z]
      exact h.2
  plPut := fun {H q l} h z r => by
    rcases z with z | z
    · have n : q ≠ p := fun e => hp (by rw [← e]; exact c.plF z)
      refine ⟨?_, ?_⟩
      · rw [rem_upd_ne n]
        exact c.plPut h.1 z r
      · rw [upd_ne (Ne.symm n)]
        exact h.2
    · subst z
      refine ⟨?_, l, upd_same, r⟩
      rw [rem_upd]
      exact h.1
theorem Rp.ownP {c : Cfg} {H : Hp} {v : V} {d : D} {p : Addr} {hp : ¬ c.F p} (n : H p = none) (h : Rp c H v d) : Rp (c.ownP p hp) H v d := by
  have no : ∀ {b : Addr} {u : HO}, Rd H b u → b ≠ p := fun {b u} z e => by
    subst e
    rcases z with z | ⟨_, z⟩ <;> (rw [n] at z; cases z)
  refine Rp.rec (motive_1 := fun v d _ => Rp (c.ownP p hp) H v d) (motive_2 := fun vs ds _ => RpAll (c.ownP p hp) H vs ds) (motive_3 := fun vs ds _ => RpFs (c.ownP p hp) H vs ds) (motive_4 := fun vs ds _ => RpKv (c.ownP p hp) H vs ds)
    .non .bl .int .str ?_ ?_ ?_ ?_ ?_ ?_ .nil ?_ .nil ?_ .nil ?_ h
  · intro b xs ds m s _ r
    exact .lst (fun z => z.elim m fun e => no (.inl s) e) s r
  · intro b xs ds s _ r
    exact .scr (s.elim (fun z => .inl ⟨fun y => y.elim z.1 (no z.2), z.2⟩) .inr) r
  · intro b xs ds s _ r
    exact .tup (s.elim (fun z => .inl ⟨fun y => y.elim z.1 (no z.2), z.2⟩) .inr) r
  · intro b C dx fs ds m s _ r
    exact .obj (fun z => z.elim m fun e => no (.inl s) e) s r
  · intro b kvs ds m s _ r
    exact .dic (fun z => z.elim m fun e => no (.inl s) e) s r
  · intro b C oe d vs ds m s e x _ r
    exact .exn (fun z => z.elim m fun e => no (.inl s) e) s e (x.in_ fun dx u m2 s2 => ⟨fun z => z.elim m2 fun e => no (.inl s2) e, s2⟩) r
  · intro v d vs ds _ _ a b
    exact .cons a b
  · intro n v d vs ds _ _ a b
    exact .cons a b
  · intro n v d vs ds _ _ a b
    exact .cons a b
theorem RpFs.ownP {c : Cfg} {H : Hp} {a : Addr} {ha : ¬ c.F a} (n : H a = none) : ∀ {vs : List (Str × V)} {ds : List (Str × D)}, RpFs c H vs ds → RpFs (c.ownP a ha) H vs ds
  | _, _, .nil => .nil
  | _, _, .cons r t => .cons (r.ownP n) (RpFs.ownP n t)
theorem RpAll.ownP {c : Cfg} {H : Hp} {a : Addr} {ha : ¬ c.F a} (n : H a = none) : ∀ {vs : List V} {ds : List D}, RpAll c H vs ds → RpAll (c.ownP a ha) H vs ds
  | _, _, .nil => .nil
  | _, _, .cons r t => .cons (r.ownP n) (RpAll.ownP n t)
theorem RpKv.ownP {c : Cfg} {H : Hp} {a : Addr} {ha : ¬ c.F a} (n : H a = none) : ∀ {vs : List (Key × V)} {ds : List (Key × D)}, RpKv c H vs ds → RpKv (c.ownP a ha) H vs ds
  | _, _, .nil => .nil
  | _, _, .cons r t => .cons (r.ownP n) (RpKv.ownP n t)
theorem OwRp.ownP {c : Cfg} {H : Hp} {a b : Addr} {ha : ¬ c.F a} {d : D} (n : H a = none) (h : OwRp c H b d) : OwRp (c.ownP a ha) H b d := by
  cases d <;> try exact h
  · obtain ⟨xs, e, r⟩ := h
    exact ⟨xs, e, r.ownP n⟩
  · obtain ⟨dx, vs, e, r⟩ := h
    exact ⟨dx, vs, e, r.ownP n⟩
  · obtain ⟨vs, e, r⟩ := h
    exact ⟨vs, e, r.ownP n⟩
theorem SlOk.ownP {c : Cfg} {H : Hp} {a : Addr} {ha : ¬ c.F a} {u : Option V} {s : Sl} (n : H a = none) (h : SlOk c H u s) : SlOk (c.ownP a ha) H u s := by
  cases s with
  | any => trivial
  | v x => exact h
  | d x =>
    obtain ⟨v, e, r⟩ := h
    exact ⟨v, e, r.ownP n⟩
  | pool =>
    obtain ⟨p, e, r⟩ := h
    exact ⟨p, e, .inl r⟩
  | ex b cls dd p =>
    refine ⟨h.1, ?_⟩
    have x := h.2
    cases dd <;> cases p <;> first | exact x | skip
    obtain ⟨vs, m, e, r⟩ := x
    refine ⟨vs, fun z => z.elim m fun y => ?_, e, r.ownP n⟩
    rw [y, n] at e
    cases e
  | own k x =>
    obtain ⟨b, e, w, r⟩ := h
    exact ⟨b, e, w, r.ownP n⟩
  | tab T => exact h
/-- without pools -/
def unp1 : Sl → Sl
  | .pool => .any
  | s => s
def unp (Γ : Gm) : Gm := Γ.map unp1
theorem SlOk.unp {c : Cfg} {H : Hp} {a : Addr} {ha : ¬ c.F a} {u : Option V} {s : Sl} (h : SlOk (c.ownP a ha) H u s) : SlOk c H u (unp1 s) := by
  cases s with
  | any => trivial
  | v x => exact h
  | d x =>
    obtain ⟨v, e, r⟩ := h
    exact ⟨v, e, Rp.to (c := c.ownP a ha) (c' := c) rfl (fun _ z => Or.inl z) Kp.self r⟩
  | pool => trivial
  | ex b cls dd p => exact ⟨h.1, XOk.to (c := c.ownP a ha) (c' := c) rfl (fun _ z => Or.inl z) Kp.self h.2⟩
  | own k x =>
    obtain ⟨b, e, w, r⟩ := h
    exact ⟨b, e, w, OwRp.to (c := c.ownP a ha) (c' := c) rfl (fun _ z => Or.inl z) Kp.self (fun _ _ e => e) r⟩
  | tab T => exact h
theorem ownP_I {c : Cfg} {H : Hp} {a : Addr} {ha : ¬ c.F a} (h : (c.ownP a ha).I H) : c.I H := c.mono (fun _ _ e => (rem_sub e).2) h.1
theorem StOk.unp {c : Cfg} {H : Hp} {a : Addr} {ha : ¬ c.F a} {σ : St} {Γ : Gm} (h : StOk (c.ownP a ha) σ H Γ) : StOk c σ H (unp Γ) := by
  refine ⟨ownP_I h.inv, by rw [Dv.unp, List.length_map]; exact h.len, fun i o s e1 e2 => ?_⟩
  rw [Dv.unp, List.getElem?_map, Option.map_eq_some_iff] at e2
  obtain ⟨s0, e3, rfl⟩ := e2
  exact (h.at_ i o s0 e1 e3).unp
def intD (ns : List Int) : List D := ns.map D.int
/-- the promise of the maker of pools: a new list -/
def spPool (K : PySem.W.Frag) : Sp := fun vs H Q _ => ∃ (c : Cfg) (a : Addr) (ns : List Int) (j : Int), c.K = K ∧ c.I H ∧ vs = [.ref a, .int j] ∧ SqL K H a (ns.map V.int) ∧ ns.length ≤ 63 ∧ 0 ≤ j ∧ j < 100 ∧
  ∀ (p : Addr) (x y : Int), H p = none → 0 ≤ y → y < 4294967296 → Q (.ref p) (upd H p (.lst [.int x, .int y]))
def dPool (i : Nat) (da : DA) (dr : DS) : DS := fun D Γ => da Γ fun ss => match ss with
  | [.d (.scr xs), .d (.int j)] => (∃ ns : List Int, xs = intD ns ∧ ns.length ≤ 63) ∧ 0 ≤ j ∧ j < 100 ∧ dr { nx := fun Γ => D.nx (unp Γ), rt := fun s => D.rt (unp1 s), bk := fun Γ => D.bk (unp Γ), ct := fun Γ => D.ct (unp Γ), ro := D.ro } (Γ.set i .pool)
  | _ => False
theorem rp_ints {c : Cfg} {H : Hp} : ∀ {vs : List V} {ns : List Int}, RpAll c H vs (intD ns) → vs = ns.map V.int
  | [], [], _ => rfl
  | _ :: _, [], h => by cases h
  | [], _ :: _, h => by cases h
  | v :: vs, n :: ns, h => by
    cases h with
    | cons a b => rw [rp_int a, rp_ints b]; rfl
theorem ints_rp {c : Cfg} {H : Hp} : ∀ (ns : List Int), RpAll c H (ns.map V.int) (intD ns)
  | [] => .nil
  | n :: ns => .cons (.int n) (ints_rp ns)
section
variable {X : Cx} {W : WX} {K : PySem.W.Frag}
theorem pdss_pool {f : Addr} {fd : FuncData} {ps : List Str} {k i : Nat} {x fx : Str} {p px pos spos : Pos} {e1 e2 : Expr} {ta : TA} {da : DA} {rest : List Stmt} {tr : TS} {dr : DS} (F : FnOk X.prog X.w X.K X.mg X.base (L2.CX X.prog X.w) k f fd ps (spPool X.K)) (hr : Room k X.A) (hm : X.mg fx = some (.ref f)) (hk : PySem.W.keepIn X.K (.ref f) = true) (hb : Binds X.K fd ps []) (hN : X.N.Nodup)
    (a : PDA X W xw0 [e1, e2] ta da) (r : PDSs X W xw0 rest tr dr) (hg : Gl X fx := by rfl) (hi : X.N[i]? = some x := by rfl) (hx : Loc X.env.scope x := by first | exact Or.inl rfl | exact Or.inr rfl)
    (hdb : (fx == ("__debug__" : Str)) = false := by decide) (he : starEach (e1 :: [e2]) X.env = (false, eval e1 X.env) :: starEach [e2] X.env := by rfl) (hpl : (backTo pos (starEach [e2] X.env)).any (·.1) = false := by rfl)
    (hs : swapsWith (.Call (.Name fx p) [e1, e2] [] pos) (some (.Name x px)) spos.line X.env = pure false := by rfl) (hf : X.fn x = true ∨ X.env.scope.names.lookup x = some .local := by first | exact .inl rfl | exact .inr rfl | assumption) :
    PDSs X W xw0 (.Assign [.Name x px] (.Call (.Name fx p) [e1, e2] [] pos) spos :: rest) (tSeq (tAsg (tCall (spPool X.K) [] E0 ta) (gName i)) tr) (dPool i da dr) :=
  ⟨fun tk => pss_cons (ps_set hN hi hx (pe_call F hr hg hm hk hb .nil passL (a.pa tk) hdb he hpl) hs hf) (r.ps tk), fun c eK hW E D o Γ σ H s hd => a.li c eK hW Γ _ hd σ H s _ fun vs ss H1 g rr h => by
    try dsimp only at h
    split at h
    · obtain ⟨⟨ns, e, hl⟩, h0, h1, hd⟩ := h
      subst e
      obtain ⟨v, w, rfl, ⟨v', ev, rv⟩, rw⟩ := paired2 rr
      cases ev
      have e2 := sl_int rw
      subst e2
      cases rv with
      | scr il ra =>
        have ee := rp_ints ra
        subst ee
        refine ⟨c, _, ns, _, eK, g.inv, rfl, by rw [← eK]; exact il.sq, hl, h0, h1, fun q x y nq y0 y1 => ?_⟩
        have nP : ¬ c.F q := c.fresh g.inv nq
        have sg := s.go g
        have s1 : StOk (c.ownP q nP) σ (upd H1 q (.lst [.int x, .int y])) Γ := by
          refine ⟨⟨by rw [rem_upd, rem_new nq]; exact g.inv, _, upd_same, ⟨x, y, rfl, y0, y1⟩⟩, s.len, fun i o' s' q1 q2 => ?_⟩
          exact ((sg.at_ i o' s' q1 q2).ownP (ha := nP) nq).go (Kp.new nq)
        refine r.li (c.ownP q nP) eK WOk.zero E { nx := fun Γ => D.nx (unp Γ), rt := fun s => D.rt (unp1 s), bk := fun Γ => D.bk (unp Γ), ct := fun Γ => D.ct (unp Γ), ro := D.ro } ⟨?_, ?_, ?_, ?_, ?_⟩ _ _ _ (s1.set (s := .pool) ⟨q, rfl, .inr rfl⟩) hd
        · exact fun Γ σ H s z => o.nx _ σ H s.unp z
        · exact fun v s H i r z => o.rt v _ H (ownP_I i) r.unp z
        · exact fun Γ σ H s z => o.bk _ σ H s.unp z
        · exact fun Γ σ H s z => o.ct _ σ H s.unp z
        · exact fun v x H i r z => o.ro v x H (ownP_I i) (Rp.to (c := (c.ownP q nP).rel) (c' := c.rel) rfl (fun b y => ⟨.inl y.1, fun w => w.elim (fun w => .inl (y.2 w)) .inr⟩) Kp.self r) z
    · exact h.elim⟩
end
/-! ### what take tells -/
def cTake : Ctr where
  n := 2
  f := fun ss k _ => match ss with
    | [.pool, .d (.int m)] => 0 < m ∧ m.natAbs.log2 < 9000 ∧ ∀ r : Int, 0 ≤ r → r < m → k (.d (.int r))
    | _ => False
  mono := fun {ss k k' x x'} hk _ h => by
    split at h
    · exact ⟨h.1, h.2.1, fun r h0 h1 => hk _ (h.2.2 r h0 h1)⟩
    · exact h.elim
/-! ### the law's end -/
def cLaw : Ctr where
  n := 1
  f := fun ss k _ => match ss with
    | [.d (.scr xs)] => (∃ ns : List Int, xs = intD ns ∧ ns.length ≤ 63) ∧ k (.d (.bl true))
    | _ => False
  mono := fun {ss k k' x x'} hk _ h => by
    split at h
    · exact ⟨h.1, hk _ h.2⟩
    · exact h.elim
def cBase (K : PySem.W.Frag) : Cfg where
  K := K
  F := fun _ => False
  W := fun _ => False
  G := fun _ => False
  I := fun _ => True
  pl := fun _ => False
  ow := fun _ => none
  mono := fun _ h => h
  live := fun _ z => z.elim
  WF := fun z => z
  GW := fun z => z
  plG := fun z => z
  owW := fun z => nomatch z
  inj := fun z => nomatch z
  plAt := fun _ z => z.elim
  plPut := fun _ z => z.elim
  owPut := fun _ z => nomatch z
  tb := []
  tabs := fun _ p hp => by cases hp
  ext := fun h _ _ => h
theorem law_sp {K : PySem.W.Frag} {H : Hp} {a : Addr} {ns : List Int} (hl : ns.length ≤ 63) (h : SqL K H a (ns.map V.int)) : cLaw.sp K [.ref a] H (fun v _ => v = .bl true) fun _ _ _ => False := by
  refine ⟨cBase K, [.d (.scr (intD ns))], rfl, trivial, .cons ⟨_, rfl, .scr ?_ (ints_rp ns)⟩ .nil, rfl, ⟨ns, rfl, hl⟩, fun v H' _ r => sl_bl r⟩
  rcases h with h | h
  · exact .inl ⟨fun z => z, h⟩
  · exact .inr h
theorem law_cx {P : Program} {w : World} {l : List Env} {H : Hp} {s : Shared} {e : Value} {s' : Shared} (h : L2.CX P w l H s (fun _ _ _ => False) e s') : False := by
  obtain ⟨_, _, _, _, _, _, _, _, _, _, _, _, z⟩ := h
  exact z
end Dv
namespace Dv
open PySem L2
/-! ### what the top has written -/
structure FnAt (K : PySem.W.Frag) (mg : Str → Option Value) (x qual : Str) (st : Stmt) (ps : List Str) (f : Addr) (fd : FuncData) : Prop where
  F : Fun K x qual st f fd
  m : mg x = some (.ref f)
  b : Binds K fd ps []
theorem kit_sub {K : PySem.W.Frag} {C : Addr} {T : String} {b : Bool} (h : PySem.W.subIn K (.ref C) (.type T) = some b) (hT : PySem.W.kitMeta T = true) : PySem.W.kitOne K (.ref C) (.type T) = some b := by
  show (if (Value.ref C == Value.type T) = true then some true else if PySem.W.kitMeta T = true then PySem.W.subIn K (.ref C) (.type T) else none) = some b
  rw [if_neg (show ¬ ((Value.ref C == Value.type T) = true) from Bool.false_ne_true), if_pos hT]
  exact h
theorem kit_ve {K : PySem.W.Frag} {mg : Str → Option Value} {nm : Str} {C D fI : Addr} (U : PySem.RoomX.RoomCls K mg nm C D fI) : PySem.W.kitOne K (.ref C) (.type "ValueError") = some true := kit_sub U.veC (by decide +kernel)
theorem exm_self {K : PySem.W.Frag} {mg : Str → Option Value} {nm : Str} {C D fI : Addr} (U : PySem.RoomX.RoomCls K mg nm C D fI) : PySem.W.exmOne K (.ref C) (.ref C) = some true := PySem.W.exm_ref U.exC U.hdC U.tyC U.scC
theorem exm_other {K : PySem.W.Frag} {mg : Str → Option Value} {nm : Str} {A C D fI : Addr} {b : Bool} (U : PySem.RoomX.RoomCls K mg nm C D fI) (h : PySem.W.subIn K (.ref A) (.ref C) = some b) : PySem.W.exmOne K (.ref A) (.ref C) = some b := PySem.W.exm_ref U.exC U.hdC U.tyC h
/-! ### helps -/
theorem len_ok {n : Nat} (h : Nat.ble n 100000 = true) : n ≤ 100000 := Nat.le_of_ble_eq_true h
theorem forD_inv {g : DG} {b : DS} {E : DEnds} (Inv : Gm → Prop) (hd : ∀ Γ, Inv Γ → E.nx Γ) : ∀ (xs : List D), (∀ x ∈ xs, ∀ Γ, Inv Γ → ∀ N : Gm → Prop, (∀ Γ', Inv Γ' → N Γ') → g x Γ fun Γ' => b { E with nx := N, ct := N, bk := E.nx } Γ') → ∀ Γ, Inv Γ → forD g b E xs Γ
  | [], _, Γ, h => hd Γ h
  | x :: r, hs, Γ, h => hs x List.mem_cons_self Γ h _ fun Γ' h' => forD_inv Inv hd r (fun y hy => hs y (List.mem_cons_of_mem _ hy)) Γ' h'
theorem deq_self {d : D} (h : okD d = true) : deq d d = true := SeqAt.eqv_refl (toPy d) (SeqAt.canLay_of_shaped h)
theorem deq_int (i j : Int) : deq (.int i) (.int j) = decide (i = j) := by
  show PyData.eqv (.int i) (.int j) = _
  rw [PyData.eqv]
  by_cases h : i = j <;> simp [h]
theorem intsFrom_mem {x : D} : ∀ {lo : Int} {n : Nat}, x ∈ intsFrom lo n → ∃ i : Int, x = .int i ∧ lo ≤ i ∧ i < lo + n
  | _, 0, h => by cases h
  | lo, n + 1, h => by
    rw [intsFrom] at h
    rcases List.mem_cons.mp h with rfl | h
    · exact ⟨lo, rfl, by omega, by omega⟩
    · obtain ⟨i, e, h1, h2⟩ := intsFrom_mem h
      exact ⟨i, e, by omega, by omega⟩
theorem mulW_of {i j : Int} {a b : Nat} (hi : i.natAbs < 2 ^ a) (hj : j.natAbs < 2 ^ b) (ha : 0 < a) (hb : 0 < b) (h : a + b ≤ 1000000) : CMulW i j := wide_mul hi hj ha hb h
end Dv
set_option Elab.async false
set_option linter.all false
set_option maxRecDepth 100000
set_option maxHeartbeats 4000000
/-! ObjX: own instances: made, called, combined, where what is raised is wished for at the caller's slots. -/
namespace L2
open PySem PySem.Spec PyProof.Rows
section
variable {X : Cx} {CX : CXT} {k : Nat} {f g C p0 : Addr} {fd : FuncData} {ps : List Str} {sp : Sp} {dvs : List V} {ds : List Value} {E : St → XK} {x m : Str} {p pos apos : Pos} {e o fe : Expr} {es : List Expr} {t : TA} {ta tf : TE}
variable {pins : List (Addr × Obj)} {σ : St} {H : Hp} {s : Shared} {Q : VK} {us : List Value} {vs : List V}
theorem run_rawS (F : FnR X.prog X.w X.K X.mg X.base CX k g sp) (hr : Room k X.A) (hx : PassesAt CX X σ (E σ)) (I : Inv X pins σ H s) (r : Vals vs us) (h : sp vs H Q (E σ)) :
    codeAny (model X.prog X.w) X.A (.call (.ref g) ⟨us, []⟩) (fun r s' => match r with | .ok (.ret v) => EP X pins σ Q v s' | .ok _ => False | .error e => X.xe e s') s := by
  refine codeAny_mono (F X.A X.stack s H us vs Q (E σ) hr I.env0 r h) fun r s' hq => ?_
  cases r with
  | error e => exact hx pins H s e s' I hq
  | ok fl =>
    cases fl with
    | ret u => exact I.after hq
    | next => exact False.elim hq
    | brk => exact False.elim hq
    | cont => exact False.elim hq
/-! ### C(..) -/
def tMakeS (C : Addr) (sp : Sp) (dvs : List V) (E : St → XK) (t : TA) : TE := fun σ H Q => t σ H fun vs H1 => ∀ x dx, H1 x = none → H1 dx = none → dx ≠ x →
  sp (.ref x :: (vs ++ dvs)) (upd (upd H1 dx (.own x)) x (.ins C dx [])) (fun v H2 => v = .non ∧ Q (.ref x) H2) (E σ)
theorem run_makeS (M : Mk X.K C f) (F : FnOk X.prog X.w X.K X.mg X.base CX k f fd ps sp) (hr : Room (k + 1) X.A) (hb : Binds X.K fd ps ds) (hd : Vals dvs ds) (hx : PassesAt CX X σ (E σ)) (I : Inv X pins σ H s) (r : Vals vs us)
    (h : ∀ x dx, H x = none → H dx = none → dx ≠ x → sp (.ref x :: (vs ++ dvs)) (upd (upd H dx (.own x)) x (.ins C dx [])) (fun v H2 => v = .non ∧ Q (.ref x) H2) (E σ)) :
    wpAny (model X.prog X.w) X.A (call (.ref C) us) (EP X pins σ Q) X.xe s := by
  have hq := h (s.heap.objs.size + 1) s.heap.objs.size (I.hok.fresh (Nat.le_succ _)) (I.hok.fresh (Nat.le_refl _)) (Nat.ne_of_lt (Nat.lt_succ_self _))
  have I2 := Inv.made (C := C) I
  have r2 : Vals (V.ref (s.heap.objs.size + 1) :: (vs ++ dvs)) (Value.ref (s.heap.objs.size + 1) :: (us ++ ds)) := .cons rfl (r.append hd)
  have hl : (Value.ref (s.heap.objs.size + 1) :: us ++ ds).length = ps.length := by
    have e := r2.length
    rw [F.len _ _ _ _ hq] at e
    exact e.symm
  refine wpAny_call (make_map (f := f) I.kIn M.makes M.init (beq_iff_eq.mp M.fn) (codeAny_mono (F.run _ X.stack _ _ ⟨Value.ref (s.heap.objs.size + 1) :: us, []⟩ (Value.ref (s.heap.objs.size + 1) :: (us ++ ds)) _ _ (E σ) (hr.make C us [])
    (I2.env0.make C us []) (hb _ (Value.ref (s.heap.objs.size + 1) :: us) I2.kIn hl) r2 hq) fun r s' hq' => ?_))
  cases r with
  | error e => exact hx pins _ _ e s' I2 hq'
  | ok fl =>
    cases fl with
    | ret u =>
      obtain ⟨v, H', I3, rv, ev, q3⟩ := I2.after hq'
      subst ev
      exact ⟨rv, ⟨V.ref (s.heap.objs.size + 1), H', I3, rfl, q3⟩⟩
    | next => exact False.elim hq'
    | brk => exact False.elim hq'
    | cont => exact False.elim hq'
theorem pe_makeS (M : Mk X.K C f) (F : FnOk X.prog X.w X.K X.mg X.base CX k f fd ps sp) (hr : Room (k + 1) X.A) (hg : Gl X x) (hm : X.mg x = some (.ref C)) (hb : Binds X.K fd ps ds) (hd : Vals dvs ds) (hx : ∀ σ, PassesAt CX X σ (E σ))
    (ha : PA X (e :: es) t) (hdb : (x == ("__debug__" : Str)) = false := by decide) (he : starEach (e :: es) X.env = (false, eval e X.env) :: starEach es X.env := by rfl) (hpl : (backTo pos (starEach es X.env)).any (·.1) = false := by rfl) :
    PE X (.Call (.Name x p) (e :: es) [] pos) (tMakeS C sp dvs E t) := by
  refine ⟨fun pins s σ H Q I h => ?_⟩
  refine wpAny_Call_Name_kw (ld_glob I hg hm ?_ hdb)
  refine PySem.W.callWith_K (h₀ := X.base) I.ok.mod.kin M.kp (thn (ha.run pos pins s σ H _ I h) fun us s1 ⟨vs, H1, I1, r, q⟩ => ⟨I1.kIn, ?_⟩) he hpl
  exact run_makeS M F hr hb hd (hx σ) I1 r q
/-! ### C.m(..), m a staticmethod -/
structure SMet (K : PySem.W.Frag) (C : Addr) (mc : Value) (m : Str) (p g : Addr) : Prop where
  rd : PySem.W.readsIn K C mc = true
  ga : PySem.W.specialIn K (.ref C) "__getattribute__" = some (some (.builtin "type.__getattribute__"))
  at_ : PySem.W.findCls K (.ref C) mc m = some (.get (.builtin "staticmethod.__get__") (.ref p) .none (.ref C))
  rc : ∃ rest, PySem.W.recIn K p "staticmethod" = some (.ref g :: rest)
  kp : PySem.W.keepIn K (.ref g) = true
def tSMeth (C : Addr) (sp : Sp) (E : St → XK) (ta : TE) (t : TA) : TE := fun σ H Q => ta σ H fun x H1 => x = .ref C ∧ t σ H1 fun vs H2 => sp vs H2 Q (E σ)
theorem pe_smeth {mc : Value} {pl : Sem Bool} (he : PE X o ta) (c : SMet X.K C mc m p0 g) (F : FnR X.prog X.w X.K X.mg X.base CX k g sp) (hr : Room k X.A) (hx : ∀ σ, PassesAt CX X σ (E σ)) (ha : PA X (e :: es) t)
    (hst : starEach (e :: es) X.env = (false, eval e X.env) :: starEach es X.env := by rfl) (hpl : (backTo pos (starEach es X.env)).any (·.1) = false := by rfl)
    (ht : eval (.Call (.Attribute o m apos) (e :: es) [] pos) X.env = (do
      let ov ← eval o X.env
      standAt apos.atName
      let (f, first) ← holding [ov] (getMethod ov m pl)
      callWith pos f first (backTo pos (starEach (e :: es) X.env)) (backToKw pos (keywordEach [] X.env))) := by rfl) :
    PE X (.Call (.Attribute o m apos) (e :: es) [] pos) (tSMeth C sp E ta t) := by
  refine ⟨fun pins s σ H Q I h => ?_⟩
  refine PySem.W.methodCall_KW (pl := pl) (thn (he.run pins s σ H _ I h) fun u s1 ⟨x, H1, I1, rx, ex, q⟩ => ?_) ht
  subst ex
  obtain rfl : u = Value.ref C := rx
  obtain ⟨rest, hp⟩ := c.rc
  refine PySem.W.method_cls I1.kIn c.ga (PySem.W.cls_bind I1.kIn c.rd c.at_ (wpAny_call (PySem.W.sm_get (s := { s1 with toks := s1.toks + 1 }) I1.kIn hp (PySem.W.handed_on rfl ?_))))
  have I2 : Inv X pins σ H1 { s1 with toks := s1.toks + 1 } := I1.tok _
  refine PySem.W.callWith_K (h₀ := X.base) I2.ok.mod.kin c.kp (thn (ha.run pos pins _ σ H1 _ I2 q) fun us s3 ⟨vs, H2, I3, r, q2⟩ => ⟨I3.kIn, ?_⟩) hst hpl
  exact wpAny_call (run_rawS F hr (hx σ) I3 r q2)
/-! ### o.m(..) -/
def tMethS2 (C : Addr) (m : Str) (sp : Sp) (E : St → XK) (ta : TE) (t : TA) : TE := fun σ H Q => ta σ H fun x H1 => ∃ a dx fs, x = .ref a ∧ H1 a = some (.ins C dx fs) ∧ fs.lookup m = none ∧ t σ H1 fun vs H2 => sp (x :: vs) H2 Q (E σ)
/-! ### o(..) -/
def tCallOS (C : Addr) (sp : Sp) (E : St → XK) (tf : TE) (t : TA) : TE := fun σ H Q => tf σ H fun y H1 => ∃ a, y = V.ref a ∧ t σ H1 fun vs H2 => (∃ dx fs, H2 a = some (.ins C dx fs)) ∧ sp (V.ref a :: vs) H2 Q (E σ)
theorem pe_callOS (hf : PE X fe tf) (c : StX.CallO X.K C g) (F : FnR X.prog X.w X.K X.mg X.base CX k g sp) (hr : Room k X.A) (hx : ∀ σ, PassesAt CX X σ (E σ)) (ha : PA X (e :: es) t)
    (ht : eval (.Call fe (e :: es) [] pos) X.env = (do callWith pos (← eval fe X.env) [] (backTo pos (starEach (e :: es) X.env)) (backToKw pos (keywordEach [] X.env))) := by rfl)
    (he : starEach (e :: es) X.env = (false, eval e X.env) :: starEach es X.env := by rfl) (hpl : (backTo pos (starEach es X.env)).any (·.1) = false := by rfl) : PE X (.Call fe (e :: es) [] pos) (tCallOS C sp E tf t) := by
  refine ⟨fun pins s σ H Q I h => ?_⟩
  refine Call_ (thn (hf.run pins s σ H _ I h) fun u s1 ⟨y, H1, I1, ry, a, ey, q⟩ => ?_) ht
  subst ey
  obtain rfl : u = Value.ref a := ry
  refine StX.callO_with (thn (ha.run pos pins s1 σ H1 _ I1 q) fun us s2 ⟨vs, H2, I2, r, hi, q2⟩ => ?_) he hpl
  obtain ⟨ox, od, J, hd⟩ := StX.insC_at I2 (.inr hi)
  refine ⟨⟨C, ox, od, J, hd⟩, ?_⟩
  exact wpAny_call (PySem.W.kco_code I2.kIn J hd c.at_ c.fn c.fi (run_rawS (us := .ref a :: us) (vs := .ref a :: vs) F hr (hx σ) I2 (.cons rfl r) q2))
/-! ### operators -/
/-- as OpR, with the slots -/
def OpRS (X : Cx) (f : Value → Value → Sem Value) (r : St → R2) : Prop :=
  ∀ (pins : List (Addr × Obj)) (s : Shared) (σ : St) (H : Hp) (x y : V) (v u : Value) (Q : VK), Inv X pins σ H s → RelV x v → RelV y u → r σ x y H Q →
    wpAny (model X.prog X.w) X.A (f v u) (EP X pins σ Q) X.xe s
def tOpS (r : St → R2) (ta tb : TE) : TE := fun σ H Q => ta σ H fun x H1 => tb σ H1 fun y H2 => r σ x y H2 Q
theorem pe_opS {a b : Expr} {ta tb : TE} {op : Operator} {r : St → R2} (ho : OpRS X (binaryOp op) r) (ha : PE X a ta) (hb : PE X b tb) : PE X (.BinOp a op b pos) (tOpS r ta tb) := by
  refine ⟨fun pins s σ H Q I h => ?_⟩
  exact wpAny_BinOp (binT ha hb I h fun v u s2 x y H2 I2 rx ry q => ho pins s2 σ H2 x y v u Q I2 rx ry q)
/-- what K says of an operator of the class at C: the def at g -/
structure OwnOp (K : PySem.W.Frag) (C g : Addr) (op : Operator) : Prop where
  sf : PySem.W.selfFirst K C = true
  at_ : PySem.W.findIn K (.ref C) (PySem.dunder op.info.2) = some (some (.ref g))
  fn : PySem.W.isFn K (.ref g) = true
  rf : PySem.W.findIn K (.ref C) (dunderR op.info.2) = some none
/-- .. beside a value of a built-in class -/
structure OwnOpT (K : PySem.W.Frag) (C : Addr) (op : Operator) (T : String) : Prop where
  h1 : ∃ fo, PySem.W.findIn K (.type T) (PySem.dunder op.info.2) = some fo
  h2 : ∃ ro, PySem.W.findIn K (.type T) (dunderR op.info.2) = some ro
  sub : PySem.W.subIn K (.type T) (.ref C) = some false
/-- a value whose class is T -/
inductive BiT (K : PySem.W.Frag) (H : Hp) : V → String → Prop where
  | non : BiT K H .non "NoneType"
  | bl (b : Bool) : BiT K H (.bl b) "bool"
  | int (i : Int) : BiT K H (.int i) "int"
  | str (x : Str) : BiT K H (.str x) "str"
end
end L2
namespace L2
open PySem PySem.Spec PyProof.Rows PySem.W
section
variable {X : Cx} {CX : CXT} {k : Nat} {g C : Addr} {sp : Sp} {E : St → XK}
variable {pins : List (Addr × Obj)} {σ : St} {H : Hp} {s : Shared}
theorem looks_ty {x : V} {u t : Value} (I : Inv X pins σ H s) (rx : RelV x u) (ty : TyX X.K H x t) : Looks (model X.prog X.w) s.heap (typeOf u) t := by
  obtain ⟨P, Z, z, _⟩ := kit_of I rx ty
  exact Z.ty _ _ I.kIn z
/-- left an own instance, right a value of a built-in class -/
theorem bin_T {prog : Program} {w : World} {A : Around} {E : Value → Shared → Prop} {s : Shared} {K : Frag} {x C f : Addr} {ox : Obj} {od : Option Obj} {T : String} {op : Operator} {b : Value} {fo ro : Option Value} {Q : Value → Shared → Prop} (X : K.In s.heap) (I : InstAt s.heap x ox C od) (hb : Looks (model prog w) s.heap (typeOf b) (.type T)) (hc : selfFirst K C = true)
    (hs : findIn K (.ref C) (PySem.dunder op.info.2) = some (some (.ref f))) (hf : isFn K (.ref f) = true) (hr : findIn K (.ref C) (dunderR op.info.2) = some none)
    (h1 : findIn K (.type T) (PySem.dunder op.info.2) = some fo) (h2 : findIn K (.type T) (dunderR op.info.2) = some ro) (hsub : subIn K (.type T) (.ref C) = some false)
    (h : wpAny (model prog w) A (call (.ref f) [.ref x, b]) (PySem.W.CmpBack Q) E s) : wpAny (model prog w) A (binaryOp op (.ref x) b) Q E s := by
  obtain ⟨cd, rest, hcd, hm⟩ := ksp_first hc
  rcases hi : op.info with ⟨sym, nm⟩
  rw [hi] at hs hr h1 h2
  dsimp only at hs hr h1 h2
  have one := ksp_try X I hs hf h
  obtain ⟨hh, gg, d, tt, os⟩ := s
  have a1 : Looks (model prog w) hh (typeOf (.ref x)) (.ref C) := I.type
  have a2 : Looks (model prog w) hh (typeOf b) (.type T) := hb
  have a3 : Looks (model prog w) hh (fillsNumberSlot (.ref C) nm) true := fills_K X hcd hm hs
  have a4 := ksp_fillsT (M := model prog w) X h1 h2
  have a5 : Looks (model prog w) hh (isSubtype (.type T) (.ref C)) false := looks_subIn X hsub
  have a6 : Looks (model prog w) hh (numberSlotInPython (.ref C) nm) true := ksp_inPy X hs hr (.inl rfl)
  have a7 : Looks (model prog w) hh (numberSlotInPython (.type T) nm) false := Looks.of_pure rfl
  have a8 : Looks (model prog w) hh (typeLookup (.type T) (dunderR nm)) ro := looks_findIn X h2
  generalize ((fo.isSome && !isSeqSlot fo) || (ro.isSome && !isSeqSlot ro)) = right at a4
  have hne : (Value.ref C == Value.type T) = false := Bool.eq_false_iff.mpr fun q => by cases beq_iff_eq.mp q
  simp only [binaryOp, hi]
  refine wpAny_holding (wpAny_bind ?_)
  unfold binaryOp1
  refine wpAny_bind (a1.at (wpAny_bind (a2.at (wpAny_bind (a3.at ?_)))))
  simp only [hne, Bool.false_eq_true, if_false]
  cases right
  all_goals
    ksp_lk
    refine wpAny_mono one (fun r s' z => ?_) fun _ _ e => e
    obtain ⟨v, rfl, hq⟩ := z
    ksp_lk
    exact hq
theorem back_of {P : Value → Shared → Prop} {pins : List (Addr × Obj)} {σ : St} {Q : VK} {v : Value} {s' : Shared} (h : EP X pins σ Q v s') : PySem.W.CmpBack (EP X pins σ Q) v s' := by
  obtain ⟨z, H', I', rz, q⟩ := h
  exact SlX.cmpback rz ⟨z, H', I', rz, q⟩
/-- o + x, o an own instance whose class has the operator; x an instance of the class, or a value of a built-in class -/
def rOwnB (K : Frag) (C : Addr) (op : Operator) (sp : Sp) (E : St → XK) : St → R2 := fun σ x y H Q => ∃ a dx fs, x = .ref a ∧ H a = some (.ins C dx fs) ∧
  ((∃ b dy gs, y = .ref b ∧ H b = some (.ins C dy gs)) ∨ (∃ T, TyX K H y (.type T) ∧ OwnOpT K C op T)) ∧ sp [x, y] H Q (E σ)
theorem op_ownB {op : Operator} (c : OwnOp X.K C g op) (F : FnR X.prog X.w X.K X.mg X.base CX k g sp) (hr : Room k X.A) (hx : ∀ σ, PassesAt CX X σ (E σ)) : OpRS X (binaryOp op) (rOwnB X.K C op sp E) := by
  intro pins s σ H x y v u Q I rx ry h
  obtain ⟨a, dx, fs, rfl, ha, hy, q⟩ := h
  cases (show v = Value.ref a from rx)
  obtain ⟨ox, od, J, _⟩ := StX.insC_at I (.inr ⟨dx, fs, ha⟩)
  obtain ⟨m, hF⟩ := I.fr
  have run : wpAny (model X.prog X.w) X.A (call (.ref g) [.ref a, u]) (PySem.W.CmpBack (EP X pins σ Q)) X.xe s :=
    wpAny_mono (wpAny_call (run_rawS (us := [.ref a, u]) (vs := [.ref a, y]) F hr (hx σ) I (.cons rfl (.cons ry .nil)) q)) (fun w s' z => back_of (P := fun _ _ => True) z) fun _ _ x => x
  rcases hy with ⟨b, dy, gs, rfl, hb⟩ | ⟨T, ty, c2⟩
  · cases (show u = Value.ref b from ry)
    obtain ⟨oy, od', J', _⟩ := StX.insC_at I (.inr ⟨dy, gs, hb⟩)
    exact binop_K hF I.ok.mod.kin J J'.type c.sf c.at_ c.fn run
  · obtain ⟨fo, h1⟩ := c2.h1
    obtain ⟨ro, h2⟩ := c2.h2
    exact bin_T I.kIn J (looks_ty I ry ty) c.sf c.at_ c.fn c.rf h1 h2 c2.sub run
end
end L2
namespace L2
open PySem PySem.Spec PyProof.Rows PySem.W
section
variable {prog : Program} {w : World} {A : Around} {E : Value → Shared → Prop} {s : Shared} {K : Frag} {x C f : Addr} {ox : Obj} {od : Option Obj} {b tb : Value}
/-- a slot of object's, bound -/
theorem ifBound_ne {M : Model} {args : List Value} {Q : Option Value → Shared → Prop} (X : K.In s.heap) (I : InstAt s.heap x ox C od) (hs : findIn K (.ref C) "__ne__" = some (some (.builtin "object.__ne__")))
    (h : wpAny M A (call (.builtin "object.__ne__") (.ref x :: args)) (fun v => Q (some v)) E s) : wpAny M A (callSpecialIfBound? (.ref x) "__ne__" args) Q E s := by
  simp only [callSpecialIfBound?, bindSpecialIfBound?]
  refine wpAny_holding (wpAny_bind (wpAny_bind (wpAny_bind (I.type.here ((looks_findIn X hs).here ?_)))))
  refine wpAny_bind (wpAny_askSetting (wpAny_ite ?_))
  have fin : wpAny M A (call (.builtin "object.__ne__") ([.ref x] ++ args) >>= fun v => pure (some v)) Q E s := wpAny_bind (wpAny_mono h (fun v s' z => wpAny_pure z) fun _ _ z => z)
  split
  · exact wpAny_bind (wpAny_of_eq (F.cmp_object.ne.bind _) (wpAny_pure (by exact fin)))
  · exact wpAny_tryCatch (wpAny_bind (wpAny_of_eq (F.cmp_object.ne.bind _) (wpAny_pure (by exact fin))))
theorem ne_body {Q : Fin → Shared → Prop} (hu : A.units < cLine) (X : K.In s.heap) (I : InstAt s.heap x ox C od) (hs : findIn K (.ref C) "__eq__" = some (some (.ref f))) (hf : isFn K (.ref f) = true)
    (h : wpAny (model prog w) A (call (.ref f) [.ref x, b]) (fun v s' => ∃ c, v = .bool c ∧ Q (.done (.ret (.bool (!c)))) s') E s) : wpAny (model prog w) A (Builtin.«object.__ne__» ⟨[.ref x, b], []⟩) Q E s := by
  unfold Builtin.«object.__ne__»
  refine wpAny_bind (wpAny_of_eq (a := (.ref x, [b])) rfl ?_)
  refine wpAny_bind (wpAny_cRoomFor hu ?_)
  refine wpAny_bind (m := callSpecialIfBound? (.ref x) (Str.ofString "__eq__") [b]) (ifBound_K X I hs hf (wpAny_mono h (fun v s' z => ?_) fun _ _ z => z))
  obtain ⟨c, rfl, q⟩ := z
  exact wpAny_bind (wpAny_truthy_bool (wpAny_pure q))
theorem ne_own {Q : Value → Shared → Prop} (hu : A.units + 1 < cLine) (X : K.In s.heap) (I : InstAt s.heap x ox C od) (hb : Looks (model prog w) s.heap (typeOf b) tb) (hn : notFirst K C tb = true) (hm : mroIn K C (.type "object") = some true)
    (h1 : findIn K (.ref C) "__ne__" = some (some (.builtin "object.__ne__"))) (h2 : findIn K (.ref C) "__eq__" = some (some (.ref f))) (hf : isFn K (.ref f) = true)
    (h : wpAny (model prog w) A.in1 (call (.ref f) [.ref x, b]) (fun v s' => ∃ c, v = .bool c ∧ Q (.bool (!c)) s') E s) : wpAny (model prog w) A (richCompare .NotEq (.ref x) b) Q E s := by
  have one : wpAny (model prog w) A (tryCompare (.ref x) "__ne__" b) (fun r s' => ∃ v, r = some v ∧ Q v s') E s := by
    unfold tryCompare
    refine wpAny_bind (ifBound_ne X I h1 (wpAny_call (codeAny_call_builtin F.cmp_object.ne.plain F.cmpEntry_ne (PySem.W.check_slot F.cmpKind_ne F.cmpSplit_ne (I.type.andThen (looks_mroIn X hm)) (F.cmpArgs_ne _ _)
      (ne_body hu X I h2 hf (wpAny_mono h (fun v s' z => ?_) fun _ _ z => z))))))
    obtain ⟨c, rfl, q⟩ := z
    exact ⟨c, rfl, wpAny_pure ⟨_, rfl, q⟩⟩
  unfold richCompare
  simp only [oneThing_ref, cmpInfo_NotEq]
  refine wpAny_holding (wpAny_bind (wpAny_cRoomFor (Nat.lt_of_succ_lt hu) ?_))
  refine wpAny_bind (I.type.here (wpAny_bind (hb.here ?_)))
  split
  · rename_i q
    have e : subIn K tb (.ref C) = some false := by
      rcases Bool.or_eq_true_iff.mp hn with e | e
      · rw [beq_iff_eq.mp e] at q
        simp at q
      · exact beq_iff_eq.mp e
    refine wpAny_bind ((looks_subIn X e).here ?_)
    simp only [Bool.false_eq_true, if_false]
    refine wpAny_bind (wpAny_mono one (fun r s' z => ?_) fun _ _ e => e)
    obtain ⟨v, rfl, hq⟩ := z
    exact wpAny_pure hq
  · refine wpAny_bind (wpAny_pure ?_)
    simp only [Bool.false_eq_true, if_false]
    refine wpAny_bind (wpAny_mono one (fun r s' z => ?_) fun _ _ e => e)
    obtain ⟨v, rfl, hq⟩ := z
    exact wpAny_pure hq
end
/-- what K says of a class with an own __eq__ -/
structure OwnEqC (K : Frag) (C g : Addr) : Prop where
  eq : findIn K (.ref C) "__eq__" = some (some (.ref g))
  ne : findIn K (.ref C) "__ne__" = some (some (.builtin "object.__ne__"))
  fn : isFn K (.ref g) = true
  ob : mroIn K C (.type "object") = some true
section
variable {X : Cx} {CX : CXT} {k : Nat} {g C : Addr} {sp : Sp} {E : XK}
/-- o == x, o an own instance -/
def rOwnE (K : Frag) (C : Addr) (sp : Sp) (E : XK) (f : Bool → Bool) : R2 := fun x y H Q => ∃ a dx fs t, x = .ref a ∧ H a = some (.ins C dx fs) ∧ ((∃ b dy gs, y = .ref b ∧ H b = some (.ins C dy gs) ∧ t = .ref C) ∨ TyX K H y t) ∧ notFirst K C t = true ∧
  sp [x, y] H (fun v H' => ∃ c, v = .bl c ∧ Q (.bl (f c)) H') E
theorem ty_ins {pins : List (Addr × Obj)} {σ : St} {H : Hp} {s : Shared} {y : V} {u t : Value} (I : Inv X pins σ H s) (ry : RelV y u) (h : (∃ b dy gs, y = .ref b ∧ H b = some (.ins C dy gs) ∧ t = .ref C) ∨ TyX X.K H y t) : Looks (model X.prog X.w) s.heap (typeOf u) t := by
  rcases h with ⟨b, dy, gs, rfl, hb, rfl⟩ | h
  · cases (show u = Value.ref b from ry)
    obtain ⟨oy, od', J', _⟩ := StX.insC_at I (.inr ⟨dy, gs, hb⟩)
    exact J'.type
  · exact looks_ty I ry h
theorem op_ownE (c : OwnEqC X.K C g) (F : FnR X.prog X.w X.K X.mg X.base CX k g sp) (hr : Room k X.A) (hx : Passes CX X E) : OpR X (compareOp .Eq) (rOwnE X.K C sp E fun c => c) := by
  intro pins s σ H x y v u Q I rx ry h
  obtain ⟨a, dx, fs, t, rfl, ha, hy, nf, q⟩ := h
  cases (show v = Value.ref a from rx)
  obtain ⟨ox, od, J, _⟩ := StX.insC_at I (.inr ⟨dx, fs, ha⟩)
  obtain ⟨m, hF⟩ := I.fr
  refine cmp_ofEq (cmp_K (op := .Eq) hr.units0 hF I.ok.mod.kin J (ty_ins I ry hy) nf c.eq c.fn ?_)
  refine wpAny_mono (wpAny_call (run_fnR (us := [.ref a, u]) (vs := [.ref a, y]) F hr hx I (.cons rfl (.cons ry .nil)) q)) (fun w s' z => ?_) fun _ _ x => x
  obtain ⟨z', H', I', rz, cc, rfl, qz⟩ := z
  exact SlX.cmpback rz ⟨_, H', I', rz, qz⟩
theorem op_ownN (c : OwnEqC X.K C g) (F : FnR X.prog X.w X.K X.mg X.base CX k g sp) (hr : Room (k + 1) X.A) (hx : Passes CX X E) : OpR X (compareOp .NotEq) (rOwnE X.K C sp E fun c => !c) := by
  intro pins s σ H x y v u Q I rx ry h
  obtain ⟨a, dx, fs, t, rfl, ha, hy, nf, q⟩ := h
  cases (show v = Value.ref a from rx)
  obtain ⟨ox, od, J, _⟩ := StX.insC_at I (.inr ⟨dx, fs, ha⟩)
  refine cmp_ofNotEq (ne_own (Nat.lt_of_le_of_lt (Nat.add_le_add_left (by decide) _) hr.units) I.kIn J (ty_ins I ry hy) nf c.ob c.ne c.eq c.fn ?_)
  refine wpAny_mono (wpAny_call (SlX.run_at (us := [.ref a, u]) (ws := [.ref a, y]) F hr.in1 I.env0.in1 hx I (.cons rfl (.cons ry .nil)) q)) (fun w s' z => ?_) fun _ _ x => x
  obtain ⟨z', H', I', rz, cc, rfl, qz⟩ := z
  cases (show w = Value.bool cc from rz)
  exact ⟨cc, rfl, ⟨.bl (!cc), H', I', rfl, qz⟩⟩
end
end L2
set_option Elab.async false
set_option linter.all false
set_option maxRecDepth 100000
set_option maxHeartbeats 4000000
/-! Do: own instances as data. -/
namespace Dv
open PySem L2
/-! ### a maker's contract: of the arguments behind self, of the fields in the end, of an error -/
structure CtrI where
  n : Nat
  f : List Sl → (List (Str × D) → Prop) → (Addr → XP → Prop) → Prop
  mono : ∀ {ss : List Sl} {k k' : List (Str × D) → Prop} {x x' : Addr → XP → Prop}, (∀ s, k s → k' s) → (∀ C p, x C p → x' C p) → f ss k x → f ss k' x'
  no : ∀ {ss : List Sl} {k : List (Str × D) → Prop} {x : Addr → XP → Prop}, f ss k x → noOwn ss = true := by (intro ss k x h; (try dsimp only at h); split at h <;> first | rfl | exact h.elim)
def CtrI.sp (C : CtrI) (K : PySem.W.Frag) (Cl : Addr) : Sp := fun vs H Q E => ∃ (c : Cfg) (ss : List Sl) (a dx : Addr) (H0 : Hp) (us : List V), c.K = K ∧ c.I H0 ∧ vs = .ref a :: us ∧ H0 a = none ∧ H0 dx = none ∧ dx ≠ a ∧ H = upd (upd H0 dx (.own a)) a (.ins Cl dx []) ∧
  Paired (fun v s => SlOk c H0 (some v) s) us ss ∧ ss.length = C.n ∧ C.f ss (fun fs => ∀ H', Go c H0 H' → Rp c H' (.ref a) (.obj Cl fs) → Q .non H') (fun A p => ∀ d H', Go c H0 H' → XOk c H' d p → E (.ref A) d H')
theorem noOwn_cons {s : Sl} {r : List Sl} (h : noOwn (s :: r) = true) : (∀ j x, s ≠ .own j x) ∧ noOwn r = true := by
  cases s with
  | own j x => cases h
  | any => exact ⟨fun _ _ z => (nomatch z), h⟩
  | v x => exact ⟨fun _ _ z => (nomatch z), h⟩
  | d x => exact ⟨fun _ _ z => (nomatch z), h⟩
  | pool => exact ⟨fun _ _ z => (nomatch z), h⟩
  | ex a cls dd p => exact ⟨fun _ _ z => (nomatch z), h⟩
  | tab T => exact ⟨fun _ _ z => (nomatch z), h⟩
theorem clr_noOwn {k : Nat} : ∀ {Γ : Gm}, noOwn Γ = true → clr k Γ = Γ
  | [], _ => rfl
  | s :: r, h => by
    obtain ⟨h1, h2⟩ := noOwn_cons h
    show _ :: clr k r = _
    rw [clr_noOwn h2]
    cases s with
    | own j x => exact (h1 j x rfl).elim
    | any => rfl
    | v x => rfl
    | d x => rfl
    | pool => rfl
    | ex a cls dd p => rfl
    | tab T => rfl
theorem noOwn_append : ∀ {l r : List Sl}, noOwn l = true → noOwn r = true → noOwn (l ++ r) = true
  | [], _, _, h => h
  | s :: l, r, h, h' => by
    obtain ⟨h1, h2⟩ := noOwn_cons h
    have z := noOwn_append h2 h'
    cases s with
    | own j x => exact (h1 j x rfl).elim
    | any => exact z
    | v x => exact z
    | d x => exact z
    | pool => exact z
    | ex a cls dd p => exact z
    | tab T => exact z
theorem noOwn_any : ∀ n : Nat, noOwn (List.replicate n .any) = true
  | 0 => rfl
  | n + 1 => noOwn_any n
theorem slot_at {σ : St} {Γ : Gm} {i : Nat} {s : Sl} (h : σ.length = Γ.length) (e : Γ[i]? = some s) : ∃ o, σ[i]? = some o := by
  cases z : σ[i]? with
  | some o => exact ⟨o, rfl⟩
  | none =>
    rw [List.getElem?_eq_none_iff, h] at z
    rw [List.getElem?_eq_none z] at e
    cases e
/-- where a maker ends: what self holds -/
def iEnd (Cl : Addr) (kk : List (Str × D) → Prop) : Gm → Prop := fun Γ => ∃ fs, Γ[0]? = some (.own 0 (.obj Cl fs)) ∧ kk fs
/-- a def of the text, with what defaults ever -/
structure FunD (K : PySem.W.Frag) (x qual : Str) (st : Stmt) (f : Addr) (fd : FuncData) : Prop where
  ex : ∃ (oc : Value) (od : Option Addr) (dV kV doc pm : Value) (an : Option Addr) (cdv ct : Value) (osl : Array (Option Value)),
    fd = PySem.W.fnOf x qual (defArgs st) (defBody st) (defScope st) dV kV doc pm an cdv ct ∧ K.lookup f = some ⟨oc, od, .func fd, osl⟩ ∧ PySem.W.codeIn K cdv qual = true
  kp : PySem.W.keepIn K (.ref f) = true
theorem FunD.of {K : PySem.W.Frag} {x qual : Str} {st : Stmt} {f : Addr} {fd : FuncData} (F : Fun K x qual st f fd) : FunD K x qual st f fd := by
  obtain ⟨oc, od, kV, doc, pm, an, cdv, ct, osl, h⟩ := F.ex
  exact ⟨⟨oc, od, .none, kV, doc, pm, an, cdv, ct, osl, h⟩, F.kp⟩
section
variable {P : Program} {w : World} {K : PySem.W.Frag} {mg : Str → Option Value} {base : Heap}
theorem FunD.okX {x qual : Str} {st : Stmt} {f : Addr} {fd : FuncData} {N ps : List Str} {k : Nat} {sp : Sp} (F : FunD K x qual st f fd) (S : FnScope N ps (defScope st)) (len : ∀ vs H Q E, sp vs H Q E → vs.length = ps.length)
    (hbody : ∀ (cdv : Value) (A : Around) (outer : List Env) (s : Shared) (H : Hp) (vs : List V) (Q : VK) (E : XK), Room k (A.deeper (PyProof.Rows.envOfC qual (defScope st) s.heap.objs.size f cdv)) → sp vs H Q E →
      ∃ t, PSs (cxOf (L2.CX P w) P w K mg base N qual (defScope st) f cdv A outer s H E) (defBody st) t ∧ t { nx := fun _ H' => Q .non H', rt := Q } (L2.start N vs) H) : FnOk P w K mg base (L2.CX P w) (k + 1) f fd ps sp := by
  obtain ⟨oc, od, dV, kV, doc, pm, an, cdv, ct, osl, e, lk, hcd⟩ := F.ex
  subst e
  exact fn_of lk hcd S len fun A outer s H vs Q E hr hsp => hbody cdv A outer s H vs Q E hr hsp
theorem fn_init {x qual : Str} {st : Stmt} {f Cl : Addr} {fd : FuncData} {N ps : List Str} {k : Nat} (C : CtrI) (F : FunD K x qual st f fd) (S : FnScope N ps (defScope st)) (hn : ps.length = C.n + 1)
    (body : ∀ (cdv : Value) (A : Around) (outer : List Env) (s : Shared) (H : Hp) (E : XK) (xw : XW), Room k (A.deeper (PyProof.Rows.envOfC qual (defScope st) s.heap.objs.size f cdv)) →
      PassesOwn (model P w) (cxOf (L2.CX P w) P w K mg base N qual (defScope st) f cdv A outer s H E).A (cxOf (L2.CX P w) P w K mg base N qual (defScope st) f cdv A outer s H E).env (cxOf (L2.CX P w) P w K mg base N qual (defScope st) f cdv A outer s H E).xe →
      ∃ ts ds, PDSs (cxOf (L2.CX P w) P w K mg base N qual (defScope st) f cdv A outer s H E) (fun cls d _ H => E cls d H) xw (defBody st) ts ds ∧
        ∀ ss kk xx, ss.length = C.n → C.f ss kk xx → (xw = fun A p _ => xx A p) → ds { nx := iEnd Cl kk } (startD N (.own 0 (.obj Cl []) :: ss))) : FnOk P w K mg base (L2.CX P w) (k + 1) f fd ps (C.sp K Cl) := by
  refine F.okX S (fun vs H Q E h => ?_) (fun cdv A outer s H vs Q E hr h => ?_)
  · obtain ⟨c, ss, a, dx, H0, us, _, _, rfl, _, _, _, _, r, hl, _⟩ := h
    rw [List.length_cons, paired_len r, hl, hn]
  · obtain ⟨c, ss, a, dx, H0, us, eK, hi, rfl, na, nd, ne, rfl, r, hl, hf⟩ := h
    obtain ⟨ts, ds, pd, hd⟩ := body cdv A outer s _ E (fun A p _ => ∀ d H', Go c H0 H' → XOk c H' d p → E (.ref A) d H') hr (passes_of rfl)
    refine ⟨ts, pd.ps (takes_of rfl rfl rfl rfl), ?_⟩
    have q := hd ss _ _ hl hf rfl
    let c1 := c.sub.wth (Kp c.G H0) (fun {H1 H2} k h => h.trans k)
    have ha : ¬ c1.F a := c.fresh hi na
    have nO := C.no hf
    have rp : Paired (fun v s => SlOk c.sub H0 (some v) s) (.ref a :: us) (.any :: ss) := .cons (show SlOk c.sub H0 (some (.ref a)) .any from trivial) (paired_sub r nO)
    have s0 : StOk c1 (L2.start N (.ref a :: us)) H0 (startD N (.any :: ss)) := (start_ok (c := c.sub) hi rp).wth Kp.self
    have kp : ∀ b o, H0 b = some o → (upd (upd H0 dx (.own a)) a (.ins Cl dx [])) b = some o := fun b o e => by
      rw [upd_ne (ne_of_none e na), upd_ne (ne_of_none e nd)]
      exact e
    have s1 := s0.mine (k := 0) ha na kp ⟨_, upd_same, rfl⟩
    rw [show clr 0 (startD N (.any :: ss)) = startD N (.any :: ss) from clr_noOwn (noOwn_append (l := .any :: ss) nO (noOwn_any _))] at s1
    have s2 := s1.set (i := 0) (o := some (.ref a)) (s := .own 0 (.obj Cl [])) ⟨a, rfl, (by show (if (0 : Nat) = 0 then some a else c1.ow 0) = some a; exact if_pos rfl), dx, [], upd_same, .nil⟩
    have g1 : ∀ {H' : Hp}, (c1.mine 0 a ha).I H' → Go c H0 H' := fun {H'} i => ⟨fun b o nb t e => (rem_sub (i.1.2 b o nb t e)).2, c.mono (fun _ _ e => (rem_sub e).2) i.1.1⟩
    have lF : ∀ b, c.F b → (c1.mine 0 a ha).F b := fun _ z => .inl z
    refine pd.li (c1.mine 0 a ha) eK ?_ _ _ ⟨?_, ?_, ?_, ?_, ?_⟩ _ _ _ s2 q
    · exact fun σ H' Γ A d p st x z => z d H' (g1 st.inv) (XOk.to (c := c1.mine 0 a ha) (c' := c) rfl lF Kp.self x)
    · rintro Γ σ H' st ⟨fs, e0, kk⟩
      obtain ⟨o1, e1⟩ := slot_at st.len e0
      obtain ⟨b, eb, wb, rb⟩ := st.at_ 0 _ _ e1 e0
      have ww : some a = some b := wb
      cases ww
      exact kk H' (g1 st.inv) ((OwRp.to (c := c1.mine 0 a ha) (c' := c) rfl lF Kp.self (fun _ _ e => e) rb).rp ha)
    · exact fun _ _ _ _ _ z => z.elim
    · exact fun _ _ _ _ z => z.elim
    · exact fun _ _ _ _ z => z.elim
    · exact fun _ _ _ _ _ z => z.elim
end
section
variable {X : Cx} {W : WX} {xw : XW} {K : PySem.W.Frag} {pos : Pos}
/-! ### C(..) -/
def dNew (CI : CtrI) (Cl : Addr) (dd : List D) (xw : XW) (a : DA) : DE := fun Γ k => a Γ fun ss => (ss ++ dd.map Sl.d).length = CI.n ∧ CI.f (ss ++ dd.map Sl.d) (fun fs => k (.d (.obj Cl fs))) fun A p => xw A p Γ
theorem paired_append {α β : Type} {F : α → β → Prop} : ∀ {xs us : List α} {ys zs : List β}, Paired F xs ys → Paired F us zs → Paired F (xs ++ us) (ys ++ zs)
  | _, _, _, _, .nil, r => r
  | _, _, _, _, .cons a b, r => .cons a (paired_append b r)
theorem rp_paired {c : Cfg} {H : Hp} : ∀ {vs : List V} {ds : List D}, RpAll c H vs ds → Paired (fun v s => SlOk c H (some v) s) vs (ds.map Sl.d)
  | _, _, .nil => .nil
  | _, _, .cons a b => .cons ⟨_, rfl, a⟩ (rp_paired b)
theorem pd_new {CI : CtrI} {Cl f : Addr} {fd : FuncData} {ps : List Str} {k : Nat} {x : Str} {p : Pos} {dvs : List V} {ds : List Value} {dd : List D} {e : Expr} {es : List Expr} {ta : TA} {da : DA} (M : Mk X.K Cl f) (F : FnOk X.prog X.w X.K X.mg X.base (L2.CX X.prog X.w) k f fd ps (CI.sp X.K Cl)) (hr : Room (k + 1) X.A) (hm : X.mg x = some (.ref Cl)) (hb : Binds X.K fd ps ds) (hd : Vals dvs ds) (hdd : ∀ c H, RpAll c H dvs dd)
    (a : PDA X W xw (e :: es) ta da) (hg : Gl X x := by rfl) (hdb : (x == ("__debug__" : Str)) = false := by decide) (he : starEach (e :: es) X.env = (false, eval e X.env) :: starEach es X.env := by rfl) (hpl : (backTo pos (starEach es X.env)).any (·.1) = false := by rfl) :
    PD X W xw (.Call (.Name x p) (e :: es) [] pos) (tMakeS Cl (CI.sp X.K Cl) dvs (WE W) ta) (dNew CI Cl dd xw da) :=
  ⟨fun tk => pe_makeS M F hr hg hm hb hd (fun σ => passAt tk σ) (a.pa tk) hdb he hpl, fun c eK hW Γ k hk σ H st Q q => a.li c eK hW Γ _ hk σ H st _ fun vs ss H1 g r h => fun y dx ny nd ne =>
    ⟨c, ss ++ dd.map Sl.d, y, dx, H1, vs ++ dvs, eK, g.inv, rfl, ny, nd, ne, rfl, paired_append r (rp_paired (hdd c H1)), h.1,
      CI.mono (fun fs ks H' g' r' => ⟨rfl, q _ (.d (.obj Cl fs)) H' (g.trans g') ⟨_, rfl, r'⟩ ks⟩) (fun A pp z d H' g' x' => hW σ H' Γ A d pp (st.go (g.trans g')) x' z) h.2⟩⟩
/-! ### o.f -/
theorem RpFs.look {c : Cfg} {H : Hp} {f : Str} {x : D} : ∀ {vs : List (Str × V)} {fs : List (Str × D)}, RpFs c H vs fs → fs.lookup f = some x → ∃ v, vs.lookup f = some v ∧ Rp c H v x
  | _, _, .nil, e => nomatch e
  | _, _, .cons (n := n) a b, e => by
    rw [List.lookup_cons] at e ⊢
    cases z : f == n with
    | true =>
      rw [z] at e
      cases e
      exact ⟨_, rfl, a⟩
    | false =>
      rw [z] at e
      exact RpFs.look b e
def dFld (Cl : Addr) (f : Str) (e : DE) : DE := fun Γ k => e Γ fun s => match s with
  | .d (.obj C fs) => C = Cl ∧ ∃ x, fs.lookup f = some x ∧ k (.d x)
  | .own _ (.obj C fs) => C = Cl ∧ ∃ x, fs.lookup f = some x ∧ k (.d x)
  | _ => False
theorem pd_fld {Cl : Addr} {f : Str} {e : Expr} {te : TE} {de : DE} (cl : Cls X.K Cl) (na : NoAttr X.K Cl f) (h : PD X W xw e te de) (hb : attributeBase e f X.env (eval e X.env) = eval e X.env := by rfl) : PD X W xw (.Attribute e f pos) (tFld X.K te f) (dFld Cl f de) :=
  ⟨fun tk => pe_fld (h.pe tk) hb, fun c eK hW Γ k hk σ H st Q q => h.li c eK hW Γ _ hk σ H st _ fun v s H1 g r h1 => by
    try dsimp only at h1
    split at h1
    · obtain ⟨e0, x, e1, kx⟩ := h1
      subst e0
      obtain ⟨w, e, rr⟩ := r
      cases e
      cases rr with
      | obj nf hh rf =>
        obtain ⟨u, e2, ru⟩ := rf.look e1
        exact ⟨_, _, _, _, u, rfl, hh, cl, na, e2, q _ (.d x) H1 g ⟨_, rfl, ru⟩ kx⟩
    · obtain ⟨e0, x, e1, kx⟩ := h1
      subst e0
      obtain ⟨b, e, w, dx, vs, hh, rf⟩ := r
      cases e
      obtain ⟨u, e2, ru⟩ := rf.look e1
      exact ⟨_, _, _, _, u, rfl, hh, cl, na, e2, q _ (.d x) H1 g ⟨_, rfl, ru⟩ kx⟩
    · exact h1.elim⟩
/-! ### self.f = e, self owned -/
def putD (f : Str) (v : D) : List (Str × D) → List (Str × D)
  | [] => [(f, v)]
  | (g, x) :: r => if g = f then (g, v) :: r else (g, x) :: putD f v r
theorem RpFs.put {c : Cfg} {H : Hp} {f : Str} {v : V} {x : D} (h : Rp c H v x) : ∀ {vs : List (Str × V)} {fs : List (Str × D)}, RpFs c H vs fs → RpFs c H (putF f v vs) (putD f x fs)
  | _, _, .nil => .cons h .nil
  | _, _, .cons (n := n) a b => by
    show RpFs c H (if n = f then _ else _) (if n = f then _ else _)
    by_cases e : n = f
    · rw [if_pos e, if_pos e]
      exact .cons h b
    · rw [if_neg e, if_neg e]
      exact .cons a (RpFs.put h b)
theorem RpFs.length {c : Cfg} {H : Hp} : ∀ {vs : List (Str × V)} {fs : List (Str × D)}, RpFs c H vs fs → vs.length = fs.length
  | _, _, .nil => rfl
  | _, _, .cons _ b => congrArg (· + 1) b.length
def dSetF (Cl : Addr) (i : Nat) (f : Str) (e : DE) : DS := fun D Γ => e Γ fun s => match s, Γ[i]? with
  | .d x, some (.own k (.obj C fs)) => C = Cl ∧ fs.length < 1000 ∧ D.nx ((clr k Γ).set i (.own k (.obj C (putD f x fs))))
  | _, _ => False
theorem pds_fld {Cl : Addr} {i : Nat} {x f : Str} {e : Expr} {te : TE} {de : DE} {p p' : Pos} (cl : Cls X.K Cl) (na : NoAttr X.K Cl f) (h : PD X W xw e te de) (hN : X.N[i]? = some x := by rfl) (hv : Vis X.env.scope x := by first | exact Or.inl rfl | exact Or.inr (Or.inl rfl) | exact Or.inr (Or.inr rfl)) (hd : (x == ("__debug__" : Str)) = false := by decide) (hcd : (x == ("__classdict__" : Str)) = false := by decide)
    (hs : swapsWith e (some (.Attribute (.Name x p) f p')) pos.line X.env = pure false := by rfl) : PDS X W xw (.Assign [.Attribute (.Name x p) f p'] e pos) (sFld X.K (tVar i) te f) (dSetF Cl i f de) :=
  ⟨fun tk => ps_fld (pe_var hN hv hd hcd) (h.pe tk) hs, fun c eK hW E D o Γ σ H st hk => h.li c eK hW Γ _ hk σ H st _ fun v s H1 g r h1 => by
    try dsimp only at h1
    split at h1
    · rename_i y n C fs e0
      obtain ⟨ec, hl, kx⟩ := h1
      subst ec
      obtain ⟨w, e, rr⟩ := r
      cases e
      have st1 := st.go g
      obtain ⟨o1, e1⟩ := slot_at st.len e0
      obtain ⟨b, eb, wb, dx, vs, hh, rf⟩ := st1.at_ i _ _ e1 e0
      have e2 : σ[i]? = some (some (.ref b)) := by rw [e1, eb]
      have kk : Kp c.F H1 (upd H1 b (.ins C dx (putF f v vs))) := fun b' u nb _ e => by
        rw [upd_ne (fun y => nb (by rw [y]; exact c.WF (c.owW wb).1))]
        exact e
      refine ⟨.ref b, e2, b, C, dx, vs, rfl, hh, cl, na, by rw [rf.length]; exact hl, o.nx _ σ _ (st1.put wb e2 ?_) kx⟩
      exact ⟨dx, _, upd_same, RpFs.put (rr.go kk) (rf.to rfl (fun _ z => z) kk)⟩
    · exact h1.elim⟩
end
end Dv
set_option Elab.async false
set_option linter.all false
set_option maxRecDepth 100000
set_option maxHeartbeats 4000000
/-! Do2: own instances with operators, called, compared; static methods; texts of ints. -/
namespace Dv
open PySem L2
/-! ### built-in classes beside an own one -/
def bT : D → Option String
  | .non => some "NoneType"
  | .bl _ => some "bool"
  | .int _ => some "int"
  | .str _ => some "str"
  | .lst _ => some "list"
  | .tup _ => some "tuple"
  | .dic _ => some "dict"
  | _ => none
theorem rp_bT {c : Cfg} {H : Hp} {v : V} {d : D} {T : String} (h : Rp c H v d) (e : bT d = some T) : TyX c.K H v (.type T) := by
  cases h with
  | non => cases e; exact .base .non
  | bl b => cases e; exact .base (.bl _)
  | int b => cases e; exact .base (.int _)
  | str b => cases e; exact .base (.str _)
  | lst nf il0 ra =>
    have il := (show Rd _ _ _ from Or.inl il0)
    cases e
    rcases il with il | ⟨o, il⟩
    · exact .base (.lst il)
    · exact .base (.frz il)
  | scr _ _ => cases e
  | tup il ra =>
    cases e
    rcases il with ⟨_, il | ⟨o, il⟩⟩ | ⟨o, _, _, e, cl, _⟩
    · exact .base (.tup il)
    · exact .fTuple il
    · exact .kTuple e cl
  | obj _ _ _ => cases e
  | exn _ _ _ _ _ => cases e
  | dic nf il ra =>
    cases e
    exact .base (.dK il)
def isB (T : String) : Prop := T = "NoneType" ∨ T = "bool" ∨ T = "int" ∨ T = "str" ∨ T = "list" ∨ T = "tuple" ∨ T = "dict"
theorem bT_isB {d : D} {T : String} (e : bT d = some T) : isB T := by
  cases d <;> cases e <;> simp [isB]
theorem sub_own {K : PySem.W.Frag} {C : Addr} {T : String} (h : (fastFind? T).isSome = true) : PySem.W.subIn K (.type T) (.ref C) = some false := by
  obtain ⟨t, e⟩ := Option.isSome_iff_exists.mp h
  show (fastBuiltinMro T).map (·.contains (.ref C)) = some false
  rw [fastBuiltinMro, e]
  show some ((t.mro.map Value.type).contains (.ref C)) = some false
  congr 1
  induction t.mro with
  | nil => rfl
  | cons a r ih => rw [List.map_cons, List.contains_cons, ih]; rfl
theorem sub_isB {K : PySem.W.Frag} {C : Addr} {T : String} (h : isB T) : PySem.W.subIn K (.type T) (.ref C) = some false := by
  rcases h with rfl | rfl | rfl | rfl | rfl | rfl | rfl <;> exact sub_own (by decide +kernel)
theorem first_isB {K : PySem.W.Frag} {C : Addr} {T : String} (h : isB T) : PySem.W.notFirst K C (.type T) = true := by
  unfold PySem.W.notFirst
  rw [sub_isB h]
  exact Bool.or_true _
theorem first_self {K : PySem.W.Frag} {C : Addr} : PySem.W.notFirst K C (.ref C) = true := by
  unfold PySem.W.notFirst
  rw [beq_self_eq_true]
  exact Bool.true_or _
def opB (op : Operator) (T : String) : Bool := (fastLookup T (PySem.dunder op.info.2)).isSome && (fastLookup T (dunderR op.info.2)).isSome
theorem ownT {K : PySem.W.Frag} {C : Addr} {op : Operator} {T : String} (h : opB op T = true) (hT : isB T) : OwnOpT K C op T := by
  obtain ⟨h1, h2⟩ := Bool.and_eq_true_iff.mp h
  exact ⟨Option.isSome_iff_exists.mp h1, Option.isSome_iff_exists.mp h2, sub_isB hT⟩
theorem ownAdd {K : PySem.W.Frag} {C : Addr} {T : String} (hT : isB T) : OwnOpT K C .Add T := by
  have z := hT
  rcases z with rfl | rfl | rfl | rfl | rfl | rfl | rfl <;> exact ownT (by decide +kernel) hT
theorem ownSub {K : PySem.W.Frag} {C : Addr} {T : String} (hT : isB T) : OwnOpT K C .Sub T := by
  have z := hT
  rcases z with rfl | rfl | rfl | rfl | rfl | rfl | rfl <;> exact ownT (by decide +kernel) hT
theorem ownMul {K : PySem.W.Frag} {C : Addr} {T : String} (hT : isB T) : OwnOpT K C .Mult T := by
  have z := hT
  rcases z with rfl | rfl | rfl | rfl | rfl | rfl | rfl <;> exact ownT (by decide +kernel) hT
/-- what may stand on the right -/
def rOk (Cl : Addr) : D → Prop
  | .obj C _ => C = Cl
  | .scr _ => False
  | .exn _ _ => False
  | _ => True
theorem rOk_ty {Cl : Addr} {c : Cfg} {H : Hp} {v : V} {d : D} (r : Rp c H v d) (h : rOk Cl d) : (∃ b dy gs, v = .ref b ∧ H b = some (.ins Cl dy gs)) ∨ ∃ T, isB T ∧ TyX c.K H v (.type T) := by
  cases z : bT d with
  | some T => exact .inr ⟨T, bT_isB z, rp_bT r z⟩
  | none =>
    cases r with
    | obj nf hh rf =>
      cases (show _ = Cl from h)
      exact .inl ⟨_, _, _, rfl, hh⟩
    | scr _ _ => exact h.elim
    | exn _ _ _ _ _ => exact h.elim
    | _ => cases z
section
variable {X : Cx} {W : WX} {xw : XW} {K : PySem.W.Frag} {pos : Pos}
section
variable {Ct : Ctr} {Cl g : Addr} {fd : FuncData} {ps : List Str} {k : Nat} {a b : Expr} {ta tb : TE} {da db : DE}
abbrev spB (Ct : Ctr) (K : PySem.W.Frag) : Sp := fun vs H Q E => Ct.sp K (vs ++ []) H Q E
/-! ### o + x -/
def dOpO (Ct : Ctr) (Cl : Addr) (xw : XW) (a b : DE) : DE := fun Γ k => a Γ fun s => b Γ fun t => match s, t with
  | .d (.obj C fs), .d y => C = Cl ∧ rOk Cl y ∧ Ct.f [.d (.obj C fs), .d y] k fun A p => xw A p Γ
  | _, _ => False
theorem pd_opO {op : Operator} (oo : OwnOp X.K Cl g op) (F : FnOk X.prog X.w X.K X.mg X.base (L2.CX X.prog X.w) k g fd ps (Ct.sp X.K)) (hr : Room k X.A) (hb : Binds X.K fd ps []) (hn : Ct.n = 2) (hT : ∀ T, isB T → OwnOpT X.K Cl op T) (x : PD X W xw a ta da) (y : PD X W xw b tb db) :
    PD X W xw (.BinOp a op b pos) (tOpS (rOwnB X.K Cl op (spB Ct X.K) (WE W)) ta tb) (dOpO Ct Cl xw da db) :=
  ⟨fun tk => pe_opS (op_ownB oo (F.raw hb .nil) hr (fun σ => passAt tk σ)) (x.pe tk) (y.pe tk), fun c eK hW Γ k hk σ H st Q q => x.li c eK hW Γ _ hk σ H st _ fun v s H1 g1 r1 h1 => y.li c eK hW Γ _ h1 σ H1 (st.go g1) _ fun u t H2 g2 r2 h2 => by
    try dsimp only at h2
    split at h2
    · obtain ⟨e0, hy, hf⟩ := h2
      subst e0
      have r1' := r1.go g2.keep
      have pr : Paired (fun v s => SlOk c H2 (some v) s) [v, u] [_, _] := .cons r1' (.cons r2 .nil)
      obtain ⟨w, ew, rw⟩ := r1'
      cases ew
      obtain ⟨w2, ew2, rw2⟩ := r2
      cases ew2
      cases rw with
      | obj nf hh rf =>
        refine ⟨_, _, _, rfl, hh, ?_, c, _, eK, g2.inv, pr, hn.symm, Ct.mono (fun s ks v H' g' r' => q v s H' ((g1.trans g2).trans g') r' ks) (fun A pp z d H' g' x' => hW σ H' Γ A d pp (st.go ((g1.trans g2).trans g')) x' z) hf⟩
        rcases rOk_ty rw2 hy with z | ⟨T, hB, ty⟩
        · exact .inl z
        · exact .inr ⟨T, by rw [← eK]; exact ty, hT T hB⟩
    · exact h2.elim⟩
/-! ### o == x, o != x; what is no instance is compared as before -/
def rOr (r r' : R2) : R2 := fun x y H Q => r x y H Q ∨ r' x y H Q
theorem op_or {X : Cx} {f : Value → Value → Sem Value} {r r' : R2} (h : OpR X f r) (h' : OpR X f r') : OpR X f (rOr r r') := fun pins s σ H x y v u Q I rx ry z => z.elim (h pins s σ H x y v u Q I rx ry) (h' pins s σ H x y v u Q I rx ry)
def gEqO (Ct : Ctr) (Cl : Addr) (f : Bool → Bool) (gp : Sl → Sl → DK → Prop) : Sl → Sl → DK → Prop := fun s t k => match s with
  | .d (.obj C fs) => (match t with
    | .d y => C = Cl ∧ rOk Cl y ∧ Ct.f [.d (.obj C fs), .d y] (fun u => ∃ b, u = .d (.bl b) ∧ k (.d (.bl (f b)))) fun _ _ => False
    | _ => False)
  | s => gp s t k
theorem o2_eqO {f : Bool → Bool} {rp : R2} {gp : Sl → Sl → DK → Prop} (hn : Ct.n = 2) (o : O2 K rp gp) : O2 K (rOr (rOwnE K Cl (spB Ct K) E0 f) rp) (gEqO Ct Cl f gp) := fun c H x y s t k Q eK hi rs rt h q => by
  unfold gEqO at h
  split at h
  · split at h
    · obtain ⟨e0, hy, hf⟩ := h
      subst e0
      refine .inl ?_
      have pr : Paired (fun v s => SlOk c H (some v) s) [x, y] [_, _] := .cons rs (.cons rt .nil)
      obtain ⟨w, ew, rw⟩ := rs
      cases ew
      obtain ⟨w2, ew2, rw2⟩ := rt
      cases ew2
      have fin : ∀ t, PySem.W.notFirst K _ t = true → ((∃ b dy gs, y = .ref b ∧ H b = some (.ins _ dy gs) ∧ t = .ref _) ∨ TyX K H y t) → rOwnE K _ (spB Ct K) E0 f x y H Q := fun t nf ty => by
        cases rw with
        | obj nf' hh rf =>
          exact ⟨_, _, _, t, rfl, hh, ty, nf, c, _, eK, hi, pr, hn.symm, Ct.mono (fun s ks v H' g' r' => by
            obtain ⟨b, rfl, kb⟩ := ks
            exact ⟨b, sl_bl r', q _ (.d (.bl (f b))) H' g' ⟨_, rfl, .bl _⟩ kb⟩) (fun A pp z => z.elim) hf⟩
      rcases rOk_ty rw2 hy with ⟨b, dy, gs, ey, hb⟩ | ⟨T, hB, ty⟩
      · exact fin _ first_self (.inl ⟨b, dy, gs, ey, hb, rfl⟩)
      · exact fin _ (first_isB hB) (.inr (by rw [← eK]; exact ty))
    · exact h.elim
  · exact .inr (o c H x y s t k Q eK hi rs rt h q)
theorem pd_eqO (c : OwnEqC X.K Cl g) (F : FnOk X.prog X.w X.K X.mg X.base (L2.CX X.prog X.w) k g fd ps (Ct.sp X.K)) (hr : Room k X.A) (hb : Binds X.K fd ps []) (hn : Ct.n = 2) (x : PD X W xw a ta da) (y : PD X W xw b tb db) :
    PD X W xw (.Compare a [.Eq] [b] pos) (tOp (rOr (rOwnE X.K Cl (spB Ct X.K) E0 fun c => c) (rEqD X.K)) ta tb) (dOp (gEqO Ct Cl (fun c => c) gEq) da db) :=
  ⟨fun tk => pe_cmpR (op_or (op_ownE c (F.raw hb .nil) hr passL) (op_eqD hr.units)) (x.pe tk) (y.pe tk) (nomark _), li_op (o2_eqO hn o2_eq) x.li y.li⟩
theorem pd_neO (c : OwnEqC X.K Cl g) (F : FnOk X.prog X.w X.K X.mg X.base (L2.CX X.prog X.w) k g fd ps (Ct.sp X.K)) (hr : Room (k + 1) X.A) (hb : Binds X.K fd ps []) (hn : Ct.n = 2) (x : PD X W xw a ta da) (y : PD X W xw b tb db) :
    PD X W xw (.Compare a [.NotEq] [b] pos) (tOp (rOr (rOwnE X.K Cl (spB Ct X.K) E0 fun c => !c) (rNeD X.K)) ta tb) (dOp (gEqO Ct Cl (fun c => !c) gNe) da db) :=
  ⟨fun tk => pe_cmpR (op_or (op_ownN c (F.raw hb .nil) hr passL) (op_neD hr.units)) (x.pe tk) (y.pe tk) (nomark _), li_op (o2_eqO hn o2_ne) x.li y.li⟩
theorem pdt_eqO (c : OwnEqC X.K Cl g) (F : FnOk X.prog X.w X.K X.mg X.base (L2.CX X.prog X.w) k g fd ps (Ct.sp X.K)) (hr : Room k X.A) (hb : Binds X.K fd ps []) (hn : Ct.n = 2) (x : PD X W xw a ta da) (y : PD X W xw b tb db) :
    PDT X W xw (.Compare a [.Eq] [b] pos) (tTest (tOp (rOr (rOwnE X.K Cl (spB Ct X.K) E0 fun c => c) (rEqD X.K)) ta tb)) (dB (dOp (gEqO Ct Cl (fun c => c) gEq) da db)) := pdt_cmp (op_or (op_ownE c (F.raw hb .nil) hr passL) (op_eqD hr.units)) (o2_eqO hn o2_eq) x y (nomark _)
theorem pdt_neO (c : OwnEqC X.K Cl g) (F : FnOk X.prog X.w X.K X.mg X.base (L2.CX X.prog X.w) k g fd ps (Ct.sp X.K)) (hr : Room (k + 1) X.A) (hb : Binds X.K fd ps []) (hn : Ct.n = 2) (x : PD X W xw a ta da) (y : PD X W xw b tb db) :
    PDT X W xw (.Compare a [.NotEq] [b] pos) (tTest (tOp (rOr (rOwnE X.K Cl (spB Ct X.K) E0 fun c => !c) (rNeD X.K)) ta tb)) (dB (dOp (gEqO Ct Cl (fun c => !c) gNe) da db)) := pdt_cmp (op_or (op_ownN c (F.raw hb .nil) hr passL) (op_neD hr.units)) (o2_eqO hn o2_ne) x y (nomark _)
end
end
end Dv
set_option Elab.async false
set_option linter.all false
set_option maxRecDepth 100000
set_option maxHeartbeats 4000000
namespace L2
open PySem PySem.W PyProof.Rows
/-- f"{a:+d}" -/
def plus (a : Int) : PySem.Str := if a < 0 then PySem.Str.ofString (toString a) else (⟨#[43]⟩ : PySem.Str) ++ PySem.Str.ofString (toString a)
def fPlus : Builtin.Float.FormatSpec := { align := 62, sign := some 43, type := some 100 }
theorem text_neg (m : Nat) : PySem.Str.ofString (toString (Int.negSucc m)) = ⟨(45 :: (Nat.toDigits 10 (m + 1)).map Char.toNat).toArray⟩ := by
  show PySem.Str.ofString ("-" ++ Nat.repr (m + 1)) = _
  rw [PySem.Str.ofString_eq_toList]
  simp [Nat.repr]
theorem field_plus (a : Int) : intField' fPlus (decide (a < 0)) [] ((Nat.toDigits 10 a.natAbs).map Char.toNat) [] 3 = plus a := by
  have hd : ((Nat.toDigits 10 a.natAbs).map Char.toNat).isEmpty = false := by
    cases h : Nat.toDigits 10 a.natAbs with
    | nil =>
      have := Nat.length_toDigits_pos (b := 10) (n := a.natAbs)
      rw [h] at this
      simp at this
    | cons _ _ => rfl
  unfold plus
  cases a with
  | ofNat m =>
    have nn : ¬ (Int.ofNat m < 0) := Int.not_lt.mpr (Int.natCast_nonneg m)
    rw [if_neg nn, text_ofNat]
    have hd' : ((Nat.toDigits 10 m).map Char.toNat).isEmpty = false := hd
    have e : (Int.ofNat m).natAbs = m := rfl
    have e2 : decide (Int.ofNat m < 0) = false := decide_eq_false nn
    unfold intField' fPlus
    rw [e, e2]
    simp [hd']
    show PySem.Str.mk _ = PySem.Str.mk (#[43] ++ (List.map Char.toNat (Nat.toDigits 10 m)).toArray)
    congr 1
    simp
  | negSucc m =>
    rw [if_pos (by omega), text_neg]
    have e : (Int.negSucc m).natAbs = m + 1 := rfl
    have hd' : ((Nat.toDigits 10 (m + 1)).map Char.toNat).isEmpty = false := hd
    have e2 : decide (Int.negSucc m < 0) = true := decide_eq_true (by omega)
    unfold intField' fPlus
    rw [e, e2]
    simp [hd']
theorem plus_len {a : Int} (h : a.natAbs.log2 < 1920) : (plus a).length ≤ 1000 := by
  have h1 : a.natAbs < 10 ^ 900 := by
    by_cases z : a.natAbs = 0
    · rw [z]; exact Nat.pow_pos (by decide)
    · exact Nat.lt_trans (Nat.lt_of_lt_of_le (Nat.lt_log2_self (n := a.natAbs)) (Nat.pow_le_pow_right (by decide) h)) (by decide +kernel)
  have h2 : (Nat.toDigits 10 a.natAbs).length ≤ 900 := by
    have e := (Nat.length_repr_le_iff (n := a.natAbs) (by decide : 0 < 900)).mpr h1
    rwa [← String.length_toList, Nat.toList_repr] at e
  unfold plus
  cases a with
  | ofNat m =>
    have nn : ¬ (Int.ofNat m < 0) := Int.not_lt.mpr (Int.natCast_nonneg m)
    rw [if_neg nn, text_ofNat]
    have h3 : (Nat.toDigits 10 m).length ≤ 900 := h2
    show (#[43] ++ (List.map Char.toNat (Nat.toDigits 10 m)).toArray).size ≤ 1000
    clear h1 h2 h
    simp
    omega
  | negSucc m =>
    rw [if_pos (by omega), text_neg]
    have h3 : (Nat.toDigits 10 (m + 1)).length ≤ 900 := h2
    simp [PySem.Str.length]
    omega
theorem fmt_plus {a : Int} {t u : Tok} (hd : a.natAbs.log2 < 1920) : Meets (Builtin.«int.__format__» ⟨[.int a t, .str ("+d" : PySem.Str) u], []⟩) (fun _ R s => ∀ t' k, R (.ok (.ret (.str (plus a) t'))) { s with toks := k }) := by
  apply KPc.meets_of
  intro prog w A s Q E hq
  unfold Builtin.«int.__format__»
  refine wpAny_bind (wpAny_of_eq (a := (_, _)) rfl ?_)
  refine wpAny_bind (wpAny_of_eq (a := _) rfl ?_)
  kxf_if
  refine wpAny_bind (wpAny_typeNameOf (T := "str") (typeIs_str _ _ _) (by decide) fun _ => ?_)
  refine wpAny_bind (wpAny_of_eq (a := some _) rfl ?_)
  kxf_if
  kxf_if
  refine wpAny_bind (wpAny_typeNameOfCut_int ?_)
  (repeat kxf_if)
  refine wpAny_bind (wpAny_of_eq (PyProof.Rows.overDigitLimit_small hd) ?_)
  (repeat kxf_if)
  have eq := field_plus a
  have hL := plus_len hd
  rw [← eq] at hL
  refine KXf.ret_text (T := plus a) (.trans ?_ eq) (Nat.le_trans ?_ (show 1000 ≤ sizeLine by decide)) hq
  · rfl
  · exact hL
end L2
set_option Elab.async false
set_option linter.all false
set_option maxRecDepth 100000
set_option maxHeartbeats 4000000
/-! Do3: f-strings, instances called, static methods, isinstance of an own class, f(), lists repeated. -/
namespace L2
open PySem PySem.Spec PyProof.Rows
section
variable {X : Cx}
/-- {x:+d} -/
def tFmtP (te : TE) : TE := fun σ H Q => te σ H fun x H1 => ∃ i : Int, x = .int i ∧ i.natAbs.log2 < 1920 ∧ Q (.str (plus i)) H1
theorem pe_fmtP {e : Expr} {te : TE} {j : _} {p1 p2 pos : Pos} (he : PE X e te) : PE X (.FormattedValue e (-1) (some (.JoinedStr [.Constant (.str "+d") j p1] p2)) pos) (tFmtP te) := by
  have hc : PE X (.JoinedStr [.Constant (.str "+d") j p1] p2) (tC (.str "+d")) := pe_joined1 pe_str
  refine ⟨fun pins s σ H Q I h => ?_⟩
  refine wpAny_FormattedValue_spec (thn (he.run pins s σ H _ I h) fun v s1 hv => ?_)
  obtain ⟨x, H1, I1, r1, i, rfl, hz, q⟩ := hv
  obtain ⟨t, rfl⟩ := r1
  refine thn (hc.run pins s1 σ H1 (fun y H2 => y = .str "+d" ∧ H2 = H1) I1 ⟨rfl, rfl⟩) fun r s2 hr => ?_
  obtain ⟨y, H2, I2, r2, rfl, rfl⟩ := hr
  obtain ⟨t2, rfl⟩ := r2
  exact ⟨_, _, rfl, PySem.W.KXf.field_int rfl (by decide) (by decide) (fun u => fmt_plus hz) fun t' k => ⟨.str (plus i), H2, I2.tok _, ⟨_, rfl⟩, q⟩⟩
end
end L2
namespace Dv
open PySem L2
section
variable {X : Cx} {W : WX} {xw : XW} {K : PySem.W.Frag} {pos : Pos}
/-! ### f-strings -/
def dFmt (e : DE) : DE := fun Γ k => e Γ fun s => match s with
  | .d (.str y) => y.length ≤ 100000 ∧ k (.d (.str y))
  | .d (.int i) => i.natAbs.log2 < 1920 ∧ k (.d (.str (Str.ofString (toString i))))
  | _ => False
theorem pd_fmt {e : Expr} {te : TE} {de : DE} (h : PD X W xw e te de) : PD X W xw (.FormattedValue e (-1) none pos) (tFmt te) (dFmt de) :=
  ⟨fun tk => pe_fmt (h.pe tk), fun c eK hW Γ k hk σ H st Q q => h.li c eK hW Γ _ hk σ H st _ fun v s H1 g r h1 => by
    try dsimp only at h1
    split at h1
    · exact .inl ⟨_, sl_str r, sz h1.1, q _ (.d (.str _)) H1 g ⟨_, rfl, .str _⟩ h1.2⟩
    · exact .inr ⟨_, sl_int r, h1.1, q _ (.d (.str _)) H1 g ⟨_, rfl, .str _⟩ h1.2⟩
    · exact h1.elim⟩
def dFmtP (e : DE) : DE := fun Γ k => e Γ fun s => match s with
  | .d (.int i) => i.natAbs.log2 < 1920 ∧ k (.d (.str (plus i)))
  | _ => False
theorem pd_fmtP {e : Expr} {te : TE} {de : DE} {j : _} {p1 p2 : Pos} (h : PD X W xw e te de) : PD X W xw (.FormattedValue e (-1) (some (.JoinedStr [.Constant (.str "+d") j p1] p2)) pos) (tFmtP te) (dFmtP de) :=
  ⟨fun tk => pe_fmtP (h.pe tk), fun c eK hW Γ k hk σ H st Q q => h.li c eK hW Γ _ hk σ H st _ fun v s H1 g r h1 => by
    try dsimp only at h1
    split at h1
    · exact ⟨_, sl_int r, h1.1, q _ (.d (.str _)) H1 g ⟨_, rfl, .str _⟩ h1.2⟩
    · exact h1.elim⟩
structure PDJ (X : Cx) (W : WX) (xw : XW) (es : List Expr) (ts : List TE) (ds : List DE) : Prop where
  pj : Takes X W → PJ X es ts
  li : Paired (Li X.K W xw) ts ds
theorem pdj_nil : PDJ X W xw [] [] [] := ⟨fun _ => .nil, .nil⟩
theorem pdj_cons {e : Expr} {t : TE} {d : DE} {es : List Expr} {ts : List TE} {ds : List DE} (h : PD X W xw e t d) (r : PDJ X W xw es ts ds) : PDJ X W xw (e :: es) (t :: ts) (d :: ds) := ⟨fun tk => .cons (h.pe tk) (r.pj tk), .cons h.li r.li⟩
def dJs : List DE → Str → Gm → (Str → Prop) → Prop
  | [], acc, _, k => k acc
  | d :: ds, acc, Γ, k => d Γ fun s => match s with
    | .d (.str y) => (acc ++ y).length ≤ 100000 ∧ dJs ds (acc ++ y) Γ k
    | _ => False
theorem li_js {W : WX} {xw : XW} {c : Cfg} {σ : St} {Γ : Gm} {ts : List TE} {ds : List DE} (hW : WOk c W xw) (h : Paired (Li c.K W xw) ts ds) : ∀ (acc : Str) (H : Hp) (k : Str → Prop) (Q : Str → Hp → Prop), StOk c σ H Γ → dJs ds acc Γ k → (∀ y H2, Go c H H2 → k y → Q y H2) → tJs ts acc σ H Q := by
  induction h with
  | nil => exact fun acc H k Q st hk q => q acc H (Go.self st.inv) hk
  | cons a b ih =>
    intro acc H k Q st hk q
    refine a c rfl hW Γ _ hk σ H st _ fun v s H1 g r h1 => ?_
    try dsimp only at h1
    split at h1
    · exact ⟨_, sl_str r, sz h1.1, ih _ H1 k Q (st.go g) h1.2 fun y H2 g2 ky => q y H2 (g.trans g2) ky⟩
    · exact h1.elim
def dJoin (ds : List DE) : DE := fun Γ k => dJs ds Str.empty Γ fun y => k (.d (.str y))
theorem pd_joined {v1 v2 : Expr} {rest : List Expr} {ts : List TE} {ds : List DE} (h : PDJ X W xw (v1 :: v2 :: rest) ts ds) : PD X W xw (.JoinedStr (v1 :: v2 :: rest) pos) (fun σ H Q => tJs ts Str.empty σ H fun out H1 => Q (.str out) H1) (dJoin ds) :=
  ⟨fun tk => pe_joined (h.pj tk), fun c eK hW Γ k hk σ H st Q q => by
    have l := h.li
    rw [← eK] at l
    exact li_js hW l Str.empty H _ _ st hk fun y H2 g ky => q _ (.d (.str y)) H2 g ⟨_, rfl, .str _⟩ ky⟩
/-! ### str(i) -/
def gStrI : List Sl → DK → Prop := fun ss k => match ss with
  | [.d (.int i)] => i.natAbs.log2 < 1920 ∧ k (.d (.str (Str.ofString (toString i))))
  | _ => False
theorem oc_strI : OC K (fun xs H Q => ∃ i, xs = [V.int i] ∧ i.natAbs.log2 < 1920 ∧ Q (.str (Str.ofString (toString i))) H) gStrI := fun c H vs ss k Q eK hi r h q => by
  unfold gStrI at h
  split at h
  · obtain ⟨v, rfl, rr⟩ := paired1 r
    have e := sl_int rr
    subst e
    exact ⟨_, rfl, h.1, q _ (.d (.str _)) H (Go.self hi) ⟨_, rfl, .str _⟩ h.2⟩
  · exact h.elim
/-! ### f() -/
theorem pd_call0 {C : Ctr} {f : Addr} {fd : FuncData} {ps : List Str} {k : Nat} {x : Str} {p : Pos} (F : FnOk X.prog X.w X.K X.mg X.base (L2.CX X.prog X.w) k f fd ps (C.sp X.K)) (hr : Room k X.A) (hm : X.mg x = some (.ref f)) (hk : PySem.W.keepIn X.K (.ref f) = true) (hb : Binds X.K fd ps []) (hg : Gl X x := by rfl)
    (hdb : (x == ("__debug__" : Str)) = false := by decide) : PD X W xw (.Call (.Name x p) [] [] pos) (tCall (C.sp X.K) [] E0 tNil) (dCall C xw0 dNil) :=
  ⟨fun tk => pe_call0 F hr hg hm hk hb .nil passL hdb, fun c eK hW Γ k hd σ H st Q q => by
    exact ⟨c, [], eK, st.inv, .nil, hd.1, C.mono (fun s ks v H' g' r' => q v s H' g' r' ks) (fun _ _ z => z.elim) hd.2⟩⟩
/-! ### [..] * n -/
def dRep (a : DA) (b : DE) : DE := fun Γ k => a Γ fun ss => match unD ss with
  | some ds => ds.length ≤ 100000 ∧ b Γ fun t => (match t with
    | .d (.int n) => -(2 ^ 63) ≤ n ∧ n < 2 ^ 63 ∧ ds.length * n.toNat ≤ 100000 ∧ k (.d (.lst (List.replicate n.toNat ds).flatten))
    | _ => False)
  | none => False
theorem rp_rep {c : Cfg} {H : Hp} {vs : List V} {ds : List D} (r : RpAll c H vs ds) : ∀ n : Nat, RpAll c H (List.replicate n vs).flatten (List.replicate n ds).flatten
  | 0 => .nil
  | n + 1 => by
    rw [List.replicate_succ, List.replicate_succ, List.flatten_cons, List.flatten_cons]
    exact RpAll.append r (rp_rep r n)
theorem pd_rep {es : List Expr} {b : Expr} {ta : TA} {tb : TE} {da : DA} {db : DE} {p : Pos} (a : PDA X W xw es ta da) (y : PD X W xw b tb db) : PD X W xw (.BinOp (.List es p) .Mult b pos) (tOp rRep (tLst ta) tb) (dRep da db) :=
  ⟨fun tk => pe_op op_rep (pe_lst (a.pa tk)) (y.pe tk), fun c eK hW Γ k hk σ H st Q q => a.li c eK hW Γ _ hk σ H st _ fun vs ss H1 g1 r1 h1 => by
    try dsimp only at h1
    split at h1
    · rename_i ds e
      have rr := unD_ok r1 e
      refine ⟨by rw [rr.length]; exact sz h1.1, fun p np => ?_⟩
      have g2 := Go.new (o := .lst vs) g1.inv np
      refine y.li c eK hW Γ _ h1.2 σ _ ((st.go g1).go g2) _ fun u t H2 g3 r2 h2 => ?_
      try dsimp only at h2
      split at h2
      · obtain ⟨b1, b2, b3, hk⟩ := h2
        have nF := c.fresh g1.inv np
        refine ⟨p, _, vs, rfl, sl_int r2, g3.keep p _ (fun z => nF (c.GF z)) rfl upd_same, b1, b2, by rw [rr.length]; exact sz b3, fun p2 np2 => ?_⟩
        have rr2 := (rr.go g2.kF).go g3.kF
        exact q _ (.d (.lst _)) _ (((g1.trans g2).trans g3).trans (Go.new g3.inv np2)) ⟨_, rfl, rp_newL g3.inv np2 (rp_rep rr2 _)⟩ hk
      · exact h2.elim
    · exact h1.elim⟩
end
end Dv
set_option Elab.async false
set_option linter.all false
set_option maxRecDepth 100000
set_option maxHeartbeats 4000000
/-! Do4: instances called, static methods, isinstance of an own class. -/
namespace Dv
open PySem L2
section
variable {X : Cx} {W : WX} {xw : XW} {K : PySem.W.Frag} {pos : Pos}
variable {Ct : Ctr} {Cl g : Addr} {fd : FuncData} {ps : List Str} {k : Nat} {e fe o : Expr} {es : List Expr} {ta : TA} {da : DA} {tf to : TE} {df do_ : DE}
/-! ### o(..) -/
def dCallO (Ct : Ctr) (Cl : Addr) (xw : XW) (f : DE) (a : DA) : DE := fun Γ k => f Γ fun s => match s with
  | .d (.obj C fs) => C = Cl ∧ a Γ fun ss => (ss.length + 1 = Ct.n) ∧ Ct.f (.d (.obj C fs) :: ss) k fun A p => xw A p Γ
  | _ => False
theorem pd_callO (c : StX.CallO X.K Cl g) (F : FnOk X.prog X.w X.K X.mg X.base (L2.CX X.prog X.w) k g fd ps (Ct.sp X.K)) (hr : Room k X.A) (hb : Binds X.K fd ps []) (f : PD X W xw fe tf df) (a : PDA X W xw (e :: es) ta da)
    (ht : eval (.Call fe (e :: es) [] pos) X.env = (do callWith pos (← eval fe X.env) [] (backTo pos (starEach (e :: es) X.env)) (backToKw pos (keywordEach [] X.env))) := by rfl)
    (he : starEach (e :: es) X.env = (false, eval e X.env) :: starEach es X.env := by rfl) (hpl : (backTo pos (starEach es X.env)).any (·.1) = false := by rfl) :
    PD X W xw (.Call fe (e :: es) [] pos) (tCallOS Cl (spB Ct X.K) (WE W) tf ta) (dCallO Ct Cl xw df da) :=
  ⟨fun tk => pe_callOS (f.pe tk) c (F.raw hb .nil) hr (fun σ => passAt tk σ) (a.pa tk) ht he hpl, fun cc eK hW Γ k hk σ H st Q q => f.li cc eK hW Γ _ hk σ H st _ fun v s H1 g1 r1 h1 => by
    try dsimp only at h1
    split at h1
    · obtain ⟨e0, h1⟩ := h1
      subst e0
      obtain ⟨w, ew, rw⟩ := r1
      cases ew
      cases rw with
      | obj nf hh rf =>
        refine ⟨_, rfl, a.li cc eK hW Γ _ h1 σ H1 (st.go g1) _ fun vs ss H2 g2 r2 h2 => ⟨⟨_, _, g2.keep _ _ (fun z => nf (cc.GF z)) rfl hh⟩, ?_⟩⟩
        have ro : Rp cc H2 _ _ := (Rp.obj nf hh rf).go g2.kF
        refine ⟨cc, .d (.obj _ _) :: ss, eK, g2.inv, ?_, h2.1, Ct.mono (fun s ks v H' g' r' => q v s H' ((g1.trans g2).trans g') r' ks) (fun A pp z d H' g' x' => hW σ H' Γ A d pp (st.go ((g1.trans g2).trans g')) x' z) h2.2⟩
        rw [List.append_nil]
        exact .cons ⟨_, rfl, ro⟩ r2
    · exact h1.elim⟩
/-! ### C.m(..), m static -/
def dSM (Ct : Ctr) (xw : XW) (a : DA) : DE := fun Γ k => a Γ fun ss => ss.length = Ct.n ∧ Ct.f ss k fun A p => xw A p Γ
theorem pd_sm {x m : Str} {mc : Value} {p0 : Addr} {pl : Sem Bool} {p apos : Pos} (c : SMet X.K Cl mc m p0 g) (F : FnOk X.prog X.w X.K X.mg X.base (L2.CX X.prog X.w) k g fd ps (Ct.sp X.K)) (hr : Room k X.A) (hb : Binds X.K fd ps []) (hm : X.mg x = some (.ref Cl)) (a : PDA X W xw (e :: es) ta da)
    (hg : Gl X x := by rfl) (hd : (x == ("__debug__" : Str)) = false := by decide) (hst : starEach (e :: es) X.env = (false, eval e X.env) :: starEach es X.env := by rfl) (hpl : (backTo pos (starEach es X.env)).any (·.1) = false := by rfl)
    (ht : eval (.Call (.Attribute (.Name x p) m apos) (e :: es) [] pos) X.env = (do
      let ov ← eval (.Name x p) X.env
      standAt apos.atName
      let (f, first) ← holding [ov] (getMethod ov m pl)
      callWith pos f first (backTo pos (starEach (e :: es) X.env)) (backToKw pos (keywordEach [] X.env))) := by rfl) :
    PD X W xw (.Call (.Attribute (.Name x p) m apos) (e :: es) [] pos) (tSMeth Cl (spB Ct X.K) (WE W) (tC (.ref Cl)) ta) (dSM Ct xw da) :=
  ⟨fun tk => pe_smeth (pe_glob hg hm rfl hd) c (F.raw hb .nil) hr (fun σ => passAt tk σ) (a.pa tk) hst hpl ht, fun cc eK hW Γ k hk σ H st Q q => ⟨rfl, a.li cc eK hW Γ _ hk σ H st _ fun vs ss H1 g r h => by
    refine ⟨cc, ss, eK, g.inv, by rw [List.append_nil]; exact r, h.1, Ct.mono (fun s ks v H' g' r' => q v s H' (g.trans g') r' ks) (fun A pp z d H' g' x' => hW σ H' Γ A d pp (st.go (g.trans g')) x' z) h.2⟩⟩⟩
/-! ### isinstance(x, C) -/
def isC (Cl : Addr) : D → Bool
  | .obj C _ => decide (C = Cl)
  | _ => false
def gIsC (Cl : Addr) : List Sl → DK → Prop := fun ss k => match ss with
  | [.d x, .v (.ref C)] => C = Cl ∧ rOk Cl x ∧ k (.d (.bl (isC Cl x)))
  | _ => False
/-- what K says of the class for isinstance -/
structure IsOwn (K : PySem.W.Frag) (Cl : Addr) : Prop where
  ins : C8.InsC K Cl
  cls : (PySem.W.clsIn K Cl).isSome = true
  ty : PySem.W.typeIn K (.ref Cl) = some (.type "type")
theorem kit_own {K : PySem.W.Frag} {Cl : Addr} {T : String} (h : IsOwn K Cl) (hT : isB T) : PySem.W.kitOne K (.type T) (.ref Cl) = some false := by
  show (if (Value.type T == Value.ref Cl) = true then some true else if ((PySem.W.clsIn K Cl).isSome && PySem.W.typeIn K (.ref Cl) == some (.type "type")) = true then PySem.W.subIn K (.type T) (.ref Cl) else none) = some false
  rw [if_neg (show ¬ ((Value.type T == Value.ref Cl) = true) from Bool.false_ne_true), if_pos (by rw [h.cls, h.ty]; rfl)]
  exact sub_isB hT
def rIsC (K : PySem.W.Frag) (Cl : Addr) : List V → Hp → VK → Prop := fun xs H Q => rIsi K xs H Q ∨ ∃ a dx fs, xs = [.ref a, .ref Cl] ∧ H a = some (.ins Cl dx fs) ∧ Q (.bl true) H
theorem call_isOwn (h : IsOwn X.K Cl) : CallR X (.builtin "isinstance") (rIsC X.K Cl) := fun pins s σ H xs us Q I r z => z.elim (call_isi pins s σ H xs us Q I r) (C8.call_isC h.ins pins s σ H xs us Q I r)
theorem oc_isC (h : IsOwn K Cl) : OC K (rIsC K Cl) (gIsC Cl) := fun c H vs ss k Q eK hi r hg q => by
  unfold gIsC at hg
  split at hg
  · rename_i x C
    obtain ⟨e0, ho, hk⟩ := hg
    subst e0
    obtain ⟨v, w, rfl, ⟨z, ez, rr⟩, r2⟩ := paired2 r
    cases ez
    have ew : V.ref C = w := (Option.some.inj r2).symm
    subst ew
    cases zz : bT x with
    | some T =>
      have hB := bT_isB zz
      have ei : isC C x = false := by cases x <;> first | rfl | cases zz
      rw [ei] at hk
      exact .inl ⟨_, _, _, _, _, rfl, .own _, by rw [← eK]; exact rp_bT rr zz, kit_own h hB, q _ (.d (.bl false)) H (Go.self hi) ⟨_, rfl, .bl _⟩ hk⟩
    | none =>
      cases rr with
      | obj nf hh rf =>
        have e1 : _ = C := ho
        subst e1
        have ei : ∀ (c : Addr) (f : List (Str × D)), isC c (.obj c f) = true := fun c f => decide_eq_true rfl
        rw [ei] at hk
        exact .inr ⟨_, _, _, rfl, hh, q _ (.d (.bl true)) H (Go.self hi) ⟨_, rfl, .bl _⟩ hk⟩
      | scr _ _ => exact ho.elim
      | exn _ _ _ _ _ => exact ho.elim
      | _ => cases zz
  · exact hg.elim
end
end Dv
set_option Elab.async false
set_option linter.all false
set_option maxRecDepth 100000
set_option maxHeartbeats 4000000
/-! Dc: what the top has written of a class. -/
namespace Dv
open PySem L2
structure MetAt (K : PySem.W.Frag) (x qual : Str) (st : Stmt) (ps : List Str) (f : Addr) (fd : FuncData) : Prop where
  F : FunD K x qual st f fd
  b : Binds K fd ps []
structure ClsAt (K : PySem.W.Frag) (mg : Str → Option Value) (x : Str) (C : Addr) : Prop where
  gC : mg x = some (.ref C)
  cl : Cls K C
  is : IsOwn K C
/-- a method without defaults -/
theorem met_mk {K : PySem.W.Frag} {x qual : Str} {st : Stmt} {ps : List Str} {f : Addr} {fd : FuncData} (F : Fun K x qual st f fd) (b : Binds K fd ps []) : MetAt K x qual st ps f fd := ⟨.of F, b⟩
/-- a method with one default, an int -/
structure MetAt1 (K : PySem.W.Frag) (x qual : Str) (st : Stmt) (ps : List Str) (i : Int) (f : Addr) (fd : FuncData) : Prop where
  F : FunD K x qual st f fd
  b : Binds K fd ps []
  b1 : ∃ ds, Vals [V.int i] ds ∧ Binds K fd ps ds
theorem met_mk1 {K : PySem.W.Frag} {x qual : Str} {st : Stmt} {ps : List Str} {i : Int} {f T : Addr} {oc ot : Value} {od an ot2 : Option Addr} {osl tsl : Array (Option Value)} {kV doc pm cdv ct u : Value} {m n : Nat} (l : K.lookup f = some ⟨oc, od, .func (PySem.W.fnOf x qual (defArgs st) (defBody st) (defScope st) (.ref T) kV doc pm an cdv ct), osl⟩)
    (c : PySem.W.codeIn K cdv qual = true) (k : PySem.W.keepIn K (.ref f) = true) (lT : K.lookup T = some ⟨ot, ot2, .seq #[u] m, tsl⟩) (ru : RelV (.int i) u) (hn : n + 1 = ps.length)
    (h0 : ∀ (T : Addr) (kV doc pm : Value) (an : Option Addr) (cdv ct : Value) (us its : List Value), us.length = n + 1 → its.length = 1 →
      ∃ k, bindArgs (PySem.W.fnOf x qual (defArgs st) (defBody st) (defScope st) (.ref T) kV doc pm an cdv ct) ⟨us, []⟩ = seqItems? (.ref T) >>= k ∧ k (some its.toArray) = pure (ps.zip (us ++ its.drop 1)))
    (h1 : ∀ (T : Addr) (kV doc pm : Value) (an : Option Addr) (cdv ct : Value) (us its : List Value), us.length = n → its.length = 1 →
      ∃ k, bindArgs (PySem.W.fnOf x qual (defArgs st) (defBody st) (defScope st) (.ref T) kV doc pm an cdv ct) ⟨us, []⟩ = seqItems? (.ref T) >>= k ∧ k (some its.toArray) = pure (ps.zip (us ++ its.drop 0))) :
    MetAt1 K x qual st ps i f (PySem.W.fnOf x qual (defArgs st) (defBody st) (defScope st) (.ref T) kV doc pm an cdv ct) := by
  have F : L2.FunD K x qual (defArgs st) (defBody st) (defScope st) [V.int i] [] f (PySem.W.fnOf x qual (defArgs st) (defBody st) (defScope st) (.ref T) kV doc pm an cdv ct) :=
    ⟨⟨_, _, _, _, _, _, _, _, _, _, rfl, l, c, .inr ⟨by simp, T, _, [u], m, rfl, lT, rfl, .cons ru .nil⟩, .inl rfl⟩, k⟩
  obtain ⟨d0, v0, b0⟩ := F.binds1 (ps := ps) (n + 1) 1 (by simp) (by simpa using hn) h0
  have e0 : d0 = [] := by
    cases v0
    rfl
  rw [e0] at b0
  exact ⟨⟨⟨_, _, _, _, _, _, _, _, _, _, rfl, l, c⟩, k⟩, b0, F.binds1 (ps := ps) n 0 (by simp) (by simpa using hn) h1⟩
section
variable {X : Cx} {W : WX} {xw : XW} {pos : Pos} {CI : CtrI} {Cl f : Addr} {fd : FuncData} {ps : List Str} {k : Nat} {x : Str} {p : Pos} {e : Expr} {es : List Expr} {ta : TA} {da : DA}
/-- C(..), every parameter given -/
theorem pd_newA (M : Mk X.K Cl f) (F : FnOk X.prog X.w X.K X.mg X.base (L2.CX X.prog X.w) k f fd ps (CI.sp X.K Cl)) (hr : Room (k + 1) X.A) (hm : X.mg x = some (.ref Cl)) (hb : Binds X.K fd ps []) (a : PDA X W xw (e :: es) ta da) (hg : Gl X x := by rfl)
    (hdb : (x == ("__debug__" : Str)) = false := by decide) (he : starEach (e :: es) X.env = (false, eval e X.env) :: starEach es X.env := by rfl) (hpl : (backTo pos (starEach es X.env)).any (·.1) = false := by rfl) :
    PD X W xw (.Call (.Name x p) (e :: es) [] pos) (tMakeS Cl (CI.sp X.K Cl) [] (WE W) ta) (dNew CI Cl [] xw da) := pd_new M F hr hm hb .nil (fun _ _ => .nil) a hg hdb he hpl
/-- C(..), the last parameter by its default -/
theorem pd_newD {i : Int} (M : Mk X.K Cl f) (F : FnOk X.prog X.w X.K X.mg X.base (L2.CX X.prog X.w) k f fd ps (CI.sp X.K Cl)) (hr : Room (k + 1) X.A) (hm : X.mg x = some (.ref Cl)) (hb : ∃ ds, Vals [V.int i] ds ∧ Binds X.K fd ps ds) (a : PDA X W xw (e :: es) ta da) (hg : Gl X x := by rfl)
    (hdb : (x == ("__debug__" : Str)) = false := by decide) (he : starEach (e :: es) X.env = (false, eval e X.env) :: starEach es X.env := by rfl) (hpl : (backTo pos (starEach es X.env)).any (·.1) = false := by rfl) :
    PD X W xw (.Call (.Name x p) (e :: es) [] pos) (tMakeS Cl (CI.sp X.K Cl) [V.int i] (WE W) ta) (dNew CI Cl [.int i] xw da) := by
  obtain ⟨ds, v, b⟩ := hb
  exact pd_new M F hr hm b v (fun _ _ => .cons (.int i) .nil) a hg hdb he hpl
end
end Dv
set_option Elab.async false
set_option linter.all false
set_option maxRecDepth 100000
set_option maxHeartbeats 4000000
/-! Dk: isinstance(x, T), x an own instance too. -/
namespace Dv
open PySem L2
/-- what K says of the class beside the built-in ones -/
structure NotB (K : PySem.W.Frag) (Cl : Addr) : Prop where
  is : IsOwn K Cl
  int : PySem.W.subIn K (.ref Cl) (.type "int") = some false
  bool : PySem.W.subIn K (.ref Cl) (.type "bool") = some false
  str : PySem.W.subIn K (.ref Cl) (.type "str") = some false
  list : PySem.W.subIn K (.ref Cl) (.type "list") = some false
  tuple : PySem.W.subIn K (.ref Cl) (.type "tuple") = some false
  dict : PySem.W.subIn K (.ref Cl) (.type "dict") = some false
def gIsX (Cl : Addr) (T : Ty) : List Sl → DK → Prop := fun ss k => match ss with
  | [.d x, .v (.ty n)] => n = T.nm ∧ rOk Cl x ∧ k (.d (.bl (isTy T x)))
  | _ => False
theorem kit_not {K : PySem.W.Frag} {Cl : Addr} (h : NotB K Cl) (T : Ty) : PySem.W.kitOne K (.ref Cl) (.type T.nm) = some false := by
  cases T
  · exact kit_sub h.int (by decide +kernel)
  · exact kit_sub h.bool (by decide +kernel)
  · exact kit_sub h.str (by decide +kernel)
  · exact kit_sub h.list (by decide +kernel)
  · exact kit_sub h.tuple (by decide +kernel)
  · exact kit_sub h.dict (by decide +kernel)
section
variable {K : PySem.W.Frag} {Cl : Addr}
theorem oc_isX (h : NotB K Cl) (T : Ty) : OC K (rIsi K) (gIsX Cl T) := fun c H vs ss k Q eK hi r hg q => by
  unfold gIsX at hg
  split at hg
  · rename_i x n
    obtain ⟨en, ho, hk⟩ := hg
    cases zz : isObj x with
    | false => exact oc_is T c H vs _ k Q eK hi r ⟨en, zz, hk⟩ q
    | true =>
      obtain ⟨v, w, rfl, ⟨z, ez, rr⟩, r2⟩ := paired2 r
      cases ez
      have ew : V.ty n = w := (Option.some.inj r2).symm
      subst ew
      subst en
      cases rr with
      | obj nf hh rf =>
        have e1 : _ = Cl := ho
        subst e1
        have i := h.is.ins
        refine ⟨_, _, _, _, _, rfl, .ty _, .base (TyOf.ins hh i.cl i.ha i.hn i.htk i.hm), kit_not h T, q _ (.d (.bl _)) H (Go.self hi) ⟨_, rfl, .bl _⟩ ?_⟩
        cases T <;> exact hk
      | scr _ _ => exact ho.elim
      | exn _ _ _ _ _ => exact ho.elim
      | _ => cases zz
  · exact hg.elim
end
section
variable {P : Program} {w : World} {K : PySem.W.Frag} {mg : Str → Option Value} {base : Heap}
/-- fn_ok for a method, with what defaults ever -/
theorem fn_okD {x qual : Str} {st : Stmt} {f : Addr} {fd : FuncData} {N ps : List Str} {k : Nat} (C : Ctr) (F : FunD K x qual st f fd) (S : FnScope N ps (defScope st)) (hn : ps.length = C.n)
    (body : ∀ (cdv : Value) (A : Around) (outer : List Env) (s : Shared) (H : Hp) (E : XK) (xw : XW), Room k (A.deeper (PyProof.Rows.envOfC qual (defScope st) s.heap.objs.size f cdv)) →
      PassesOwn (model P w) (cxOf (L2.CX P w) P w K mg base N qual (defScope st) f cdv A outer s H E).A (cxOf (L2.CX P w) P w K mg base N qual (defScope st) f cdv A outer s H E).env (cxOf (L2.CX P w) P w K mg base N qual (defScope st) f cdv A outer s H E).xe →
      ∃ ts ds, PDSs (cxOf (L2.CX P w) P w K mg base N qual (defScope st) f cdv A outer s H E) (fun cls d _ H => E cls d H) xw (defBody st) ts ds ∧
        ∀ ss kk xx, ss.length = C.n → C.f ss kk xx → (xw = fun A p _ => xx A p) → ds { nx := fun _ => kk (.d .non), rt := kk } (startD N ss)) : FnOk P w K mg base (L2.CX P w) (k + 1) f fd ps (C.sp K) := by
  refine F.okX S (fun vs H Q E h => ?_) (fun cdv A outer s H vs Q E hr h => ?_)
  · obtain ⟨c, ss, _, _, r, hl, _⟩ := h
    rw [paired_len r, hl, hn]
  · obtain ⟨c, ss, eK, hi, r, hl, hf⟩ := h
    obtain ⟨ts, ds, pd, hd⟩ := body cdv A outer s H E (fun A p _ => ∀ d H', Go c H H' → XOk c H' d p → E (.ref A) d H') hr (passes_of rfl)
    refine ⟨ts, pd.ps (takes_of rfl rfl rfl rfl), ?_⟩
    have q := hd ss _ _ hl hf rfl
    let c' := c.sub.wth (Kp c.G H) (fun {H1 H2} k h => h.trans k)
    have lc : Le c c' := ⟨rfl, fun _ z => z, fun _ h => h.1, fun _ z => z, fun _ _ e => (nomatch e), fun _ z => ⟨z.1, fun y => y⟩, rfl⟩
    have s0 : StOk c' (L2.start N vs) H (startD N ss) := (start_ok (c := c.sub) hi (paired_sub r (C.no hf))).wth Kp.self
    refine pd.li c' eK ?_ _ _ ⟨?_, ?_, ?_, ?_, ?_⟩ _ _ _ s0 q
    · exact fun σ H' Γ A d p st x z => z d H' ⟨st.inv.2, st.inv.1⟩ (x.le lc)
    · exact fun Γ σ H' st z => z .non H' ⟨st.inv.2, st.inv.1⟩ ⟨_, rfl, .non⟩
    · exact fun v s H' i r z => z v H' ⟨i.2, i.1⟩ (r.le lc)
    · exact fun _ _ _ _ z => z.elim
    · exact fun _ _ _ _ z => z.elim
    · exact fun v x H' i r z => z v H' ⟨i.2, i.1⟩ ⟨v, rfl, Rp.to (c := c'.rel) (c' := c) rfl (fun _ z => ⟨z, fun y => y⟩) Kp.self r⟩
end
end Dv
set_option Elab.async false
set_option linter.all false
set_option maxRecDepth 100000
set_option maxHeartbeats 4000000
/-! Dm: texts: str of an own instance, join, partition, c in s, int(text); C(k = ..). -/
namespace L2
open PySem PySem.Spec PyProof.Rows PySem.W
section
variable {X : Cx} {CX : CXT} {k : Nat} {g C : Addr} {sp : Sp} {E : XK}
/-- what K says of a class with an own __str__ -/
structure OwnStrC (K : Frag) (C g : Addr) : Prop where
  st : findIn K (.ref C) "__str__" = some (some (.ref g))
  fn : isFn K (.ref g) = true
/-- str(o) -/
def rStrO (C : Addr) (sp : Sp) (E : XK) : List V → Hp → VK → Prop := fun xs H Q => ∃ a dx fs, xs = [.ref a] ∧ H a = some (.ins C dx fs) ∧ sp [.ref a] H (fun v H' => ∃ x, v = .str x ∧ Q v H') E
theorem call_strO (c : OwnStrC X.K C g) (F : FnR X.prog X.w X.K X.mg X.base CX k g sp) (hr : Room (k + 2) X.A) (hx : Passes CX X E) : CallR X (.type "str") (rStrO C sp E) := by
  intro pins s σ H xs us Q I r h
  obtain ⟨a, dx, fs, rfl, ha, q⟩ := h
  cases r with
  | cons r1 rs =>
    cases rs
    cases (show _ = Value.ref a from r1)
    obtain ⟨ox, od, J, _⟩ := StX.insC_at I (.inr ⟨dx, fs, ha⟩)
    refine kso_call hr.in1.in1.units0 I.kIn J c.st c.fn ?_
    refine wpAny_mono (wpAny_call (SlX.run_at (us := [.ref a]) (ws := [.ref a]) F hr.in1.in1 I.env0.in1.in1 hx I (.cons rfl .nil) q)) (fun w s' z => ?_) fun _ _ x => x
    obtain ⟨z', H', I', rz, x, rfl, qz⟩ := z
    obtain ⟨t, rfl⟩ := rz
    exact ⟨.str x, H', I', ⟨_, rfl⟩, qz⟩
end
end L2
namespace Dv
open PySem L2
section
variable {X : Cx} {W : WX} {xw : XW} {K : PySem.W.Frag} {pos : Pos} {Ct : Ctr} {Cl g : Addr} {fd : FuncData} {ps : List Str} {k : Nat}
def gStrO (Ct : Ctr) (Cl : Addr) : List Sl → DK → Prop := fun ss k => match ss with
  | [.d (.obj C fs)] => C = Cl ∧ Ct.f [.d (.obj C fs)] (fun u => ∃ x, u = .d (.str x) ∧ k u) fun _ _ => False
  | _ => False
theorem oc_strO (hn : Ct.n = 1) : OC K (rStrO Cl (spB Ct K) E0) (gStrO Ct Cl) := fun c H vs ss k Q eK hi r h q => by
  unfold gStrO at h
  split at h
  · obtain ⟨e0, hf⟩ := h
    subst e0
    have pr := r
    obtain ⟨v, rfl, w, ew, rw⟩ := paired1 r
    cases ew
    cases rw with
    | obj nf hh rf =>
      refine ⟨_, _, _, rfl, hh, c, _, eK, hi, pr, hn.symm, Ct.mono (fun s ks v H' g' r' => ?_) (fun A pp z => z.elim) hf⟩
      obtain ⟨x, rfl, kx⟩ := ks
      exact ⟨x, sl_str r', q v _ H' g' r' kx⟩
  · exact h.elim
theorem pd_strO {e : Expr} {ta : TA} {da : DA} {p : Pos} (cc : OwnStrC X.K Cl g) (F : FnOk X.prog X.w X.K X.mg X.base (L2.CX X.prog X.w) k g fd ps (Ct.sp X.K)) (hr : Room (k + 2) X.A) (hb : Binds X.K fd ps []) (hn : Ct.n = 1) (hm : X.mg "str" = none) (a : PDA X W xw [e] ta da) (hg : Gl X "str" := by rfl)
    (he : starEach [e] X.env = (false, eval e X.env) :: starEach [] X.env := by rfl) (hpl : (backTo pos (starEach [] X.env)).any (·.1) = false := by rfl) :
    PD X W xw (.Call (.Name "str" p) [e] [] pos) (tCB (rStrO Cl (spB Ct X.K) E0) ta) (dCB (gStrO Ct Cl) da) :=
  pd_callTy (call_strO cc (F.raw hb .nil) hr passL) (oc_strO hn) hm (by decide +kernel) a hg (he := he) (hpl := hpl)
/-! ### methods of texts with one argument -/
def dM1 (gg : Str → Sl → DK → Prop) (a b : DE) : DE := fun Γ k => a Γ fun s => match s with
  | .d (.str z) => b Γ fun t => gg z t k
  | _ => False
/-- what a method of a text promises, over data -/
def OM (K : PySem.W.Frag) (r : V → List V → Hp → VK → Prop) (gg : Str → Sl → DK → Prop) : Prop := ∀ (c : Cfg) (H : Hp) (z : Str) (y : V) (t : Sl) (k : DK) (Q : VK), c.K = K → c.I H → SlOk c H (some y) t → gg z t k → (∀ v s H2, Go c H H2 → SlOk c H2 (some v) s → k s → Q v H2) → r (.str z) [y] H Q
theorem li_m1 {r : V → List V → Hp → VK → Prop} {gg : Str → Sl → DK → Prop} {to te : TE} {do_ de : DE} (hg : OM K r gg) (x : Li K W xw to do_) (y : Li K W xw te de) : Li K W xw (tM1 r to te) (dM1 gg do_ de) := fun c eK hW Γ k hk σ H st Q q =>
  x c eK hW Γ _ hk σ H st _ fun v s H1 g1 r1 h1 => by
    try dsimp only at h1
    split at h1
    · have e := sl_str r1
      subst e
      refine ⟨⟨_, rfl⟩, y c eK hW Γ _ h1 σ H1 (st.go g1) _ fun u t H2 g2 r2 h2 => ?_⟩
      exact hg c H2 _ u t k Q eK g2.inv r2 h2 fun w s' H3 g3 r3 k3 => q w s' H3 ((g1.trans g2).trans g3) r3 k3
    · exact h1.elim
def gPart : Str → Sl → DK → Prop := fun z t k => match t with
  | .d (.str b) => (b.length == 0) = false ∧ z.length ≤ 100000 ∧ k (.d (.tup [.str (Txt.partition z b).1, .str (Txt.partition z b).2.1, .str (Txt.partition z b).2.2]))
  | _ => False
theorem om_part : OM K (fun x xs H Q => ∃ a b, x = .str a ∧ xs = [.str b] ∧ (b.length == 0) = false ∧ a.length ≤ sizeLine ∧
    ∀ p, H p = none → Q (.ref p) (upd H p (.tup [.str (Txt.partition a b).1, .str (Txt.partition a b).2.1, .str (Txt.partition a b).2.2]))) gPart := fun c H z y t k Q eK hi r h q => by
  unfold gPart at h
  split at h
  · have e := sl_str r
    subst e
    refine ⟨_, _, rfl, rfl, h.1, sz h.2.1, fun p np => q _ (.d (.tup _)) _ (Go.new hi np) ⟨_, rfl, ?_⟩ h.2.2⟩
    exact .tup (.inl ⟨fun z => c.live hi z np, .inl upd_same⟩) (.cons (.str _) (.cons (.str _) (.cons (.str _) .nil)))
  · exact h.elim
theorem pd_part {o e : Expr} {to te : TE} {do_ de : DE} {apos : Pos} (ho : PD X W xw o to do_) (he : PD X W xw e te de) (hs : starEach [e] X.env = [(false, eval e X.env)] := by rfl) (hbase : attributeBase o "partition" X.env (eval o X.env) = eval o X.env := by rfl) (hline : (apos.endLine == pos.line) = true := by rfl) :
    PD X W xw (.Call (.Attribute o "partition" apos) [e] [] pos) (tM1 (fun x xs H Q => ∃ a b, x = .str a ∧ xs = [.str b] ∧ (b.length == 0) = false ∧ a.length ≤ sizeLine ∧
      ∀ p, H p = none → Q (.ref p) (upd H p (.tup [.str (Txt.partition a b).1, .str (Txt.partition a b).2.1, .str (Txt.partition a b).2.2]))) to te) (dM1 gPart do_ de) := ⟨fun tk => pe_partition (ho.pe tk) (he.pe tk) hs hbase hline, li_m1 om_part ho.li he.li⟩
def unS : List D → Option (List Str)
  | [] => some []
  | .str x :: r => (unS r).map (x :: ·)
  | _ :: _ => none
theorem unS_ok {c : Cfg} {H : Hp} : ∀ {vs : List V} {ds : List D} {ys : List Str}, RpAll c H vs ds → unS ds = some ys → vs = ys.map V.str
  | _, _, _, .nil, e => by
    cases e
    rfl
  | _, d :: ds, _, .cons r t, e => by
    cases d with
    | str x =>
      unfold unS at e
      obtain ⟨es, e1, e2⟩ := Option.map_eq_some_iff.mp e
      subst e2
      rw [unS_ok t e1]
      cases r
      rfl
    | _ => cases e
def gJoin : Str → Sl → DK → Prop := fun z t k => match t with
  | .d (.lst xs) => (match unS xs with
    | some ys => (ys.map (·.length)).sum + ys.length * z.length ≤ 16777216 ∧ k (.d (.str (Txt.join z ys)))
    | none => False)
  | _ => False
theorem om_join : OM K (fun x xs H Q => ∃ a p, ∃ ys : List Str, x = .str a ∧ xs = [.ref p] ∧ (SqL K H p (ys.map V.str) ∨ SqT K H p (ys.map V.str)) ∧
    (ys.map (·.length)).sum + ys.length * a.length ≤ 16777216 ∧ Q (.str (Txt.join a ys)) H) gJoin := fun c H z y t k Q eK hi r h q => by
  unfold gJoin at h
  split at h
  · split at h
    · rename_i e
      obtain ⟨w, ew, rr⟩ := r
      cases ew
      cases rr with
      | lst nf hh ra =>
        have ev := unS_ok ra e
        subst ev
        exact ⟨_, _, _, rfl, rfl, .inl (.inl (.inl hh)), h.1, q _ (.d (.str _)) H (Go.self hi) ⟨_, rfl, .str _⟩ h.2⟩
    · exact h.elim
  · exact h.elim
theorem pd_join {o e : Expr} {to te : TE} {do_ de : DE} {apos : Pos} (ho : PD X W xw o to do_) (he : PD X W xw e te de) (hs : starEach [e] X.env = [(false, eval e X.env)] := by rfl) (hbase : attributeBase o "join" X.env (eval o X.env) = eval o X.env := by rfl) (hline : (apos.endLine == pos.line) = true := by rfl) :
    PD X W xw (.Call (.Attribute o "join" apos) [e] [] pos) (tM1 (fun x xs H Q => ∃ a p, ∃ ys : List Str, x = .str a ∧ xs = [.ref p] ∧ (SqL X.K H p (ys.map V.str) ∨ SqT X.K H p (ys.map V.str)) ∧
      (ys.map (·.length)).sum + ys.length * a.length ≤ 16777216 ∧ Q (.str (Txt.join a ys)) H) to te) (dM1 gJoin do_ de) := ⟨fun tk => pe_join (ho.pe tk) (he.pe tk) hs hbase hline, li_m1 om_join ho.li he.li⟩
/-! ### c in s, one sign -/
def gInS (f : Bool → Bool) : Sl → Sl → DK → Prop := fun s t k => match s, t with
  | .d (.str x), .d (.str z) => ∃ c : Nat, x = ⟨#[c]⟩ ∧ k (.d (.bl (f (decide (c ∈ z.cps.toList)))))
  | _, _ => False
theorem o2_inS {f : Bool → Bool} : O2 K (fun x y H Q => ∃ (c : Nat) (z : Str), x = .str ⟨#[c]⟩ ∧ y = .str z ∧ Q (.bl (f (decide (c ∈ z.cps.toList)))) H) (gInS f) := fun c H x y s t k Q eK hi rs rt h q => by
  unfold gInS at h
  split at h
  · obtain ⟨n, e, hk⟩ := h
    subst e
    have e1 := sl_str rs
    have e2 := sl_str rt
    subst e1 e2
    exact ⟨n, _, rfl, rfl, q _ (.d (.bl _)) H (Go.self hi) ⟨_, rfl, .bl _⟩ hk⟩
  · exact h.elim
section
variable {a b : Expr} {ta tb : TE} {da db : DE}
theorem pdt_inS (x : PD X W xw a ta da) (y : PD X W xw b tb db) (hm : lastMarks [.In] [b] = false := by with_unfolding_all rfl) : PDT X W xw (.Compare a [.In] [b] pos) (tTest (tOp (fun x y H Q => ∃ (c : Nat) (z : Str), x = .str ⟨#[c]⟩ ∧ y = .str z ∧ Q (.bl (decide (c ∈ z.cps.toList))) H) ta tb)) (dB (dOp (gInS fun c => c) da db)) := pdt_cmp op_in_sign (o2_inS (f := fun c => c)) x y hm
theorem pdt_notInS (x : PD X W xw a ta da) (y : PD X W xw b tb db) (hm : lastMarks [.NotIn] [b] = false := by with_unfolding_all rfl) : PDT X W xw (.Compare a [.NotIn] [b] pos) (tTest (tOp (fun x y H Q => ∃ (c : Nat) (z : Str), x = .str ⟨#[c]⟩ ∧ y = .str z ∧ Q (.bl (!decide (c ∈ z.cps.toList))) H) ta tb)) (dB (dOp (gInS fun c => !c) da db)) := pdt_cmp op_notIn_sign (o2_inS (f := fun c => !c)) x y hm
theorem pd_inS (x : PD X W xw a ta da) (y : PD X W xw b tb db) (hm : lastMarks [.In] [b] = false := by with_unfolding_all rfl) : PD X W xw (.Compare a [.In] [b] pos) (tOp (fun x y H Q => ∃ (c : Nat) (z : Str), x = .str ⟨#[c]⟩ ∧ y = .str z ∧ Q (.bl (decide (c ∈ z.cps.toList))) H) ta tb) (dOp (gInS fun c => c) da db) := ⟨fun tk => pe_cmpR op_in_sign (x.pe tk) (y.pe tk) hm, li_op (o2_inS (f := fun c => c)) x.li y.li⟩
end
/-! ### int(x), x an int, a truth or a text -/
def gIntA : List Sl → DK → Prop := fun ss k => match ss with
  | [.d (.str x)] => ∃ n, PySem.intText? x = some n ∧ x.length ≤ 640 ∧ k (.d (.int n))
  | ss => gInt ss k
theorem oc_intA {r : List V → Hp → VK → Prop} (o : OC K r gInt) : OC K (fun xs H Q => (∃ a n, xs = [V.str a] ∧ PySem.intText? a = some n ∧ a.length ≤ 640 ∧ Q (.int n) H) ∨ r xs H Q) gIntA := fun c H vs ss k Q eK hi rr h q => by
  unfold gIntA at h
  split at h
  · obtain ⟨n, h1, h2, h3⟩ := h
    obtain ⟨v, rfl, r1⟩ := paired1 rr
    have e := sl_str r1
    subst e
    exact .inl ⟨_, n, rfl, h1, h2, q _ (.d (.int n)) H (Go.self hi) ⟨_, rfl, .int _⟩ h3⟩
  · exact .inr (o c H vs _ k Q eK hi rr h q)
/-! ### C(k = ..) -/
structure PDK (X : Cx) (W : WX) (xw : XW) (es : List Keyword) (ta : TA) (da : DA) : Prop where
  pk : Takes X W → PK X es ta
  li : LiA X.K W xw ta da
theorem pdk_nil : PDK X W xw [] tNil dNil := ⟨fun _ => pk_nil, pda_nil.li⟩
theorem pdk_cons {e : Expr} {es : List Keyword} {t : TE} {ts : TA} {d : DE} {ds : DA} {nm : Option Str} {kp : Pos} (a : PD X W xw e t d) (r : PDK X W xw es ts ds) : PDK X W xw (⟨nm, e, kp⟩ :: es) (tCons t ts) (dCons d ds) := ⟨fun tk => pk_cons (a.pe tk) (r.pk tk), fun c eK hW Γ k h σ H st Q q => a.li c eK hW Γ _ h σ H st _ fun v s H1 g1 r1 h1 => r.li c eK hW Γ _ h1 σ H1 (st.go g1) _ fun vs ss H2 g2 r2 h2 => q (v :: vs) (s :: ss) H2 (g1.trans g2) (.cons (r1.go g2.keep) r2) h2⟩
def dNewK (CI : CtrI) (Cl : Addr) (a : DA) : DE := fun Γ k => a Γ fun ss => ss.length = CI.n ∧ CI.f ss (fun fs => k (.d (.obj Cl fs))) fun _ _ => False
theorem pd_newK {CI : CtrI} {f : Addr} {ks : List Str} {gg : List Value → List Value → List Value} {x : Str} {p : Pos} {kws : List Keyword} {ta : TA} {da : DA} (M : Mk X.K Cl f) (F : FnOk X.prog X.w X.K X.mg X.base (L2.CX X.prog X.w) k f fd ps (CI.sp X.K Cl)) (hr : Room (k + 1) X.A) (hm : X.mg x = some (.ref Cl)) (hb : KBn X.K fd ps 1 ks gg (fun vs zs => vs ++ zs)) (hl : ks.length = CI.n) (a : PDK X W xw kws ta da) (hg : Gl X x := by rfl)
    (hall : (backToKw pos (keywordEach kws X.env)).all (·.1.isSome) = true := by rfl) (hks : (backToKw pos (keywordEach kws X.env)).filterMap (·.1) = ks := by rfl) (hdb : (x == ("__debug__" : Str)) = false := by decide)
    (hpl : ((backTo pos (starEach [] X.env)).any (·.1) || (backToKw pos (keywordEach kws X.env)).any (·.1.isNone)) = false := by rfl) :
    PD X W xw (.Call (.Name x p) [] kws pos) (tMakeK Cl 0 ks.length (CI.sp X.K Cl) (fun vs zs => vs ++ zs) E0 tNil ta) (dNewK CI Cl da) :=
  ⟨fun tk => pe_makeK0 M F hr hg hm hb passL (a.pk tk) hall hks hdb hpl, fun c eK hW Γ k hk σ H st Q q => a.li c eK hW Γ _ hk σ H st _ fun vs ss H1 g r h => ⟨rfl, (paired_len r).trans (h.1.trans hl.symm), fun y dx ny nd ne =>
    ⟨c, ss, y, dx, H1, vs, eK, g.inv, rfl, ny, nd, ne, rfl, r, h.1, CI.mono (fun fs ks H' g' r' => ⟨rfl, q _ (.d (.obj Cl fs)) H' (g.trans g') ⟨_, rfl, r'⟩ ks⟩) (fun A pp z => z.elim) h.2⟩⟩⟩
end
/-- a method with one default, by keywords alone -/
theorem met_kw {K : PySem.W.Frag} {x qual : Str} {st : Stmt} {ps ks : List Str} {i : Int} {f T : Addr} {oc ot : Value} {od an ot2 : Option Addr} {osl tsl : Array (Option Value)} {kV doc pm cdv ct u : Value} {m : Nat} (l : K.lookup f = some ⟨oc, od, .func (PySem.W.fnOf x qual (defArgs st) (defBody st) (defScope st) (.ref T) kV doc pm an cdv ct), osl⟩)
    (c : PySem.W.codeIn K cdv qual = true) (k : PySem.W.keepIn K (.ref f) = true) (lT : K.lookup T = some ⟨ot, ot2, .seq #[u] m, tsl⟩) (ru : RelV (.int i) u)
    (h : ∀ (T : Addr) (kV doc pm : Value) (an : Option Addr) (cdv ct : Value) (us its ws : List Value), us.length = 1 → its.length = 1 → ws.length = ks.length →
      ∃ k, bindArgs (PySem.W.fnOf x qual (defArgs st) (defBody st) (defScope st) (.ref T) kV doc pm an cdv ct) ⟨us, ks.zip ws⟩ = seqItems? (.ref T) >>= k ∧ k (some its.toArray) = pure (ps.zip (us ++ ws))) :
    KBn K (PySem.W.fnOf x qual (defArgs st) (defBody st) (defScope st) (.ref T) kV doc pm an cdv ct) ps 1 ks (fun us ws => us ++ ws) (fun vs zs => vs ++ zs) := by
  have F : L2.FunD K x qual (defArgs st) (defBody st) (defScope st) [V.int i] [] f (PySem.W.fnOf x qual (defArgs st) (defBody st) (defScope st) (.ref T) kV doc pm an cdv ct) :=
    ⟨⟨_, _, _, _, _, _, _, _, _, _, rfl, l, c, .inr ⟨by simp, T, _, [u], m, rfl, lT, rfl, .cons ru .nil⟩, .inl rfl⟩, k⟩
  obtain ⟨its, z⟩ := F.kbindsD (ps := ps) 1 ks (fun us _ ws => us ++ ws) (by simp) (fun r1 _ r3 => r1.append r3) h
  exact z
end Dv
set_option Elab.async false
set_option linter.all false
set_option maxRecDepth 100000
set_option maxHeartbeats 4000000
/-! Tn: texts of whole numbers: read back. -/
namespace TX
open PySem PySem.NumText TL L2
abbrev tx (i : Int) : Str := Str.ofString (toString i)
theorem tl_nat (n : Nat) : tl (tx (Int.ofNat n)) = numL n := tl_num n
theorem tl_neg (m : Nat) : tl (tx (Int.negSucc m)) = 45 :: numL (m + 1) := by
  show tl (Str.ofString (toString (Int.negSucc m))) = _
  rw [text_neg]
  rfl
theorem tl_inj {x y : Str} (h : tl x = tl y) : x = y := by
  have e : x.cps = y.cps := Array.toList_inj.mp h
  cases x
  cases y
  cases e
  rfl
/-- a sign and digits -/
theorem seen_all {x : Str} (h : ∀ c ∈ x.cps.toList, 33 ≤ c ∧ c < 128) : numTextOf x = x.cps.toList ∧ numSeenOf x = x.cps.toList := by
  have e1 : numTextOf x = x.cps.toList := by
    refine if_pos ?_
    rw [← Array.all_toList, List.all_eq_true]
    exact fun c hc => decide_eq_true (h c hc).2
  refine ⟨e1, ?_⟩
  show (numTextOf x).takeWhile _ = _
  rw [e1]
  exact takeWhile_all fun c hc => bne_iff_ne.mpr (by have := h c hc; omega)
theorem int_sign {x : Str} {cs : List Nat} (hx : x.cps.toList = 43 :: cs) (h : AllDigits cs) (h1 : cs ≠ []) (h2 : x.length ≤ 4300) : intText? x = some ((digitsVal cs : Nat) : Int) := by
  have hs : ∀ c ∈ x.cps.toList, 33 ≤ c ∧ c < 128 := by
    rw [hx]
    intro c hc
    rcases List.mem_cons.mp hc with e | hc
    · omega
    · have := h c hc
      omega
  obtain ⟨e1, e2⟩ := seen_all hs
  have hl : x.cps.toList.length = x.length := Array.length_toList
  unfold intText?
  rw [e1, e2, if_pos (beq_self_eq_true _), hx]
  rw [hx, List.length_cons] at hl
  have es : sign ((43 :: cs).dropWhile blank) = (false, cs) := by rw [dropWhile_of (by decide)]; rfl
  have ec : core (43 :: cs) = cs := by
    unfold core
    rw [es]
    show (cs.reverse.dropWhile blank).reverse = cs
    rw [dropWhile_digits h.reverse, List.reverse_reverse]
  rw [ec, es, digits_of h h1]
  have hsz := push_size cs #[]
  have hv := push_foldl cs #[]
  show (if _ ≤ 4300 then some (worth false _) else none) = _
  rw [if_pos (by rw [hsz]; simp only [Array.size_empty]; omega)]
  unfold worth digitsVal
  rw [hv]
  rfl
theorem numL_600 {n : Nat} (h : n < 10 ^ 600) : (numL n).length ≤ 600 := numL_len (by decide) h
theorem len_tx {i : Int} (h : i.natAbs < 10 ^ 600) : (tx i).length ≤ 601 := by
  cases i with
  | ofNat n =>
    rw [len_tl, tl_nat]
    exact Nat.le_trans (numL_600 h) (by decide)
  | negSucc m =>
    rw [len_tl, tl_neg, List.length_cons]
    exact Nat.succ_le_succ (numL_600 h)
theorem int_tx {i : Int} (h : i.natAbs < 10 ^ 600) : intText? (tx i) = some i := by
  cases i with
  | ofNat n => exact int_num (Nat.le_trans (numL_600 h) (by decide))
  | negSucc m =>
    have e := intText_neg (x := tx (Int.negSucc m)) (tl_neg m) (numL_digits _) (numL_ne _) (Nat.le_trans (len_tx h) (by decide))
    rw [e, numL_val]
    rfl
theorem tl_plus (i : Int) : tl (plus i) = if i < 0 then tl (tx i) else 43 :: tl (tx i) := by
  unfold plus
  split
  · rfl
  · rw [tl_append]
    rfl
theorem len_plus {i : Int} (h : i.natAbs < 10 ^ 600) : (plus i).length ≤ 602 := by
  rw [len_tl, tl_plus]
  have z := len_tx h
  rw [len_tl] at z
  split
  · omega
  · rw [List.length_cons]
    omega
theorem int_plus {i : Int} (h : i.natAbs < 10 ^ 600) : intText? (plus i) = some i := by
  cases i with
  | negSucc m =>
    have e : plus (Int.negSucc m) = tx (Int.negSucc m) := by
      unfold plus
      rw [if_pos (Int.negSucc_lt_zero m)]
    rw [e]
    exact int_tx h
  | ofNat n =>
    have e : tl (plus (Int.ofNat n)) = 43 :: numL n := by
      rw [tl_plus, if_neg (show ¬ Int.ofNat n < 0 from Int.not_lt.mpr (Int.natCast_nonneg n)), tl_nat]
    rw [int_sign (x := plus (Int.ofNat n)) e (numL_digits _) (numL_ne _) (Nat.le_trans (len_plus h) (by decide)), numL_val]
    rfl
theorem m_tx (i : Int) : 109 ∉ tl (tx i) := by
  cases i with
  | ofNat n =>
    rw [tl_nat]
    exact numL_free (by decide)
  | negSucc m =>
    rw [tl_neg]
    intro h
    rcases List.mem_cons.mp h with e | h
    · cases e
    · exact numL_free (by decide) h
theorem m_plus (i : Int) : 109 ∉ tl (plus i) := by
  rw [tl_plus]
  split
  · exact m_tx i
  · intro h
    rcases List.mem_cons.mp h with e | h
    · cases e
    · exact m_tx i h
theorem tx_ne (i : Int) : tl (tx i) ≠ [] ∧ tl (tx i) ≠ [45] := by
  cases i with
  | ofNat n =>
    rw [tl_nat]
    refine ⟨numL_ne n, fun e => ?_⟩
    have := numL_digits n 45 (by rw [e]; simp)
    omega
  | negSucc m =>
    rw [tl_neg]
    refine ⟨by simp, fun e => ?_⟩
    injection e with _ e
    exact numL_ne _ e
theorem plus_ne (i : Int) : tl (plus i) ≠ [] := by
  rw [tl_plus]
  split
  · exact (tx_ne i).1
  · simp
/-! ### the text of a line -/
def hd (j : Int) : Str := if j = 1 then "m" else if j = -1 then "-m" else tx j ++ "m"
def ltext (i j : Int) : Str := if j = 0 then tx i else if i = 0 then hd j else hd j ++ plus i
theorem tl_m : tl ("m" : Str) = [109] := by decide +kernel
theorem tl_mm : tl ("-m" : Str) = [45, 109] := by decide +kernel
theorem tl_minus : tl ("-" : Str) = [45] := by decide +kernel
theorem tl_e : tl Str.empty = [] := rfl
/-- head and tail of a text -/
def HdOk (h : Str) (j : Int) : Prop := (h = Str.empty ∧ j = 1) ∨ (h = "-" ∧ j = -1) ∨ (h = tx j ∧ j ≠ 1 ∧ j ≠ -1)
def TlOk (t : Str) (i : Int) : Prop := (t = Str.empty ∧ i = 0) ∨ (t = plus i ∧ i ≠ 0)
theorem hd_form (j : Int) : ∃ h, hd j = h ++ "m" ∧ 109 ∉ tl h ∧ HdOk h j := by
  unfold hd
  split
  · exact ⟨Str.empty, (Str.empty_append _).symm, by simp [tl_e], .inl ⟨rfl, by assumption⟩⟩
  · split
    · refine ⟨"-", tl_inj (by rw [tl_append, tl_mm, tl_minus, tl_m]; rfl), by rw [tl_minus]; decide, .inr (.inl ⟨rfl, by assumption⟩)⟩
    · exact ⟨tx j, rfl, m_tx j, .inr (.inr ⟨rfl, by assumption, by assumption⟩)⟩
theorem ltext_form {i j : Int} (hj : j ≠ 0) : ∃ h t, ltext i j = h ++ "m" ++ t ∧ 109 ∉ tl h ∧ HdOk h j ∧ TlOk t i := by
  obtain ⟨h, e, m, o⟩ := hd_form j
  unfold ltext
  rw [if_neg hj, e]
  by_cases z : i = 0
  · rw [if_pos z]
    exact ⟨h, Str.empty, (Str.append_empty _).symm, m, o, .inl ⟨rfl, z⟩⟩
  · rw [if_neg z]
    exact ⟨h, plus i, rfl, m, o, .inr ⟨rfl, z⟩⟩
theorem ltext_part {h t : Str} (m : 109 ∉ tl h) : Txt.partition (h ++ "m" ++ t) "m" = (h, ("m" : Str), t) := partition_app (S := []) tl_m m
theorem ltext_m {i j : Int} : 109 ∈ tl (ltext i j) ↔ j ≠ 0 := by
  by_cases hj : j = 0
  · subst hj
    have e : ltext i 0 = tx i := if_pos rfl
    rw [e]
    exact ⟨fun h => (m_tx i h).elim, fun h => (h rfl).elim⟩
  · obtain ⟨h, t, e, _⟩ := ltext_form (i := i) hj
    rw [e]
    refine ⟨fun _ => hj, fun _ => ?_⟩
    rw [tl_append, tl_append, tl_m]
    simp
theorem hd_inj {h : Str} {j j' : Int} (b : j.natAbs < 10 ^ 600) (b' : j'.natAbs < 10 ^ 600) (o : HdOk h j) (o' : HdOk h j') : j = j' := by
  have em : tl ("-" : Str) = [45] := tl_minus
  rcases o with ⟨e, v⟩ | ⟨e, v⟩ | ⟨e, v⟩ <;> rcases o' with ⟨e', v'⟩ | ⟨e', v'⟩ | ⟨e', v'⟩
  · rw [v, v']
  · rw [e] at e'
    have z := congrArg tl e'
    rw [em] at z
    cases z
  · rw [e] at e'
    exact ((tx_ne j').1 (congrArg tl e').symm).elim
  · rw [e] at e'
    have z := congrArg tl e'
    rw [em] at z
    cases z
  · rw [v, v']
  · rw [e] at e'
    have z := congrArg tl e'
    rw [em] at z
    exact ((tx_ne j').2 z.symm).elim
  · rw [e'] at e
    exact ((tx_ne j).1 (congrArg tl e).symm).elim
  · rw [e'] at e
    have z := congrArg tl e
    rw [em] at z
    exact ((tx_ne j).2 z.symm).elim
  · rw [e] at e'
    have z := congrArg intText? e'
    rw [int_tx b, int_tx b'] at z
    exact Option.some.inj z
theorem tl_inj2 {t : Str} {i i' : Int} (b : i.natAbs < 10 ^ 600) (b' : i'.natAbs < 10 ^ 600) (o : TlOk t i) (o' : TlOk t i') : i = i' := by
  rcases o with ⟨e, v⟩ | ⟨e, v⟩ <;> rcases o' with ⟨e', v'⟩ | ⟨e', v'⟩
  · rw [v, v']
  · rw [e] at e'
    exact (plus_ne i' (congrArg tl e').symm).elim
  · rw [e'] at e
    exact (plus_ne i (congrArg tl e).symm).elim
  · rw [e] at e'
    have z := congrArg intText? e'
    rw [int_plus b, int_plus b'] at z
    exact Option.some.inj z
theorem ltext_inj {i j i' j' : Int} (a : i.natAbs < 10 ^ 600) (b : j.natAbs < 10 ^ 600) (a' : i'.natAbs < 10 ^ 600) (b' : j'.natAbs < 10 ^ 600) (h : ltext i j = ltext i' j') : i = i' ∧ j = j' := by
  by_cases hj : j = 0
  · have hj' : j' = 0 := by
      by_cases z : j' = 0
      · exact z
      · have q : 109 ∈ tl (ltext i' j') := ltext_m.mpr z
        rw [← h] at q
        exact (ltext_m.mp q hj).elim
    subst hj hj'
    have e : ltext i 0 = tx i := if_pos rfl
    have e' : ltext i' 0 = tx i' := if_pos rfl
    rw [e, e'] at h
    have z := congrArg intText? h
    rw [int_tx a, int_tx a'] at z
    exact ⟨Option.some.inj z, rfl⟩
  · have hj' : j' ≠ 0 := by
      have q : 109 ∈ tl (ltext i j) := ltext_m.mpr hj
      rw [h] at q
      exact ltext_m.mp q
    obtain ⟨hh, t, e, m, o, p⟩ := ltext_form (i := i) hj
    obtain ⟨hh', t', e', m', o', p'⟩ := ltext_form (i := i') hj'
    rw [e, e'] at h
    have z : Txt.partition (hh ++ "m" ++ t) "m" = Txt.partition (hh' ++ "m" ++ t') "m" := by rw [h]
    rw [ltext_part m, ltext_part m'] at z
    injection z with z1 z2
    injection z2 with _ z2
    subst z1 z2
    exact ⟨tl_inj2 a a' p p', hd_inj b b' o o'⟩
theorem len_hd {j : Int} (b : j.natAbs < 10 ^ 600) : (hd j).length ≤ 602 := by
  unfold hd
  split
  · decide
  · split
    · decide
    · rw [Str.length_append]
      exact Nat.add_le_add (len_tx b) (show ("m" : Str).length ≤ 1 by decide)
theorem len_lt {i j : Int} (a : i.natAbs < 10 ^ 600) (b : j.natAbs < 10 ^ 600) : (ltext i j).length ≤ 1204 := by
  unfold ltext
  split
  · exact Nat.le_trans (len_tx a) (by decide)
  · split
    · exact Nat.le_trans (len_hd b) (by decide)
    · rw [Str.length_append]
      exact Nat.add_le_add (len_hd b) (len_plus a)
/-! ### signs below 128 -/
def low (x : Str) : Prop := ∀ c ∈ tl x, c < 128
theorem low_app {x y : Str} (h : low x) (h' : low y) : low (x ++ y) := by
  intro c hc
  rw [tl_append] at hc
  rcases List.mem_append.mp hc with z | z
  · exact h c z
  · exact h' c z
theorem low_numL {n : Nat} : ∀ c ∈ numL n, c < 128 := fun c hc => by
  have := numL_digits n c hc
  omega
theorem low_tx (i : Int) : low (tx i) := by
  intro c hc
  cases i with
  | ofNat n =>
    rw [tl_nat] at hc
    exact low_numL c hc
  | negSucc m =>
    rw [tl_neg] at hc
    rcases List.mem_cons.mp hc with e | hc
    · omega
    · exact low_numL c hc
theorem low_plus (i : Int) : low (plus i) := by
  intro c hc
  rw [tl_plus] at hc
  split at hc
  · exact low_tx i c hc
  · rcases List.mem_cons.mp hc with e | hc
    · omega
    · exact low_tx i c hc
theorem low_m : low "m" := by
  intro c hc
  rw [tl_m] at hc
  simp at hc
  omega
theorem low_hd (j : Int) : low (hd j) := by
  unfold hd
  split
  · exact low_m
  · split
    · intro c hc
      rw [tl_mm] at hc
      simp at hc
      omega
    · exact low_app (low_tx j) low_m
theorem low_lt (i j : Int) : low (ltext i j) := by
  unfold ltext
  split
  · exact low_tx i
  · split
    · exact low_hd j
    · exact low_app (low_hd j) (low_plus i)
theorem ok_low {x : Str} (h : low x) : Dv.okD (.str x) = true := by
  have e : PyData.strOk x = true := by
    unfold PyData.strOk
    rw [← Array.all_toList, List.all_eq_true]
    exact fun c hc => decide_eq_true (Nat.lt_trans (h c hc) (by decide))
  simp [Dv.okD, Dv.toPy, SeqAt.shaped, PyData.canLay0, PyData.depth, e]
theorem deq_str (x y : Str) : Dv.deq (.str x) (.str y) = decide (x = y) := by
  show PyData.eqv (.str x) (.str y) = _
  rw [PyData.eqv]
  by_cases h : x = y <;> simp [h]
end TX
set_option Elab.async false
set_option linter.all false
set_option maxRecDepth 100000
set_option maxHeartbeats 4000000
/-! Dw: lists of one's own: x = [], x.append(e), x.extend(e). -/
namespace Dv
open PySem L2
def fzX (k : Nat) (xw : XW) : XW := fun A p Γ => xw A p (fz k Γ)
section
variable {X : Cx} {W : WX} {xw : XW} {K : PySem.W.Frag} {pos : Pos}
theorem WOk.mine {c : Cfg} {k : Nat} {a : Addr} {ha : ¬ c.F a} (h : WOk c W xw) : WOk (c.mine k a ha) W (fzX k xw) := fun σ H Γ C d p st x z => h σ H (fz k Γ) C d p st.fz (XOk.to (c := c.mine k a ha) (c' := c) rfl (fun _ z => .inl z) Kp.self x) z
/-- the ends of a block that owns one list more -/
def ownE (k : Nat) (D : DEnds) : DEnds := { nx := fun Γ => D.nx (fz k Γ), rt := fun s => D.rt (fzS k s), bk := fun Γ => D.bk (fz k Γ), ct := fun Γ => D.ct (fz k Γ), ro := D.ro }
theorem EndsOk.mine {c : Cfg} {k : Nat} {a : Addr} {ha : ¬ c.F a} {E : Ends} {D : DEnds} (o : EndsOk c E D) : EndsOk (c.mine k a ha) E (ownE k D) :=
  ⟨fun Γ σ H s z => o.nx _ σ H s.fz z, fun v s H i r z => o.rt v _ H (c.mono (fun _ _ e => (rem_sub e).2) i.1) r.fz z, fun Γ σ H s z => o.bk _ σ H s.fz z, fun Γ σ H s z => o.ct _ σ H s.fz z,
    fun v x H i r z => o.ro v x H (c.mono (fun _ _ e => (rem_sub e).2) i.1) (Rp.to (c := (c.mine k a ha).rel) (c' := c.rel) rfl rel_mine Kp.self r) z⟩
theorem mine_new {c : Cfg} {σ : St} {H : Hp} {Γ : Gm} {k i : Nat} {p : Addr} (s : StOk c σ H Γ) (np : H p = none) : ∃ ha : ¬ c.F p, StOk (c.mine k p ha) (σ.set i (some (.ref p))) (upd H p (.lst [])) ((clr k Γ).set i (.own k (.lst []))) := by
  have nP : ¬ c.F p := c.fresh s.inv np
  have s1 := s.mine (k := k) (H' := upd H p (.lst [])) nP np (fun b o e => by rw [upd_ne (ne_of_none e np)]; exact e) ⟨_, upd_same, rfl⟩
  exact ⟨nP, s1.set (i := i) (o := some (.ref p)) (s := .own k (.lst [])) ⟨p, rfl, if_pos rfl, [], upd_same, .nil⟩⟩
def dOwn (i k : Nat) (dr : DS) : DS := fun D Γ => dr (ownE k D) ((clr k Γ).set i (.own k (.lst [])))
theorem pdss_own {i k : Nat} {x : Str} {px lp spos : Pos} {rest : List Stmt} {tr : TS} {dr : DS} (hN : X.N.Nodup) (r : PDSs X W (fzX k xw) rest tr dr) (hi : X.N[i]? = some x := by rfl) (hx : Loc X.env.scope x := by first | exact Or.inl rfl | exact Or.inr rfl)
    (hs : swapsWith (.List [] lp) (some (.Name x px)) spos.line X.env = pure false := by rfl) (hf : X.fn x = true ∨ X.env.scope.names.lookup x = some .local := by first | exact .inl rfl | exact .inr rfl | assumption) :
    PDSs X W xw (.Assign [.Name x px] (.List [] lp) spos :: rest) (tSeq (tAsg (tLst tNil) (gName i)) tr) (dOwn i k dr) :=
  ⟨fun tk => pss_cons (ps_set hN hi hx (pe_lst pa_nil) hs hf) (r.ps tk), fun c eK hW E D o Γ σ H s hd => by
    refine ⟨Nat.zero_le _, fun p np => ?_⟩
    obtain ⟨ha, s2⟩ := mine_new (k := k) (i := i) s np
    exact r.li (c.mine k p ha) eK hW.mine E _ o.mine _ _ _ s2 hd⟩
/-- y, x = e, [] -/
def dOwnR (j i k : Nat) (e : DE) (dr : DS) : DS := fun D Γ => e Γ fun s => match s with
  | .d y => dr (ownE k D) ((clr k (Γ.set j (.d y))).set i (.own k (.lst [])))
  | _ => False
theorem pdss_ownR {i j k : Nat} {x y : Str} {a : Expr} {ta : TE} {da : DE} {px py pt lp pos : Pos} {kt k2 pt2} {rest : List Stmt} {tr : TS} {dr : DS} (h : PD X W xw a ta da) (hc : X.calm = true) (hN : X.N.Nodup) (r : PDSs X W (fzX k xw) rest tr dr) (hj : X.N[j]? = some y := by rfl) (hi : X.N[i]? = some x := by rfl) (hij : j ≠ i := by decide)
    (hy : X.env.scope.names.lookup y = some .local := by rfl) (hx : X.env.scope.names.lookup x = some .local := by rfl) (hst : starEach [a, .List [] lp] X.env = (false, eval a X.env) :: starEach [.List [] lp] X.env := by rfl)
    (hw : swappedStores [.Tuple [.Name y py, .Name x px] kt pt] (.Tuple [a, .List [] lp] k2 pt2) X.env = pure (some [y, x]) := by rfl) (hs : swapsWithSole [.Tuple [.Name y py, .Name x px] kt pt] (.Tuple [a, .List [] lp] k2 pt2) pos.line X.env = pure false := by rfl) :
    PDSs X W xw (.Assign [.Tuple [.Name y py, .Name x px] kt pt] (.Tuple [a, .List [] lp] k2 pt2) pos :: rest) (tSeq (tPar j i (tCons ta (tCons (tLst tNil) tNil))) tr) (dOwnR j i k da dr) :=
  ⟨fun tk => pss_cons (ps_par hc hN hj hi hij hy hx (pa_cons (h.pe tk) (pa_cons (pe_lst pa_nil) pa_nil) hst) hw hs) (r.ps tk), fun c eK hW E D o Γ σ H s hd => h.li c eK hW Γ _ hd σ H s _ fun v s' H1 g rr q => by
    try dsimp only at q
    split at q
    · refine ⟨Nat.zero_le _, fun p np => ⟨_, _, rfl, ?_⟩⟩
      obtain ⟨ha, s2⟩ := mine_new (k := k) (i := i) ((s.go g).set (i := j) rr) np
      exact r.li (c.mine k p ha) eK hW.mine E _ o.mine _ _ _ s2 q
    · exact q.elim⟩
/-- x, y = [], e -/
def dOwnL (i j k : Nat) (e : DE) (dr : DS) : DS := fun D Γ => e Γ fun s => match s with
  | .d y => dr (ownE k D) (((clr k Γ).set i (.own k (.lst []))).set j (.d y))
  | _ => False
/-! ### x.append(e) -/
def dApp (i : Nat) (e : DE) : DS := fun D Γ => match Γ[i]? with
  | some (.own k (.lst xs)) => e Γ fun s => match s with
    | .d y => xs.length < 100000 ∧ D.nx ((clr k Γ).set i (.own k (.lst (xs ++ [y]))))
    | _ => False
  | _ => False
theorem pds_app {i : Nat} {x : Str} {e : Expr} {te : TE} {de : DE} {p apos cpos : Pos} (h : PD X W xw e te de) (hi : X.N[i]? = some x := by rfl) (hv : Vis X.env.scope x := by first | exact Or.inl rfl | exact Or.inr (Or.inl rfl))
    (hd : (x == ("__debug__" : Str)) = false := by decide) (hcd : (x == ("__classdict__" : Str)) = false := by decide)
    (hbase : attributeBase (.Name x p) "append" X.env (eval (.Name x p) X.env) = eval (.Name x p) X.env := by rfl)
    (hfew : ((backTo cpos (starEach [e] X.env)).all (fun x => !x.1) && (backToKw cpos (keywordEach [] X.env)).all (fun x => x.1.isSome)
      && decide ([e].length + ([] : List Keyword).length + (if ([] : List Keyword).isEmpty then 0 else 1) < 30)) = true := by rfl)
    (hline : (apos.endLine == cpos.line) = true := by rfl) (hs : starEach [e] X.env = (false, eval e X.env) :: starEach [] X.env := by rfl) (hplain : (backTo cpos (starEach [] X.env)).any (·.1) = false := by rfl)
    (hsw : swapsWith (.Call (.Attribute (.Name x p) "append" apos) [e] [] cpos) none pos.line X.env = pure false := by rfl) :
    PDS X W xw (.Expr (.Call (.Attribute (.Name x p) "append" apos) [e] [] cpos) pos) (tDrop (tBM X.K "list" rAppend (tVar i) (tCons te tNil))) (dApp i de) :=
  ⟨fun tk => ps_expr (pe_bm PySem.F.plainAttrs_list PySem.F.slot_list_append PySem.F.type_list_append mt_append (pe_var hi hv hd hcd) (pa_cons (h.pe tk) pa_nil hs) hbase hfew hline hs hplain) hsw, fun c eK hW E D o Γ σ H s hdd => by
    unfold dApp at hdd
    split at hdd
    · rename_i k xs eΓ
      obtain ⟨o1, e1⟩ := slot_at s.len eΓ
      obtain ⟨a, ea, wa, vs, ha, ra⟩ := s.at_ i _ _ e1 eΓ
      subst ea
      refine ⟨_, e1, .inl ⟨rfl, vs, .inl (.inl ha)⟩, ?_⟩
      refine h.li c eK hW Γ _ hdd σ H s _ fun v s' H1 g r q => ?_
      try dsimp only at q
      split at q
      · obtain ⟨w, ew, rw⟩ := r
        cases ew
        have s1 := s.go g
        have ha1 : H1 a = some (.lst vs) := g.keep a _ (c.owW wa).2 rfl ha
        have ra1 : RpAll c H1 vs xs := ra.go g.kF
        refine ⟨a, vs, v, rfl, rfl, ha1, by rw [ra.length]; exact Nat.lt_of_lt_of_le q.1 (by decide), ?_⟩
        have kW : Kp c.F H1 (upd H1 a (.lst (vs ++ [v]))) := fun b u nb _ e => by
          rw [upd_ne (fun y => nb (by rw [y]; exact c.WF (c.owW wa).1))]
          exact e
        exact o.nx _ _ _ (s1.put (i := i) (x := .lst _) wa e1 ⟨_, upd_same, RpAll.append (ra1.go kW) (.cons (rw.go kW) .nil)⟩) q.2
      · exact q.elim
    · exact hdd.elim⟩
end
end Dv
set_option Elab.async false
set_option linter.all false
set_option maxRecDepth 100000
set_option maxHeartbeats 4000000
/-! Et: for i, x in enumerate(t), t a tuple or a list; for c in a text. -/
namespace PySem
open Sem (wp)
open AutoSeq1 (wpAny_loadPart')
theorem meets_enumerate_newT (l : Addr) (items : Array Value) (n : Nat) (dct : Option Addr) (sl : Array (Option Value)) :
    Meets (Builtin.«enumerate.__new__» ⟨[.type "enumerate", .ref l], []⟩) (fun _ R s => s.heap.get? l = some { cls := .type "tuple", dict := dct, data := .seq items n, slots := sl } ∧
      R (.ok (.ret (.ref (s.heap.push { cls := .type "tuple_iterator", data := .fields #[.ref l, .int 0 0] }).objs.size)))
        { s with heap := (s.heap.push { cls := .type "tuple_iterator", data := .fields #[.ref l, .int 0 0] }).push { cls := .type "enumerate", data := .fields #[.none, .bool false, .ref s.heap.objs.size, rawInt 0, .none, .none] } }) :=
  .of_wp fun prog w A R s h => by
    obtain ⟨hp, g, d, tk, os⟩ := s
    obtain ⟨hl, h⟩ := h
    have hsub := sub_enumerate
    have hL : Heap.IsTuple (Shared.heap ⟨hp, g, d, tk, os⟩) l items := ⟨_, hl, rfl, n, rfl⟩
    wp_walk using wpAny_loadPart' hl
    refine wpAny_stack_any fun st => wpAny_pure ?_
    split
    · rename_i c _ _ _ _ _
      cases (c == Value.type "enumerate")
      · wp_walk using wpAny_loadPart' hl, wpAny_pyIter_tuple hL
        exact ⟨_, rfl, h⟩
      · wp_walk using wpAny_loadPart' hl, wpAny_pyIter_tuple hL
        exact ⟨_, rfl, h⟩
    · wp_walk using wpAny_loadPart' hl, wpAny_pyIter_tuple hL
      exact ⟨_, rfl, h⟩
section
variable {prog : Program} {w : World} {A : Around} {E : Value → Shared → Prop} {s : Shared}
theorem call_enumerate_tuple {l : Addr} {items : Array Value} {Q : Value → Shared → Prop} (hL : s.heap.IsTuple l items)
    (h : ∀ h', IsEnum h' (s.heap.objs.size + 1) s.heap.objs.size 0 .none → h'.IsTupleIter s.heap.objs.size l 0 → h'.objs.size = s.heap.objs.size + 2 →
      (∀ b o, s.heap.get? b = some o → h'.get? b = some o) → Q (.ref (s.heap.objs.size + 1)) { s with heap := h' }) :
    wpAny (model prog w) A (call (.type "enumerate") [.ref l]) Q E s := by
  obtain ⟨⟨c, dct, dt, sl⟩, hl, hc, n, hd⟩ := hL
  replace hc : c = .type "tuple" := hc
  replace hd : dt = .seq items n := hd
  subst hc hd
  refine callType_new F.called_enumerate (by decide) (F.typeCall_enumerate_1 _) (F.newCall_enumerate_1 _) (fun obj => F.args_object_init_2 obj _) F.entry_enumerate_new
    (meets_enumerate_newT l items n dct sl) ⟨hl, ?_⟩
  have hz : (s.heap.push { cls := .type "tuple_iterator", data := .fields #[.ref l, .int 0 0] }).objs.size = s.heap.objs.size + 1 := Heap.size_push ..
  show _ ∧ _
  rw [hz]
  have he : IsEnum ((s.heap.push { cls := .type "tuple_iterator", data := .fields #[.ref l, .int 0 0] }).push
      { cls := .type "enumerate", data := .fields #[.none, .bool false, .ref s.heap.objs.size, rawInt 0, .none, .none] }) (s.heap.objs.size + 1) s.heap.objs.size 0 .none := by
    have := Heap.get?_push_size (s.heap.push { cls := .type "tuple_iterator", data := .fields #[.ref l, .int 0 0] })
      (o := { cls := .type "enumerate", data := .fields #[.none, .bool false, .ref s.heap.objs.size, rawInt 0, .none, .none] }) rfl
    rw [hz] at this
    exact this
  exact ⟨⟨_, he, rfl⟩, h _ he ⟨_, Heap.get?_push_of_some _ (Heap.get?_push_size _ rfl), rfl, rfl⟩ (by rw [Heap.size_push, hz]) fun b o y => Heap.get?_push_of_some _ (Heap.get?_push_of_some _ y)⟩
end
end PySem
namespace L2
open PySem PySem.Spec PyProof.Rows
/-- the tuple at a, the items in new pairs -/
def IteT (K : PySem.W.Frag) (a : Addr) : It :=
  ⟨fun i H => ∃ (xs : List V) (x : V), SqT K H a xs ∧ xs[i]? = some x, fun i H v H' => ∃ T x, v = .ref T ∧ H T = none ∧ H' = upd H T (.tup [.int (i : Nat), x]) ∧ ∀ xs, SqT K H a xs → xs[i]? = some x, fun i H => ∃ xs : List V, SqT K H a xs ∧ xs.length ≤ i⟩
theorem turn_enumT {P : Program} {w : World} {K : PySem.W.Frag} {elts : List Expr} {kk : Nat} {tpos : Pos} (a e it : Addr) :
    Turn P w K (.Tuple elts kk tpos) (IteT K a) [e, it] e (fun i h => (∃ old, IsEnum h e it ((i : Nat) : Int) old) ∧ h.IsTupleIter it a i ∧ e ≠ it) where
  mem := by simp
  obj := fun i h st b hb => by
    obtain ⟨⟨old, he⟩, ⟨o, ho, hc, hd⟩, _⟩ := st
    have e' : b = e ∨ b = it := by simpa using hb
    rcases e' with z | z
    · rw [z]; exact ⟨_, he, fun v q => nomatch q⟩
    · rw [z]; exact ⟨o, ho, fun v q => by rw [hd] at q; cases q⟩
  keep := fun i h h' st k => let ⟨⟨old, he⟩, hi, hne⟩ := st; ⟨⟨old, k e (by simp) _ he⟩, hi.at fun o q => k it (by simp) o q, hne⟩
  item := by
    intro X hP hw hK hc i pins s σ H E I hf st hg
    subst hP hw hK
    obtain ⟨⟨old, he⟩, hit, hne⟩ := st
    obtain ⟨xs, x, hq, hx⟩ := hg
    obtain ⟨its, rv, p, hz⟩ := I.tuple hq
    obtain ⟨u, hu, ru⟩ := rv.get hx
    have hel : e < s.heap.objs.size := Heap.lt_size he
    have hil : it < s.heap.objs.size := by obtain ⟨_, q, _⟩ := hit; exact Heap.lt_size q
    have hai : a ≠ it := fun z => by
      subst z
      obtain ⟨o, e1, c1, _⟩ := hit
      obtain ⟨o', e2, c2, _⟩ := p
      rw [e1] at e2
      cases e2
      rw [c1] at c2
      exact absurd c2 (by decide)
    have hea : e ≠ a := fun z => by
      subst z
      obtain ⟨o', e2, c2, _⟩ := p
      have e1 : s.heap.get? e = some _ := he
      rw [e1] at e2
      cases e2
      exact absurd (show Value.type "enumerate" = Value.type "tuple" from c2) (by decide)
    have hlt : i < its.toArray.size := by
      have := List.getElem?_eq_some_iff.mp hu
      obtain ⟨l, _⟩ := this
      simpa using l
    refine wpAny_pyNext_enum_itemD (Draws.tuple (A := X.A.in1) (I.ok.hd hc) it a hai its.toArray) he ⟨hit, p⟩ hlt hne (by simp [hne, hea]) fun y h' tk hP ho hst hT hsz hk => ?_
    have hy : y = u := by
      have e1 : its.toArray[i]? = some u := by simpa using hu
      rw [e1] at hP
      exact (Option.some.inj hP).symm
    subst hy
    refine ⟨_, rfl, wpAny_letOwnedTupleGo_enum (s := { s with heap := h', toks := tk + 1 }) ho fun h'' he' sb => ?_⟩
    have hT2 : h''.get? s.heap.objs.size = some { cls := .type "tuple", data := .seq #[.int i tk, y] } := (sb.2 _ (Nat.ne_of_gt hel)).trans hT
    have new : ObjOk X.prog X.w (upd H s.heap.objs.size (.tup [.int (i : Nat), x])) h'' s.heap.objs.size (.tup [.int (i : Nat), x]) :=
      ⟨by show 2 ≤ sizeLine; decide, [.int i tk, y], .cons ⟨_, rfl⟩ (.cons ru .nil), ⟨_, hT2, rfl, _, rfl⟩⟩
    have I1 : Inv X pins σ (upd H s.heap.objs.size (.tup [.int (i : Nat), x])) { s with heap := h'', toks := tk + 1 } :=
      I.turnedNew (ch := [e, it]) (fun b ob hb q => (sb.2 b (fun z => hb (by simp [z]))).trans (hk b ob (fun z => hb (by simp [z])) (fun z => hb (by simp [z])) q)) hf (Nat.le_refl _) new
    refine ⟨.ref s.heap.objs.size, _, I1, rfl, ⟨_, x, rfl, I.hok.fresh (Nat.le_refl _), rfl, fun ys hy => by rw [I.tuple_inj hy hq]; exact hx⟩, ⟨⟨y, ?_⟩, hst.1.at fun o q => (sb.2 it (Ne.symm hne)).trans q, hne⟩, fun b hb => ?_⟩
    · have e1 : ((i + 1 : Nat) : Int) = (i : Int) + 1 := by omega
      rw [e1]
      exact he'
    · have hb' : b < s.heap.objs.size := by
        have e' : b = e ∨ b = it := by simpa using hb
        rcases e' with z | z
        · rw [z]; exact hel
        · rw [z]; exact hil
      rw [upd_ne (Nat.ne_of_lt hb')]
      exact (hf b hb).1
  done := by
    intro X hP hw hK hc i pins s σ H E I hf st hg
    subst hP hw hK
    obtain ⟨⟨old, he⟩, hit, hne⟩ := st
    obtain ⟨xs, hq, hx⟩ := hg
    obtain ⟨its, rv, p, hz⟩ := I.tuple hq
    obtain ⟨f0, f1, f2, f3, f4, f5⟩ := hf it (by simp)
    have hl := rv.length
    have hT : s.TypeIs (.ref e) "enumerate" := ⟨_, he, rfl⟩
    unfold pyNext
    refine wpAny_bind (wpAny_attempt (wpAny_callSpecial?_slot (name := Str.ofString "__next__") hT F.slot_enumerate_next
      (wpAny_call_entry F.slot_enumerate_next hT F.entry_enumerate_next ?_ (F.args_enumerate_next_1 _))))
    show wpAny _ _ (field (.ref e) 2 >>= _) _ _ _
    refine wpAny_bind (wpAny_field he rfl (x := .ref it) rfl ?_)
    refine wpAny_bind (wpAny_nextOf_tuple_end (I.ok.hd hc) hit (show s.heap.IsTuple a its.toArray from p) (by simp; omega) fun h' x he' hx' => ?_)
    obtain ⟨o, ho, hcl⟩ := hx'
    refine wpAny_bind (wpAny_isInstance (T := "StopIteration") (b := true) ⟨o, ho, hcl⟩ isSubtype_stop ?_)
    exact wpAny_pure ⟨rfl, I.turned (t' := s.toks) (fun b o hb q => he' b o hb q) f0 f1 f3 f4 f5⟩
  self := fun A i s Q E st h => let ⟨⟨_, he⟩, _⟩ := st; wpAny_pyIter_enum he h
/-- enumerate of a list or a tuple -/
def iEnumA (K : PySem.W.Frag) (ta : TA) : TI := fun σ H R => ta σ H fun vs H1 => (∃ a xs, vs = [.ref a] ∧ SqL K H1 a xs ∧ R (Ite K a) H1) ∨ (∃ a xs, vs = [.ref a] ∧ SqT K H1 a xs ∧ R (IteT K a) H1)
theorem pi_enumA {X : Cx} {e : Expr} {ta : TA} {p pos tpos : Pos} {elts : List Expr} {kk : Nat} (hg : Gl X "enumerate") (hm : X.mg "enumerate" = none) (ha : PA X [e] ta) (hs : starEach [e] X.env = [(false, eval e X.env)] := by rfl) :
    PI X (.Tuple elts kk tpos) (.Call (.Name "enumerate" p) [e] [] pos) (iEnumA X.K ta) := by
  refine ⟨fun pins s σ H R I h => ?_⟩
  refine Call_ (ld_blt I hg hm boot_enumerate (PyProof.Rows.callWith_type1 (thn (ha.run pos pins s σ H _ I h) fun us s1 ⟨vs, H1, I1, r1, q1⟩ => ?_) hs rfl))
  rcases q1 with ⟨a, xs, ex, hq, q⟩ | ⟨a, xs, ex, hq, q⟩
  · subst ex
    cases r1 with
    | cons r rr =>
      cases rr
      cases r
      obtain ⟨its, rv, p', hz⟩ := I1.list hq
      refine call_enumerate_list p'.isList fun h' he hit hsz hk => wpAny_pyIter_enum he ?_
      have I2 : Inv X pins σ H1 { s1 with heap := h' } := I1.kept (t' := s1.toks) hk
      refine ⟨s1.heap.objs.size + 1, [s1.heap.objs.size + 1, s1.heap.objs.size], _, _, H1, rfl, I2, turn_enum a (s1.heap.objs.size + 1) s1.heap.objs.size, ⟨⟨.none, he⟩, hit, Nat.succ_ne_self _⟩, fun b hb => ?_, q⟩
      have e' : b = s1.heap.objs.size + 1 ∨ b = s1.heap.objs.size := by simpa using hb
      have hle : s1.heap.objs.size ≤ b := by
        rcases e' with z | z
        · rw [z]
          exact Nat.le_add_right _ _
        · rw [z]
          exact Nat.le_refl _
      exact I1.fpOk hle (I1.hok.fresh hle)
  · subst ex
    cases r1 with
    | cons r rr =>
      cases rr
      cases r
      obtain ⟨its, rv, p', hz⟩ := I1.tuple hq
      refine call_enumerate_tuple (show s1.heap.IsTuple a its.toArray from p') fun h' he hit hsz hk => wpAny_pyIter_enum he ?_
      have I2 : Inv X pins σ H1 { s1 with heap := h' } := I1.kept (t' := s1.toks) hk
      refine ⟨s1.heap.objs.size + 1, [s1.heap.objs.size + 1, s1.heap.objs.size], _, _, H1, rfl, I2, turn_enumT a (s1.heap.objs.size + 1) s1.heap.objs.size, ⟨⟨.none, he⟩, hit, Nat.succ_ne_self _⟩, fun b hb => ?_, q⟩
      have e' : b = s1.heap.objs.size + 1 ∨ b = s1.heap.objs.size := by simpa using hb
      have hle : s1.heap.objs.size ≤ b := by
        rcases e' with z | z
        · rw [z]
          exact Nat.le_add_right _ _
        · rw [z]
          exact Nat.le_refl _
      exact I1.fpOk hle (I1.hok.fresh hle)
end L2
namespace Dv
open PySem L2
section
variable {X : Cx} {W : WX} {xw : XW} {K : PySem.W.Frag} {pos : Pos}
/-- pairs with their number -/
def enumD (lo : Nat) : List D → List D
  | [] => []
  | x :: r => .tup [.int lo, x] :: enumD (lo + 1) r
theorem enumD_length (xs : List D) : ∀ lo, (enumD lo xs).length = xs.length := by
  induction xs with
  | nil => exact fun _ => rfl
  | cons x r ih => exact fun lo => congrArg (· + 1) (ih (lo + 1))
theorem enumD_get {i : Nat} {d : D} (xs : List D) : ∀ lo, (enumD lo xs)[i]? = some d → ∃ x, xs[i]? = some x ∧ d = .tup [.int ((lo + i : Nat) : Int), x] := by
  induction xs generalizing i with
  | nil => exact fun _ h => by simp [enumD] at h
  | cons x r ih =>
    intro lo h
    cases i with
    | zero =>
      simp [enumD] at h
      exact ⟨x, rfl, by rw [← h]; rfl⟩
    | succ i =>
      rw [enumD, List.getElem?_cons_succ] at h
      obtain ⟨y, e1, e2⟩ := ih (lo + 1) h
      exact ⟨y, e1, by rw [e2]; congr 4; omega⟩
theorem walk_el {c : Cfg} {a : Addr} {vs : List V} {xs : List D} : WalkD c (Ite c.K a) (enumD 0 xs) (fun H => InL c H a vs ∧ RpAll c H vs xs) where
  st := fun k h => ⟨h.1.to rfl (fun _ z => z) k, h.2.go k⟩
  go := fun i H h _ l => by
    rw [enumD_length] at l
    exact ⟨vs, vs[i]'(by rw [h.2.length]; exact l), h.1.sq, List.getElem?_eq_some_iff.mpr ⟨by rw [h.2.length]; exact l, rfl⟩⟩
  stop := fun i H h l => by
    rw [enumD_length] at l
    exact ⟨vs, h.1.sq, by rw [h.2.length]; exact l⟩
  yld := fun i H x H' d h hi e y => by
    obtain ⟨T, u, rfl, nT, rfl, e2⟩ := y
    obtain ⟨z, e3, rfl⟩ := enumD_get xs 0 e
    obtain ⟨v, h1, h2⟩ := h.2.get e3
    have e4 := e2 vs h.1.sq
    rw [h1] at e4
    cases e4
    rw [Nat.zero_add]
    exact ⟨Go.new hi nT, .tup (.inl ⟨fun z => c.live hi z nT, .inl upd_same⟩) (.cons (.int _) (.cons (h2.go (Kp.new nT)) .nil))⟩
theorem walk_et {c : Cfg} {a : Addr} {vs : List V} {xs : List D} : WalkD c (IteT c.K a) (enumD 0 xs) (fun H => InT c H a vs ∧ RpAll c H vs xs) where
  st := fun k h => ⟨h.1.to rfl (fun _ z => z) k, h.2.go k⟩
  go := fun i H h _ l => by
    rw [enumD_length] at l
    exact ⟨vs, vs[i]'(by rw [h.2.length]; exact l), h.1.sq, List.getElem?_eq_some_iff.mpr ⟨by rw [h.2.length]; exact l, rfl⟩⟩
  stop := fun i H h l => by
    rw [enumD_length] at l
    exact ⟨vs, h.1.sq, by rw [h.2.length]; exact l⟩
  yld := fun i H x H' d h hi e y => by
    obtain ⟨T, u, rfl, nT, rfl, e2⟩ := y
    obtain ⟨z, e3, rfl⟩ := enumD_get xs 0 e
    obtain ⟨v, h1, h2⟩ := h.2.get e3
    have e4 := e2 vs h.1.sq
    rw [h1] at e4
    cases e4
    rw [Nat.zero_add]
    exact ⟨Go.new hi nT, .tup (.inl ⟨fun z => c.live hi z nT, .inl upd_same⟩) (.cons (.int _) (.cons (h2.go (Kp.new nT)) .nil))⟩
theorem walkOk_el {c : Cfg} {a : Addr} {vs : List V} {xs : List D} {H : Hp} (il : InL c H a vs) (ra : RpAll c H vs xs) : WalkOk c (Ite c.K a) (enumD 0 xs) H :=
  ⟨⟨_, walk_el, il, ra⟩, fun b nb => ⟨fun H => ((¬ (c.F a ∨ a = b) ∧ Rd H a (.lst vs)) ∨ KL c.K a vs) ∧ ∀ ha, RpAll (c.hide b ha) H vs xs, ⟨il.elim (fun z => .inl ⟨fun y => y.elim z.1 fun e => by
      subst e
      rcases z.2 with z | ⟨_, z⟩ <;> (rw [nb] at z; cases z), z.2⟩) .inr, fun ha => ra.hide nb⟩, fun ha => by
    have w : WalkD (c.hide b ha) (Ite (c.hide b ha).K a) (enumD 0 xs) (fun H => InL (c.hide b ha) H a vs ∧ RpAll (c.hide b ha) H vs xs) := walk_el
    exact ⟨fun k h => ⟨(InL.to (c := c.hide b ha) (c' := c.hide b ha) rfl (fun _ z => z) k h.1), fun ha' => RpAll.to (c := c.hide b ha') (c' := c.hide b ha') rfl (fun _ z => z) k (h.2 ha')⟩,
      fun i H h => w.go i H ⟨h.1, h.2 ha⟩, fun i H h => w.stop i H ⟨h.1, h.2 ha⟩, fun i H x H' d h => w.yld i H x H' d ⟨h.1, h.2 ha⟩⟩⟩⟩
theorem walkOk_et {c : Cfg} {a : Addr} {vs : List V} {xs : List D} {H : Hp} (il : InT c H a vs) (ra : RpAll c H vs xs) : WalkOk c (IteT c.K a) (enumD 0 xs) H :=
  ⟨⟨_, walk_et, il, ra⟩, fun b nb => ⟨fun H => ((¬ (c.F a ∨ a = b) ∧ Rd H a (.tup vs)) ∨ KT c.K a vs) ∧ ∀ ha, RpAll (c.hide b ha) H vs xs, ⟨il.elim (fun z => .inl ⟨fun y => y.elim z.1 fun e => by
      subst e
      rcases z.2 with z | ⟨_, z⟩ <;> (rw [nb] at z; cases z), z.2⟩) .inr, fun ha => ra.hide nb⟩, fun ha => by
    have w : WalkD (c.hide b ha) (IteT (c.hide b ha).K a) (enumD 0 xs) (fun H => InT (c.hide b ha) H a vs ∧ RpAll (c.hide b ha) H vs xs) := walk_et
    exact ⟨fun k h => ⟨(InT.to (c := c.hide b ha) (c' := c.hide b ha) rfl (fun _ z => z) k h.1), fun ha' => RpAll.to (c := c.hide b ha') (c' := c.hide b ha') rfl (fun _ z => z) k (h.2 ha')⟩,
      fun i H h => w.go i H ⟨h.1, h.2 ha⟩, fun i H h => w.stop i H ⟨h.1, h.2 ha⟩, fun i H x H' d h => w.yld i H x H' d ⟨h.1, h.2 ha⟩⟩⟩⟩
def diEnum (a : DA) : DI := fun Γ k => a Γ fun ss => match ss with
  | [.d (.lst xs)] => k (enumD 0 xs)
  | [.d (.tup xs)] => k (enumD 0 xs)
  | _ => False
theorem pdi_enum {e : Expr} {p tpos : Pos} {ta : TA} {da : DA} {elts : List Expr} {kk : Nat} (hm : X.mg "enumerate" = none) (a : PDA X W xw [e] ta da) (hg : Gl X "enumerate" := by rfl) (hs : starEach [e] X.env = [(false, eval e X.env)] := by rfl) :
    PDI X W xw (.Tuple elts kk tpos) (.Call (.Name "enumerate" p) [e] [] pos) (iEnumA X.K ta) (diEnum da) :=
  ⟨fun tk => pi_enumA hg hm (a.pa tk) hs, fun c eK hW Γ k hk σ H st R q => a.li c eK hW Γ _ hk σ H st _ fun vs ss H1 g1 r1 h1 => by
    rw [← eK]
    try dsimp only at h1
    split at h1
    · obtain ⟨v, rfl, w, e, rr⟩ := paired1 r1
      cases e
      cases rr with
      | lst nf il ra => exact .inl ⟨_, _, rfl, .inl (Or.inl il), q _ H1 _ g1 (walkOk_el (.inl ⟨nf, (Or.inl il)⟩) ra) h1⟩
    · obtain ⟨v, rfl, w, e, rr⟩ := paired1 r1
      cases e
      cases rr with
      | tup il ra => exact .inr ⟨_, _, rfl, il.sq, q _ H1 _ g1 (walkOk_et il ra) h1⟩
    · exact h1.elim⟩
/-! ### for c in s -/
def signs (z : Str) : List D := z.cps.toList.map fun c => .str ⟨#[c]⟩
theorem walk_s {c : Cfg} {z : Str} : WalkD c (Its z) (signs z) (fun _ => True) where
  st := fun _ h => h
  go := fun i H _ _ l => by
    show i < z.cps.size
    simpa [signs] using l
  stop := fun i H _ l => by
    show z.cps.size ≤ i
    simpa [signs] using l
  yld := fun i H x H' d _ hi e y => by
    obtain ⟨rfl, n, e2, rfl⟩ := y
    unfold signs at e
    rw [List.getElem?_map, Array.getElem?_toList, e2] at e
    cases e
    exact ⟨Go.self hi, .str _⟩
def diStr (a : DE) : DI := fun Γ k => a Γ fun s => match s with
  | .d (.str z) => k (signs z)
  | _ => False
theorem pdi_str {tg e : Expr} {te : TE} {de : DE} (h : PD X W xw e te de) : PDI X W xw tg e (iStr te) (diStr de) :=
  ⟨fun tk => pi_str (h.pe tk), fun c eK hW Γ k hk σ H st R q => h.li c eK hW Γ _ hk σ H st _ fun v s H1 g1 r1 h1 => by
    try dsimp only at h1
    split at h1
    · exact ⟨_, sl_str r1, q _ H1 _ g1 ⟨⟨_, walk_s, trivial⟩, fun _ _ => ⟨fun _ => True, trivial, fun _ => walk_s⟩⟩ h1⟩
    · exact h1.elim⟩
end
end Dv
set_option Elab.async false
set_option linter.all false
set_option maxRecDepth 100000
set_option maxHeartbeats 4000000
/-! Mt: match t: case ['a' | 'b', x, y]: ..., t a tuple whose first item is a text. -/
namespace L2
open PySem PySem.Spec PyProof.Rows
section
variable {X : Cx} {pos : Pos}
/-- a written text, or one of two -/
def PLit (X : Cx) (p : Pattern) (ls : List Str) : Prop := ∀ (pins : List (Addr × Obj)) (s : Shared) (σ : St) (H : Hp) (y : Str) (v : Value) (Q : Option (List (Str × Value)) → Shared → Prop), Inv X pins σ H s → RelV (.str y) v → SeqAt.shaped (.str y) = true →
  (∀ s', Inv X pins σ H s' → Q (if y ∈ ls then some [] else none) s') → wpAny (model X.prog X.w) X.A (matchPattern p X.env v) Q X.xe s
theorem plit1 {z : Str} {j : _} {cp pp : Pos} (hu : X.A.units + 64 < cLine) (hz : SeqAt.shaped (.str z) = true := by decide +kernel) : PLit X (.MatchValue (.Constant (.str z) j cp) pp) [z] := by
  intro pins s σ H y v Q I r sy q
  have pc : PE X (.Constant (.str z) j cp) (tC (.str z)) := pe_str
  refine wpAny_matchPattern_Value (thn (pc.run pins s σ H (fun x H1 => x = .str z ∧ H1 = H) I ⟨rfl, rfl⟩) fun x s1 hx => ?_)
  obtain ⟨x', H1, I1, rx, rfl, rfl⟩ := hx
  refine thn (op_eqD hu pins s1 σ H1 (.str y) (.str z) v x (fun b H2 => b = .bl (decide (y = z)) ∧ H2 = H1) I1 r rx ⟨.str y, .str z, .str y, .str z, sy, hz, ?_, rfl⟩) fun c s2 hc => ?_
  · rw [PyData.eqv]
    by_cases e : y = z <;> simp [e]
  · obtain ⟨b, H2, I2, rb, rfl, rfl⟩ := hc
    cases rb
    refine wpAny_truthy_bool ?_
    by_cases e : y = z
    · rw [decide_eq_true e, if_pos rfl]
      have z1 := q s2 I2
      rw [if_pos (by simp [e])] at z1
      exact z1
    · rw [decide_eq_false e, if_neg Bool.false_ne_true]
      have z1 := q s2 I2
      rw [if_neg (by simp [e])] at z1
      exact z1
theorem plit2 {z1 z2 : Str} {p1 p2 : Pattern} {pp : Pos} (h1 : PLit X p1 [z1]) (h2 : PLit X p2 [z2]) (hn : namesOfAll [p1] = [] := by rfl) : PLit X (.MatchOr [p1, p2] pp) [z1, z2] := by
  intro pins s σ H y v Q I r sy q
  refine wpAny_matchPattern_Or (wpAny_matchFirst_cons (h1 pins s σ H y v _ I r sy fun s1 I1 => ?_))
  have fin : ∀ {bs : List (Str × Value)}, (namesOfAll ([p1, p2].take 1)).filterMap (fun n => (bs.lookup n).map (n, ·)) = [] := fun {bs} => by
    show (namesOfAll [p1]).filterMap _ = []
    rw [hn]
    rfl
  by_cases e : y = z1
  · rw [if_pos (by simp [e])]
    show Q (some _) s1
    rw [fin]
    have z := q s1 I1
    rw [if_pos (by simp [e])] at z
    exact z
  · rw [if_neg (by simp [e])]
    refine wpAny_matchFirst_cons (h2 pins s1 σ H y v _ I1 r sy fun s2 I2 => ?_)
    by_cases e2 : y = z2
    · rw [if_pos (by simp [e2])]
      show Q (some _) s2
      rw [fin]
      have z := q s2 I2
      rw [if_pos (by simp [e2])] at z
      exact z
    · rw [if_neg (by simp [e2])]
      refine wpAny_matchFirst_nil ?_
      have z := q s2 I2
      rw [if_neg (by simp [e, e2])] at z
      exact z
/-- cases over the items of a tuple -/
def PMC (X : Cx) (cs : List MatchCase) (tc : List V → TS) : Prop := ∀ (pins : List (Addr × Obj)) (s : Shared) (σ : St) (H : Hp) (D : Ends) (a : Addr) (xs : List V) (first : Bool), Inv X pins σ H s → SqT X.K H a xs → tc xs D σ H →
  wpAny (model X.prog X.w) X.A (matchCases cs X.env (.ref a) first) (SP X pins D) X.xe s
theorem pmc_any {body : List Stmt} {tb : TS} {p : Pos} (hb : PSs X body tb) : PMC X [⟨.MatchAs none none p, none, body⟩] (fun _ => tb) := by
  intro pins s σ H D a xs first I hq h
  refine wpAny_matchCases_cons (wpAny_matchPattern_Capture ?_)
  exact wpAny_assignInOrder_none (hb.run pins s σ H D I h)
def tCase1 (ls : List Str) (i : Nat) (tb : TS) (tr : List V → TS) : List V → TS := fun xs D σ H => (xs.length ≠ 2 ∧ tr xs D σ H) ∨ ∃ z u, xs = [.str z, u] ∧ SeqAt.shaped (.str z) = true ∧ ((z ∈ ls ∧ tb D (σ.set i (some u)) H) ∨ (z ∉ ls ∧ tr xs D σ H))
def tCase2 (ls : List Str) (i j : Nat) (tb : TS) (tr : List V → TS) : List V → TS := fun xs D σ H => (xs.length ≠ 3 ∧ tr xs D σ H) ∨ ∃ z u v, xs = [.str z, u, v] ∧ SeqAt.shaped (.str z) = true ∧ ((z ∈ ls ∧ tb D ((σ.set i (some u)).set j (some v)) H) ∨ (z ∉ ls ∧ tr xs D σ H))
theorem fit {n : Nat} (h : n ≤ sizeLine) : (n : Int) < 2 ^ 63 := by
  have : sizeLine < 2 ^ 62 := by decide
  omega
theorem pmc_1 {ls : List Str} {p0 : Pattern} {i : Nat} {x : Str} {q1 pp : Pos} {body : List Stmt} {rest : List MatchCase} {tb : TS} {tr : List V → TS} (hc : X.calm = true) (hN : X.N.Nodup) (h0 : PLit X p0 ls) (hb : PSs X body tb) (hr : PMC X rest tr) (hi : X.N[i]? = some x := by rfl) (hx : X.env.scope.names.lookup x = some .local := by rfl)
    (hs : p0.isStar = false := by rfl) (hst : [p0, .MatchAs none (some x) q1].findIdx? (·.isStar) = none := by rfl) (hw : ([p0, .MatchAs none (some x) q1].all fun p => p.isWildcard || (p.isStar && p.names.isEmpty)) = false := by rfl) :
    PMC X (⟨.MatchSequence [p0, .MatchAs none (some x) q1] pp, none, body⟩ :: rest) (tCase1 ls i tb tr) := by
  intro pins s σ H D a xs first I hq h
  obtain ⟨its, rv, p, hz⟩ := I.tuple hq
  have hl := rv.length
  refine wpAny_matchCases_cons ?_
  rcases h with ⟨hne, h⟩ | ⟨z, u, rfl, sz, h⟩
  · refine matchSeq_tuple_miss p (by rw [List.size_toArray, ← hl]; exact fit hz) (by rw [List.size_toArray, ← hl]; exact hne) ?_ hst hw
    exact hr pins _ σ H D a xs false (I.tok _) hq h
  · cases rv with
    | cons r1 rv =>
      cases rv with
      | cons r2 rv =>
        cases rv
        rename_i v1 v2
        refine matchSeq_tuple_hit p (by show (2 : Int) < 2 ^ 63; decide) rfl ?_ hst hw
        refine unpackItems_tuple (items := #[v1, v2]) (I.ok.hd hc) p fun h' hx' => ?_
        have I1 : Inv X pins σ H { s with heap := h', toks := s.toks + 1 + 1 } := I.kept (t' := s.toks + 1 + 1) fun b o e => hx' b o (Nat.ne_of_lt (Heap.lt_size e)) e
        refine wpAny_matchEach_cons (h0 pins _ σ H z v1 _ I1 r1 sz fun s2 I2 => ?_) hs
        rcases h with ⟨e, h⟩ | ⟨e, h⟩
        · rw [if_pos e]
          refine wpAny_matchEach_cons (wpAny_matchPattern_Capture (wpAny_matchEach_nil ?_))
          show wpAny _ _ (assignInOrder [bindName X.env x] [v2]) _ _ _
          refine assignInOrder_cons (wpAny_bindName (store_ok I2 hN hi (.inl hx) r2 (fun s3 I3 => ?_) (.inr hx)))
          exact assignInOrder_nil (hb.run pins s3 _ H D I3 h)
        · rw [if_neg e]
          exact hr pins s2 σ H D a _ false I2 hq h
theorem pmc_2 {ls : List Str} {p0 : Pattern} {i j : Nat} {x y : Str} {q1 q2 pp : Pos} {body : List Stmt} {rest : List MatchCase} {tb : TS} {tr : List V → TS} (hc : X.calm = true) (hN : X.N.Nodup) (h0 : PLit X p0 ls) (hb : PSs X body tb) (hr : PMC X rest tr) (hi : X.N[i]? = some x := by rfl) (hx : X.env.scope.names.lookup x = some .local := by rfl)
    (hj : X.N[j]? = some y := by rfl) (hy : X.env.scope.names.lookup y = some .local := by rfl) (hs : p0.isStar = false := by rfl) (hst : [p0, .MatchAs none (some x) q1, .MatchAs none (some y) q2].findIdx? (·.isStar) = none := by rfl) (hw : ([p0, .MatchAs none (some x) q1, .MatchAs none (some y) q2].all fun p => p.isWildcard || (p.isStar && p.names.isEmpty)) = false := by rfl) :
    PMC X (⟨.MatchSequence [p0, .MatchAs none (some x) q1, .MatchAs none (some y) q2] pp, none, body⟩ :: rest) (tCase2 ls i j tb tr) := by
  intro pins s σ H D a xs first I hq h
  obtain ⟨its, rv, p, hz⟩ := I.tuple hq
  have hl := rv.length
  refine wpAny_matchCases_cons ?_
  rcases h with ⟨hne, h⟩ | ⟨z, u, v, rfl, sz, h⟩
  · refine matchSeq_tuple_miss p (by rw [List.size_toArray, ← hl]; exact fit hz) (by rw [List.size_toArray, ← hl]; exact hne) ?_ hst hw
    exact hr pins _ σ H D a xs false (I.tok _) hq h
  · cases rv with
    | cons r1 rv =>
      cases rv with
      | cons r2 rv =>
        cases rv with
        | cons r3 rv =>
          cases rv
          rename_i v1 v2 v3
          refine matchSeq_tuple_hit p (by show (3 : Int) < 2 ^ 63; decide) rfl ?_ hst hw
          refine unpackItems_tuple (items := #[v1, v2, v3]) (I.ok.hd hc) p fun h' hx' => ?_
          have I1 : Inv X pins σ H { s with heap := h', toks := s.toks + 1 + 1 } := I.kept (t' := s.toks + 1 + 1) fun b o e => hx' b o (Nat.ne_of_lt (Heap.lt_size e)) e
          refine wpAny_matchEach_cons (h0 pins _ σ H z v1 _ I1 r1 sz fun s2 I2 => ?_) hs
          rcases h with ⟨e, h⟩ | ⟨e, h⟩
          · rw [if_pos e]
            refine wpAny_matchEach_cons (wpAny_matchPattern_Capture (wpAny_matchEach_cons (wpAny_matchPattern_Capture (wpAny_matchEach_nil ?_))))
            show wpAny _ _ (assignInOrder [bindName X.env x, bindName X.env y] [v2, v3]) _ _ _
            refine assignInOrder_cons (wpAny_bindName (store_ok I2 hN hi (.inl hx) r2 (fun s3 I3 => ?_) (.inr hx)))
            refine assignInOrder_cons (wpAny_bindName (store_ok I3 hN hj (.inl hy) r3 (fun s4 I4 => ?_) (.inr hy)))
            exact assignInOrder_nil (hb.run pins s4 _ H D I4 h)
          · rw [if_neg e]
            exact hr pins s2 σ H D a _ false I2 hq h
/-- match e: .., e a tuple -/
def tMatch (K : PySem.W.Frag) (te : TE) (tc : List V → TS) : TS := fun D σ H => te σ H fun v H1 => ∃ a xs, v = .ref a ∧ SqT K H1 a xs ∧ tc xs D σ H1
theorem ps_match {e : Expr} {te : TE} {cs : List MatchCase} {tc : List V → TS} (he : PE X e te) (hcs : PMC X cs tc) : PS X (.Match e cs pos) (tMatch X.K te tc) := by
  refine ⟨fun pins s σ H D I h => ?_⟩
  refine wpAny_Match (thn (he.run pins s σ H _ I h) fun v s1 ⟨x, H1, I1, r1, q1⟩ => ?_)
  obtain ⟨a, xs, rfl, hq, q⟩ := q1
  cases r1
  exact hcs pins s1 σ H1 D a xs true I1 hq q
end
end L2
namespace Dv
open PySem L2
section
variable {X : Cx} {W : WX} {xw : XW} {K : PySem.W.Frag} {pos : Pos}
abbrev DC := List D → DS
def LiC (K : PySem.W.Frag) (W : WX) (xw : XW) (tc : List V → TS) (dc : DC) : Prop := ∀ c : Cfg, c.K = K → WOk c W xw → ∀ (E : Ends) (D : DEnds), EndsOk c E D → ∀ Γ σ H vs ds, StOk c σ H Γ → RpAll c H vs ds → dc ds D Γ → tc vs E σ H
structure PDC (X : Cx) (W : WX) (xw : XW) (cs : List MatchCase) (tc : List V → TS) (dc : DC) : Prop where
  pc : Takes X W → PMC X cs tc
  li : LiC X.K W xw tc dc
def dcAny (b : DS) : DC := fun _ => b
theorem pdc_any {body : List Stmt} {tb : TS} {db : DS} {p : Pos} (h : PDSs X W xw body tb db) : PDC X W xw [⟨.MatchAs none none p, none, body⟩] (fun _ => tb) (dcAny db) := ⟨fun tk => pmc_any (h.ps tk), fun c eK hW E D o Γ σ H vs ds s _ hd => h.li c eK hW E D o Γ σ H s hd⟩
def dc1 (ls : List Str) (i : Nat) (b : DS) (r : DC) : DC := fun ds D Γ => match ds with
  | [.str z, u] => okD (.str z) = true ∧ (if z ∈ ls then b D (Γ.set i (.d u)) else r ds D Γ)
  | ds => ds.length ≠ 2 ∧ r ds D Γ
def dc2 (ls : List Str) (i j : Nat) (b : DS) (r : DC) : DC := fun ds D Γ => match ds with
  | [.str z, u, v] => okD (.str z) = true ∧ (if z ∈ ls then b D ((Γ.set i (.d u)).set j (.d v)) else r ds D Γ)
  | ds => ds.length ≠ 3 ∧ r ds D Γ
theorem pdc_1 {ls : List Str} {p0 : Pattern} {i : Nat} {x : Str} {q1 pp : Pos} {body : List Stmt} {rest : List MatchCase} {tb : TS} {db : DS} {tr : List V → TS} {dr : DC} (hc : X.calm = true) (hN : X.N.Nodup) (h0 : PLit X p0 ls) (hb : PDSs X W xw body tb db) (hr : PDC X W xw rest tr dr) (hi : X.N[i]? = some x := by rfl) (hx : X.env.scope.names.lookup x = some .local := by rfl)
    (hs : p0.isStar = false := by rfl) (hst : [p0, .MatchAs none (some x) q1].findIdx? (·.isStar) = none := by rfl) (hw : ([p0, .MatchAs none (some x) q1].all fun p => p.isWildcard || (p.isStar && p.names.isEmpty)) = false := by rfl) :
    PDC X W xw (⟨.MatchSequence [p0, .MatchAs none (some x) q1] pp, none, body⟩ :: rest) (tCase1 ls i tb tr) (dc1 ls i db dr) :=
  ⟨fun tk => pmc_1 hc hN h0 (hb.ps tk) (hr.pc tk) hi hx hs hst hw, fun c eK hW E D o Γ σ H vs ds s ra hd => by
    have len := ra.length
    have ra0 := ra
    unfold dc1 at hd
    split at hd
    · rename_i z u
      cases ra with
      | cons r1 ra =>
        cases ra with
        | cons r2 ra =>
          cases ra
          cases r1
          refine .inr ⟨z, _, rfl, hd.1, ?_⟩
          by_cases e : z ∈ ls
          · have h2 := hd.2
            rw [if_pos e] at h2
            exact .inl ⟨e, hb.li c eK hW E D o _ _ _ (s.set (i := i) (s := .d u) ⟨_, rfl, r2⟩) h2⟩
          · have h2 := hd.2
            rw [if_neg e] at h2
            exact .inr ⟨e, hr.li c eK hW E D o Γ σ H _ _ s ra0 h2⟩
    · exact .inl ⟨by rw [len]; exact hd.1, hr.li c eK hW E D o Γ σ H _ _ s ra0 hd.2⟩⟩
theorem pdc_2 {ls : List Str} {p0 : Pattern} {i j : Nat} {x y : Str} {q1 q2 pp : Pos} {body : List Stmt} {rest : List MatchCase} {tb : TS} {db : DS} {tr : List V → TS} {dr : DC} (hc : X.calm = true) (hN : X.N.Nodup) (h0 : PLit X p0 ls) (hb : PDSs X W xw body tb db) (hr : PDC X W xw rest tr dr) (hi : X.N[i]? = some x := by rfl) (hx : X.env.scope.names.lookup x = some .local := by rfl)
    (hj : X.N[j]? = some y := by rfl) (hy : X.env.scope.names.lookup y = some .local := by rfl) (hs : p0.isStar = false := by rfl) (hst : [p0, .MatchAs none (some x) q1, .MatchAs none (some y) q2].findIdx? (·.isStar) = none := by rfl) (hw : ([p0, .MatchAs none (some x) q1, .MatchAs none (some y) q2].all fun p => p.isWildcard || (p.isStar && p.names.isEmpty)) = false := by rfl) :
    PDC X W xw (⟨.MatchSequence [p0, .MatchAs none (some x) q1, .MatchAs none (some y) q2] pp, none, body⟩ :: rest) (tCase2 ls i j tb tr) (dc2 ls i j db dr) :=
  ⟨fun tk => pmc_2 hc hN h0 (hb.ps tk) (hr.pc tk) hi hx hj hy hs hst hw, fun c eK hW E D o Γ σ H vs ds s ra hd => by
    have len := ra.length
    have ra0 := ra
    unfold dc2 at hd
    split at hd
    · rename_i z u v
      cases ra with
      | cons r1 ra =>
        cases ra with
        | cons r2 ra =>
          cases ra with
          | cons r3 ra =>
            cases ra
            cases r1
            refine .inr ⟨z, _, _, rfl, hd.1, ?_⟩
            by_cases e : z ∈ ls
            · have h2 := hd.2
              rw [if_pos e] at h2
              exact .inl ⟨e, hb.li c eK hW E D o _ _ _ ((s.set (i := i) (s := .d u) ⟨_, rfl, r2⟩).set (i := j) (s := .d v) ⟨_, rfl, r3⟩) h2⟩
            · have h2 := hd.2
              rw [if_neg e] at h2
              exact .inr ⟨e, hr.li c eK hW E D o Γ σ H _ _ s ra0 h2⟩
    · exact .inl ⟨by rw [len]; exact hd.1, hr.li c eK hW E D o Γ σ H _ _ s ra0 hd.2⟩⟩
def dMatch (e : DE) (dc : DC) : DS := fun D Γ => e Γ fun s => match s with
  | .d (.tup xs) => dc xs D Γ
  | _ => False
theorem pds_match {e : Expr} {te : TE} {de : DE} {cs : List MatchCase} {tc : List V → TS} {dc : DC} (he : PD X W xw e te de) (hcs : PDC X W xw cs tc dc) : PDS X W xw (.Match e cs pos) (tMatch X.K te tc) (dMatch de dc) :=
  ⟨fun tk => ps_match (he.pe tk) (hcs.pc tk), fun c eK hW E D o Γ σ H s hd => he.li c eK hW Γ _ hd σ H s _ fun v s' H1 g r q => by
    try dsimp only at q
    split at q
    · obtain ⟨w, e, rr⟩ := r
      cases e
      cases rr with
      | tup il ra => exact ⟨_, _, rfl, by rw [← eK]; exact il.sq, hcs.li c eK hW E D o Γ σ H1 _ _ (s.go g) ra q⟩
    · exact q.elim⟩
end
end Dv
set_option Elab.async false
set_option linter.all false
set_option maxRecDepth 100000
set_option maxHeartbeats 4000000
/-! Tr: split, rpartition, slices, tuple(x), list(x), ord, x in xs, isinstance(x, (list, tuple)), repr(int), (..) * n. -/
namespace L2
open PySem PySem.Spec PyProof.Rows
section
variable {X : Cx}
theorem mt_rpartition : MtR X "str.rpartition" (fun x xs H Q => ∃ a b, x = .str a ∧ xs = [.str b] ∧ (b.length == 0) = false ∧ a.length ≤ sizeLine ∧
    ∀ p, H p = none → Q (.ref p) (upd H p (.tup [.str (Txt.rpartition a b).1, .str (Txt.rpartition a b).2.1, .str (Txt.rpartition a b).2.2]))) := by
  intro pins s σ H x xs v us Q I rx rs h
  obtain ⟨a, b, rfl, rfl, hb, hz, h⟩ := h
  obtain ⟨t, rfl⟩ := rx
  cases rs with
  | cons r1 rs =>
    cases rs
    obtain ⟨u, rfl⟩ := r1
    refine call_meets F.slot_str_rpartition (typeIs_str _ _ _) F.entry_str_rpartition (F.args_str_rpartition_2 _ _) (meets_str_rpartition a b t u hb hz) ?_
    unfold Txt.rpartition at h
    revert h
    cases Builtin.Str.lastOccurrence a b 0 a.length with
    | none => exact fun h => laid_parts I h
    | some i => exact fun h => laid_parts I h
end
end L2
namespace Dv
open PySem L2
section
variable {X : Cx} {W : WX} {xw : XW} {K : PySem.W.Frag} {pos : Pos}
/-! ### split, rpartition -/
def gSplit : Str → Sl → DK → Prop := fun z t k => match t with
  | .d (.str b) => (b.length == 0) = false ∧ z.length ≤ 100000 ∧ k (.d (.lst ((Txt.split z b).map D.str)))
  | _ => False
theorem rp_strs {c : Cfg} {H : Hp} : ∀ ys : List Str, RpAll c H (ys.map V.str) (ys.map D.str)
  | [] => .nil
  | y :: r => .cons (.str y) (rp_strs r)
theorem om_split : OM K (fun x xs H Q => ∃ a b, x = .str a ∧ xs = [.str b] ∧ (b.length == 0) = false ∧ a.length + 2 ≤ sizeLine ∧ rNewStrs (Txt.split a b) H Q) gSplit := fun c H z y t k Q eK hi r h q => by
  unfold gSplit at h
  split at h
  · have e := sl_str r
    subst e
    refine ⟨_, _, rfl, rfl, h.1, Nat.le_trans (Nat.add_le_add_right h.2.1 2) (by decide), fun p np => q _ (.d (.lst _)) _ (Go.new hi np) ⟨_, rfl, rp_newL hi np (rp_strs _)⟩ h.2.2⟩
  · exact h.elim
theorem pd_split {o e : Expr} {to te : TE} {do_ de : DE} {apos : Pos} (ho : PD X W xw o to do_) (he : PD X W xw e te de) (hs : starEach [e] X.env = [(false, eval e X.env)] := by rfl) (hbase : attributeBase o "split" X.env (eval o X.env) = eval o X.env := by rfl) (hline : (apos.endLine == pos.line) = true := by rfl) :
    PD X W xw (.Call (.Attribute o "split" apos) [e] [] pos) (tM1 (fun x xs H Q => ∃ a b, x = .str a ∧ xs = [.str b] ∧ (b.length == 0) = false ∧ a.length + 2 ≤ sizeLine ∧ rNewStrs (Txt.split a b) H Q) to te) (dM1 gSplit do_ de) := ⟨fun tk => pe_split (ho.pe tk) (he.pe tk) hs hbase hline, li_m1 om_split ho.li he.li⟩
def gRPart : Str → Sl → DK → Prop := fun z t k => match t with
  | .d (.str b) => (b.length == 0) = false ∧ z.length ≤ 100000 ∧ k (.d (.tup [.str (Txt.rpartition z b).1, .str (Txt.rpartition z b).2.1, .str (Txt.rpartition z b).2.2]))
  | _ => False
theorem om_rpart : OM K (fun x xs H Q => ∃ a b, x = .str a ∧ xs = [.str b] ∧ (b.length == 0) = false ∧ a.length ≤ sizeLine ∧
    ∀ p, H p = none → Q (.ref p) (upd H p (.tup [.str (Txt.rpartition a b).1, .str (Txt.rpartition a b).2.1, .str (Txt.rpartition a b).2.2]))) gRPart := fun c H z y t k Q eK hi r h q => by
  unfold gRPart at h
  split at h
  · have e := sl_str r
    subst e
    refine ⟨_, _, rfl, rfl, h.1, sz h.2.1, fun p np => q _ (.d (.tup _)) _ (Go.new hi np) ⟨_, rfl, ?_⟩ h.2.2⟩
    exact .tup (.inl ⟨fun z => c.live hi z np, .inl upd_same⟩) (.cons (.str _) (.cons (.str _) (.cons (.str _) .nil)))
  · exact h.elim
theorem pd_rpart {o e : Expr} {to te : TE} {do_ de : DE} {apos : Pos} (ho : PD X W xw o to do_) (he : PD X W xw e te de) (hs : starEach [e] X.env = [(false, eval e X.env)] := by rfl) (hbase : attributeBase o "rpartition" X.env (eval o X.env) = eval o X.env := by rfl) (hline : (apos.endLine == pos.line) = true := by rfl) :
    PD X W xw (.Call (.Attribute o "rpartition" apos) [e] [] pos) (tM1 (fun x xs H Q => ∃ a b, x = .str a ∧ xs = [.str b] ∧ (b.length == 0) = false ∧ a.length ≤ sizeLine ∧
      ∀ p, H p = none → Q (.ref p) (upd H p (.tup [.str (Txt.rpartition a b).1, .str (Txt.rpartition a b).2.1, .str (Txt.rpartition a b).2.2]))) to te) (dM1 gRPart do_ de) :=
  ⟨fun tk => pe_m1 PySem.F.slot_str_rpartition PySem.F.type_str_rpartition mt_rpartition (ho.pe tk) (he.pe tk) hs hbase hline, li_m1 om_rpart ho.li he.li⟩
/-! ### slices -/
def cutD (xs : List D) (lo hi : Option Int) : List D := (xs.drop (HT.sIx xs.length 0 lo)).take (HT.sIx xs.length xs.length hi - HT.sIx xs.length 0 lo)
theorem RpAll.drop {c : Cfg} {H : Hp} : ∀ {vs : List V} {ds : List D} (n : Nat), RpAll c H vs ds → RpAll c H (vs.drop n) (ds.drop n)
  | _, _, 0, r => r
  | _, _, _ + 1, .nil => .nil
  | _, _, n + 1, .cons _ r => RpAll.drop n r
theorem RpAll.take {c : Cfg} {H : Hp} : ∀ {vs : List V} {ds : List D} (n : Nat), RpAll c H vs ds → RpAll c H (vs.take n) (ds.take n)
  | _, _, 0, _ => .nil
  | _, _, _ + 1, .nil => .nil
  | _, _, n + 1, .cons a r => .cons a (RpAll.take n r)
theorem RpAll.cut {c : Cfg} {H : Hp} {vs : List V} {ds : List D} {lo hi : Option Int} (r : RpAll c H vs ds) : RpAll c H (cutV vs lo hi) (cutD ds lo hi) := by
  unfold cutV cutD
  rw [r.length]
  exact (r.drop _).take _
abbrev DO := Gm → (Option Int → Prop) → Prop
def LiO (K : PySem.W.Frag) (W : WX) (xw : XW) (t : TO) (d : DO) : Prop := ∀ c : Cfg, c.K = K → WOk c W xw → ∀ Γ k, d Γ k → ∀ σ H, StOk c σ H Γ → ∀ Q : Option Int → Hp → Prop, (∀ o H2, Go c H H2 → k o → Q o H2) → t σ H Q
structure PDO (X : Cx) (W : WX) (xw : XW) (e : Option Expr) (t : TO) (d : DO) : Prop where
  po : Takes X W → PO X e t
  li : LiO X.K W xw t d
def doNone : DO := fun _ k => k none
def doSome (e : DE) : DO := fun Γ k => e Γ fun s => match s with
  | .d (.int i) => k (some i)
  | _ => False
theorem pdo_none : PDO X W xw none tNoPart doNone := ⟨fun _ => po_none, fun c eK hW Γ k hk σ H s Q q => q none H (Go.self s.inv) hk⟩
theorem pdo_some {e : Expr} {te : TE} {de : DE} (h : PD X W xw e te de) : PDO X W xw (some e) (tPart te) (doSome de) := ⟨fun tk => po_some (h.pe tk), fun c eK hW Γ k hk σ H s Q q => h.li c eK hW Γ _ hk σ H s _ fun v s' H1 g r h1 => by
    try dsimp only at h1
    split at h1
    · exact ⟨_, sl_int r, q _ H1 g h1⟩
    · exact h1.elim⟩
def gCut : Sl → Option Int → Option Int → DK → Prop := fun s lo hi k => match s with
  | .d (.lst xs) => k (.d (.lst (cutD xs lo hi)))
  | .d (.tup xs) => k (.d (.tup (cutD xs lo hi)))
  | .d (.str z) => z.length ≤ 100000 ∧ k (.d (.str (cutS z lo hi)))
  | _ => False
def dCut (e : DE) (lo hi : DO) : DE := fun Γ k => e Γ fun s => lo Γ fun l => hi Γ fun u => gCut s l u k
theorem cut_whole {xs : List D} {lo hi : Option Int} (h : HT.sIx xs.length 0 lo = 0 ∧ HT.sIx xs.length xs.length hi = xs.length) : cutD xs lo hi = xs := by
  unfold cutD
  rw [h.1, h.2]
  simp
theorem pd_cut {e : Expr} {lo hi : Option Expr} {te : TE} {tl th : TO} {de : DE} {dl dh : DO} {p2 : Pos} (he : PD X W xw e te de) (hl : PDO X W xw lo tl dl) (hh : PDO X W xw hi th dh) :
    PD X W xw (.Subscript e (.Slice lo hi none p2) pos) (tSl (fun x lo hi H Q => rSlL X.K x lo hi H Q ∨ (rSlA X.K x lo hi H Q ∨ rSlS x lo hi H Q)) te tl th) (dCut de dl dh) :=
  ⟨fun tk => pe_slice (sl_list.or (sl_tupA.or L2.sl_str)) (he.pe tk) (hl.po tk) (hh.po tk), fun c eK hW Γ k hk σ H st Q q => he.li c eK hW Γ _ hk σ H st _ fun v s H1 g1 r1 h1 => hl.li c eK hW Γ _ h1 σ H1 (st.go g1) _ fun l H2 g2 h2 => hh.li c eK hW Γ _ h2 σ H2 ((st.go g1).go g2) _ fun u H3 g3 h3 => by
    have r3 := r1.go (g2.trans g3).keep
    have gg := (g1.trans g2).trans g3
    unfold gCut at h3
    split at h3
    · obtain ⟨w, e, rr⟩ := r3
      cases e
      cases rr with
      | lst nf il ra => exact .inl ⟨_, _, rfl, .inl (Or.inl il), fun p np => q _ (.d (.lst _)) _ (gg.trans (Go.new g3.inv np)) ⟨_, rfl, rp_newL g3.inv np ra.cut⟩ h3⟩
    · obtain ⟨w, e, rr⟩ := r3
      cases e
      have r0 := rr
      cases rr with
      | tup il ra =>
        refine .inr (.inl ⟨_, _, rfl, by rw [← eK]; exact il.sq, fun hw => ?_, fun _ p np => ?_⟩)
        · rw [ra.length] at hw
          rw [cut_whole hw] at h3
          exact q _ (.d (.tup _)) _ gg ⟨_, rfl, r0⟩ h3
        · exact q _ (.d (.tup _)) _ (gg.trans (Go.new g3.inv np)) ⟨_, rfl, .tup (.inl ⟨fun z => c.live g3.inv z np, .inl upd_same⟩) (ra.cut.go (Kp.new np))⟩ h3
    · have e := sl_str r3
      subst e
      exact .inr (.inr ⟨_, rfl, sz h3.1, q _ (.d (.str _)) _ gg ⟨_, rfl, .str _⟩ h3.2⟩)
    · exact h3.elim⟩
/-! ### tuple(x), list(x), ord(c) -/
def gTupOf : List Sl → DK → Prop := fun ss k => match ss with
  | [.d (.lst xs)] => k (.d (.tup xs))
  | [.d (.tup xs)] => k (.d (.tup xs))
  | _ => False
theorem oc_tupOf : OC K (fun xs H Q => ∃ p ys, xs = [V.ref p] ∧ ((SqL K H p ys ∧ ∀ l, H l = none → Q (.ref l) (upd H l (.tup ys))) ∨ (SqT K H p ys ∧ Q (.ref p) H))) gTupOf := fun c H vs ss k Q eK hi r h q => by
  unfold gTupOf at h
  split at h
  · obtain ⟨v, rfl, w, e, rr⟩ := paired1 r
    cases e
    cases rr with
    | lst nf il ra => exact ⟨_, _, rfl, .inl ⟨.inl (Or.inl il), fun p np => q _ (.d (.tup _)) _ (Go.new hi np) ⟨_, rfl, .tup (.inl ⟨fun z => c.live hi z np, .inl upd_same⟩) (ra.go (Kp.new np))⟩ h⟩⟩
  · obtain ⟨v, rfl, w, e, rr⟩ := paired1 r
    cases e
    have r0 := rr
    cases rr with
    | tup il ra => exact ⟨_, _, rfl, .inr ⟨by rw [← eK]; exact il.sq, q _ (.d (.tup _)) _ (Go.self hi) ⟨_, rfl, r0⟩ h⟩⟩
  · exact h.elim
def gListOf : List Sl → DK → Prop := fun ss k => match ss with
  | [.d (.lst xs)] => k (.d (.lst xs))
  | [.d (.tup xs)] => k (.d (.lst xs))
  | _ => False
theorem oc_listOf : OC K (fun xs H Q => ∃ p ys, xs = [V.ref p] ∧ (SqL K H p ys ∨ SqT K H p ys) ∧ ∀ l, H l = none → Q (.ref l) (upd H l (.lst ys))) gListOf := fun c H vs ss k Q eK hi r h q => by
  unfold gListOf at h
  split at h
  · obtain ⟨v, rfl, w, e, rr⟩ := paired1 r
    cases e
    cases rr with
    | lst nf il ra => exact ⟨_, _, rfl, .inl (.inl (Or.inl il)), fun p np => q _ (.d (.lst _)) _ (Go.new hi np) ⟨_, rfl, rp_newL hi np ra⟩ h⟩
  · obtain ⟨v, rfl, w, e, rr⟩ := paired1 r
    cases e
    cases rr with
    | tup il ra => exact ⟨_, _, rfl, .inr (by rw [← eK]; exact il.sq), fun p np => q _ (.d (.lst _)) _ (Go.new hi np) ⟨_, rfl, rp_newL hi np ra⟩ h⟩
  · exact h.elim
def gOrd : List Sl → DK → Prop := fun ss k => match ss with
  | [.d (.str z)] => z.length = 1 ∧ k (.d (.int ((z.cps.getD 0 0 : Nat) : Int)))
  | _ => False
theorem oc_ord : OC K (fun xs H Q => ∃ x, xs = [V.str x] ∧ x.length = 1 ∧ Q (.int (x.cps.getD 0 0 : Nat)) H) gOrd := fun c H vs ss k Q eK hi r h q => by
  unfold gOrd at h
  split at h
  · obtain ⟨v, rfl, rr⟩ := paired1 r
    have e := sl_str rr
    subst e
    exact ⟨_, rfl, h.1, q _ (.d (.int _)) H (Go.self hi) ⟨_, rfl, .int _⟩ h.2⟩
  · exact h.elim
/-! ### x in xs, texts -/
def seqS : D → Option (List Str)
  | .lst xs => unS xs
  | .tup xs => unS xs
  | _ => none
def gInQ (neg : Bool) : Sl → Sl → DK → Prop := fun s t k => match s, t with
  | .d (.str z), .d y => (match seqS y with
    | some ys => k (.d (.bl (if neg then !decide (z ∈ ys) else decide (z ∈ ys))))
    | none => False)
  | _, _ => False
theorem inV_strs (z : Str) (ys : List Str) : inV (.str z) (ys.map V.str) = decide (z ∈ ys) := by
  unfold inV
  induction ys with
  | nil => rfl
  | cons y r ih =>
    rw [List.map_cons, List.any_cons, ih]
    show ((y == z) || decide (z ∈ r)) = _
    by_cases e : y = z
    · subst e
      simp
    · have e2 : ¬ z = y := fun q => e q.symm
      simp [e, e2]
theorem flat_strs (ys : List Str) : (ys.map V.str).all flatV = true := by
  induction ys with
  | nil => rfl
  | cons y r ih => exact ih
theorem o2_inQ {neg : Bool} : O2 K (rIn K neg) (gInQ neg) := fun c H x y s t k Q eK hi rs rt h q => by
  unfold gInQ at h
  split at h
  · rename_i z d
    split at h
    · rename_i ys e
      have ez := sl_str rs
      subst ez
      obtain ⟨w, ew, rr⟩ := rt
      cases ew
      have fin : ∀ (vs : List V) (ds : List D) (p : Addr), y = .ref p → RpAll c H vs ds → unS ds = some ys → (SqL K H p vs ∨ SqT K H p vs) → rIn K neg (.str z) y H Q := fun vs ds p ey ra eu sq => by
        have ev := unS_ok ra eu
        subst ev ey
        refine ⟨p, _, rfl, sq, rfl, flat_strs ys, ?_⟩
        rw [inV_strs]
        exact q _ (.d (.bl _)) H (Go.self hi) ⟨_, rfl, .bl _⟩ h
      cases rr with
      | lst nf il ra => exact fin _ _ _ rfl ra e (.inl (.inl (Or.inl il)))
      | tup il ra => exact fin _ _ _ rfl ra e (.inr (by rw [← eK]; exact il.sq))
      | _ => cases e
    · exact h.elim
  · exact h.elim
section
variable {a b : Expr} {ta tb : TE} {da db : DE}
theorem pdt_inQ (x : PD X W xw a ta da) (y : PD X W xw b tb db) (hm : lastMarks [.In] [b] = false := by with_unfolding_all rfl) : PDT X W xw (.Compare a [.In] [b] pos) (tTest (tOp (rIn X.K false) ta tb)) (dB (dOp (gInQ false) da db)) := pdt_cmp op_in_seq o2_inQ x y hm
theorem pdt_notInQ (x : PD X W xw a ta da) (y : PD X W xw b tb db) (hm : lastMarks [.NotIn] [b] = false := by with_unfolding_all rfl) : PDT X W xw (.Compare a [.NotIn] [b] pos) (tTest (tOp (rIn X.K true) ta tb)) (dB (dOp (gInQ true) da db)) := pdt_cmp op_notIn_seq o2_inQ x y hm
end
/-! ### isinstance(x, (T1, T2)) -/
def dIs2 (T1 T2 : Ty) (e : DE) : DE := fun Γ k => e Γ fun s => match s with
  | .d x => isObj x = false ∧ k (.d (.bl (isTy T1 x || isTy T2 x)))
  | _ => False
theorem pd_is2 {e : Expr} {te : TE} {de : DE} {n1 n2 : Str} {p q1 q2 qt : Pos} {kt : _} (T1 T2 : Ty) (h : PD X W xw e te de) (hm : X.mg "isinstance" = none) (hm1 : X.mg n1 = none) (hm2 : X.mg n2 = none) (hv1 : bootBuiltins n1 = some (.type T1.nm)) (hv2 : bootBuiltins n2 = some (.type T2.nm)) (hg : Gl X "isinstance" := by rfl)
    (hg1 : Gl X n1 := by rfl) (hg2 : Gl X n2 := by rfl) (hn1 : n1 ≠ "__name__" := by decide) (hn2 : n2 ≠ "__name__" := by decide) (hd1 : (n1 == ("__debug__" : Str)) = false := by decide) (hd2 : (n2 == ("__debug__" : Str)) = false := by decide)
    (hs1 : starEach [e, .Tuple [.Name n1 q1, .Name n2 q2] kt qt] X.env = (false, eval e X.env) :: starEach [.Tuple [.Name n1 q1, .Name n2 q2] kt qt] X.env := by rfl) (hs2 : starEach [.Tuple [.Name n1 q1, .Name n2 q2] kt qt] X.env = (false, eval (.Tuple [.Name n1 q1, .Name n2 q2] kt qt) X.env) :: starEach [] X.env := by rfl)
    (hs3 : starEach [.Name n1 q1, .Name n2 q2] X.env = (false, eval (.Name n1 q1) X.env) :: starEach [.Name n2 q2] X.env := by rfl) (hpl : (backTo pos (starEach [.Tuple [.Name n1 q1, .Name n2 q2] kt qt] X.env)).any (·.1) = false := by rfl) :
    PD X W xw (.Call (.Name "isinstance" p) [e, .Tuple [.Name n1 q1, .Name n2 q2] kt qt] [] pos) (tCB (rIsiT X.K) (tCons te (tCons (tTup (tCons (tC (.ty T1.nm)) (tCons (tC (.ty T2.nm)) tNil))) tNil))) (dIs2 T1 T2 de) :=
  ⟨fun tk => pe_callB call_isiT hg hm (by decide +kernel) (pa_cons (h.pe tk) (pa_cons (pe_tup (pa_cons (pe_bltn hg1 hm1 hv1 rfl hn1 hd1) (pa_cons (pe_bltn hg2 hm2 hv2 rfl hn2 hd2) pa_nil) hs3)) pa_nil hs2) hs1) (he := hs1) (hpl := hpl), fun c eK hW Γ k hk σ H st Q q => h.li c eK hW Γ _ hk σ H st _ fun v s H1 g r h1 => by
    try dsimp only at h1
    split at h1
    · rename_i x
      refine ⟨by show 2 ≤ sizeLine; decide, fun p np => ?_⟩
      obtain ⟨w, e, rr⟩ := r
      cases e
      have r2 := rr.go (H' := upd H1 p (.tup [.ty T1.nm, .ty T2.nm])) (Kp.new np)
      obtain ⟨t, ht, hT⟩ := rp_ty r2 h1.1
      rw [eK] at ht hT
      refine ⟨_, p, _, t, [.type T1.nm, .type T2.nm], isTy T1 x || isTy T2 x, rfl, upd_same, .cons (.ty _) (.cons (.ty _) .nil), ht, ?_, q _ (.d (.bl _)) _ (g.trans (Go.new g.inv np)) ⟨_, rfl, .bl _⟩ h1.2⟩
      unfold PySem.W.kitAny
      rw [hT T1]
      cases isTy T1 x with
      | true => rfl
      | false =>
        unfold PySem.W.kitAny
        dsimp only
        rw [hT T2]
        cases isTy T2 x <;> rfl
    · exact h1.elim⟩
end
end Dv
set_option Elab.async false
set_option linter.all false
set_option maxRecDepth 100000
set_option maxHeartbeats 4000000
/-! Gx: defs that are called where no repr is under way; repr of data. -/
namespace L2
open PySem PySem.Spec PyProof.Rows
/-- as FnOk, where no repr is under way -/
structure FnOkG (P : Program) (w : World) (K : PySem.W.Frag) (mg : Str → Option Value) (base : Heap) (CX : CXT) (k : Nat) (f : Addr) (fd : FuncData) (ps : List Str) (sp : Sp) : Prop where
  len : ∀ vs H Q E, sp vs H Q E → vs.length = ps.length
  run : ∀ (A : Around) (outer : List Env) (s : Shared) (H : Hp) (args : Args) (us : List Value) (vs : List V) (Q : VK) (E : XK), Room k A → A.guards = some [] → Env0 P w K mg base A outer s H → BindsTo s fd args (ps.zip us) → Vals vs us → sp vs H Q E →
    codeAny (model P w) A (.call (.ref f) args) (CR CX outer P w H s Q E) s
theorem fn_ofG {CX : CXT} {P : Program} {w : World} {K : PySem.W.Frag} {mg : Str → Option Value} {base : Heap} {k : Nat} {f : Addr} {name qual : Str} {params : Arguments} {body : List Stmt} {scope : Scope} {dV kV doc pm cdv ct oc : Value} {an od : Option Addr}
    {osl : Array (Option Value)} {N ps : List Str} {sp : Sp} (lk : K.lookup f = some ⟨oc, od, .func (PySem.W.fnOf name qual params body scope dV kV doc pm an cdv ct), osl⟩) (cd : PySem.W.codeIn K cdv qual = true) (S : FnScope N ps scope) (len : ∀ vs H Q E, sp vs H Q E → vs.length = ps.length)
    (bd : ∀ (A : Around) (outer : List Env) (s : Shared) (H : Hp) (vs : List V) (Q : VK) (E : XK), Room k (A.deeper (envOfC qual scope s.heap.objs.size f cdv)) → A.guards = some [] → sp vs H Q E →
      ∃ t, PSs (cxOf CX P w K mg base N qual scope f cdv A outer s H E) body t ∧ t { nx := fun _ H' => Q .non H', rt := Q } (start N vs) H) : FnOkG P w K mg base CX (k + 1) f (PySem.W.fnOf name qual params body scope dV kV doc pm an cdv ct) ps sp := by
  refine ⟨len, fun A outer s H args us vs Q E rm gd ev bt rl sq => ?_⟩
  have ln := len _ _ _ _ sq
  have kin : K.In s.heap := ev.mod.kin.keeps fun b o e => (ev.bs b o e).1
  have nol : s.heap.NoLimit := ev.mod.nolimit.keeps fun b o e => (ev.bs b o e).1
  have kinds : ∀ y ∈ ps.zip us, scope.names.lookup y.1 = some .local ∨ (scope.names.lookup y.1 = some .cell ∧ ((cellsFrom (s.heap.objs.size + 1) scope.names []).lookup y.1).isSome = true) := fun ⟨n, v⟩ m => by
    rcases S.par n (List.of_mem_zip m).1 with z | z
    · exact .inl z
    · exact .inr ⟨z, PySem.W.cellsFrom_some _ _ _ (.inl z)⟩
  refine codeAny_call_function rm.depth (kin _ _ lk) rfl S.co S.gen rfl (PySem.W.codeRec_of kin cd) (bt _ _ _ _ ?_)
  refine wpAny_newFunctionEnv_cells S.kind kinds fun env en s1 x => ?_
  subst en
  refine ⟨nol.keeps x.toInCall.keep, codeAny_func ?_⟩
  obtain ⟨t, pt, tq⟩ := bd A outer s H vs Q E (rm.deeper _) gd sq
  have J0 : Inv (cxOf CX P w K mg base N qual scope f cdv A outer s H E) [] (start N vs) H s1 := inv_start S rm.hd ev ln rl x
  refine wpAny_mono (pt.run [] s1 (start N vs) H _ J0 tq) (fun fl s' z => ?_) fun e s' z => z
  have fin : ∀ {σ' : St} {H' : Hp} {v : V} {u : Value}, Inv (cxOf CX P w K mg base N qual scope f cdv A outer s H E) [] σ' H' s' → RelV v u → Q v H' → CE outer P w H s Q u s' := fun {σ' H' v u} J r q => ⟨v, H', J.os, J.bare, J.base, J.hok, r, q⟩
  cases fl with
  | ret u =>
    obtain ⟨v, σ', H', J, r, q⟩ := z
    exact fin J r q
  | next =>
    obtain ⟨σ', H', J, q⟩ := z
    exact fin (v := V.non) (u := Value.none) J rfl q
  | brk =>
    obtain ⟨_, _, _, q⟩ := z
    exact q.elim
  | cont =>
    obtain ⟨_, _, _, q⟩ := z
    exact q.elim
theorem law_callG {P : Program} {w : World} {K : PySem.W.Frag} {mg mb : Str → Option Value} {CX : CXT} {k : Nat} {fa a : Addr} {fd : FuncData} {x : Str} {sp : Sp} {sA : Shared} {vs : List Value} {ns : List Int}
    (kX : K.In sA.heap) (gN : sA.heap.Ns mainGlobals mg) (hb : sA.heap.Ns builtinsNs mb) (bB : ∀ x : Str, x ≠ "__name__" → mb x = bootBuiltins x) (lM : sA.heap.NoLimit) (gE : sA.gens = #[])
    (aA : sA.heap.get? a = some { cls := .type "list", data := .seq vs.toArray }) (hInt : IntsAre vs ns) (hLen : ns.length ≤ sizeLine) (hr : Room k callerA)
    (F : ∀ base : Heap, K.In base → base.Ns mainGlobals mg → FnOkG P w K mg base CX k fa fd [x] sp) (hBd : ∀ (s : Shared) (u : Value), BindsTo s fd ⟨[u], []⟩ [(x, u)])
    (hSp : ∀ H : Hp, Only H → SqL K H a (ns.map V.int) → sp [.ref a] H (fun v _ => v = .bl true) fun _ _ _ => False)
    (hC : ∀ H e s', CX [] H sA (fun _ _ _ => False) e s' → False) :
    codeAny (model P w) callerA (.call (.ref fa) ⟨[.ref a], []⟩) (fun r s' => r = .ok (.ret (.bool true)) ∧ OldK sA.heap s'.heap ∧ s'.os = sA.os ∧ AllBare s'.gens) sA := by
  have rV := vals_ints hInt
  have lV := hInt.length
  have kern : ∀ H : Hp, Only H → SqL K H a (ns.map V.int) → HOk P w H sA.heap → (∀ b, H b ≠ none → b = a) → (H a ≠ none → K.lookup a = none) →
      codeAny (model P w) callerA (.call (.ref fa) ⟨[.ref a], []⟩) (fun r s' => r = .ok (.ret (.bool true)) ∧ OldK sA.heap s'.heap ∧ s'.os = sA.os ∧ AllBare s'.gens) sA := by
    intro H oH sH hX aH kH
    have bOf : ∀ {b : Addr} {o : Obj}, sA.heap.get? b = some o → H b = none → (hidT sA.heap H).get? b = some o := fun e n => hidT_get e n
    have nA : ∀ {b : Addr} {o : Obj} {es : Array DictEntry} {ep : Nat}, sA.heap.get? b = some o → o.data = .dict es ep → H b = none := fun {b o es ep} e d => by
      cases q : H b with
      | none => rfl
      | some u =>
        have e' : b = a := aH b (by rw [q]; simp)
        subst e'
        rw [aA] at e; cases e
        have d' : Data.seq vs.toArray _ = Data.dict es ep := d
        cases d'
    have nK : ∀ {b : Addr} {m : Str → Option Value}, sA.heap.Ns b m → (hidT sA.heap H).Ns b m := fun {b m} ⟨o, es, ep, e, d, r⟩ => ⟨o, es, ep, bOf e (nA e d), d, r⟩
    have kB : K.In (hidT sA.heap H) := fun b o e => bOf (kX b o e) (by
      cases q : H b with
      | none => rfl
      | some u =>
        have e' : b = a := aH b (by rw [q]; simp)
        subst e'
        rw [kH (by rw [q]; simp)] at e; cases e)
    have mD : Mod K mg (hidT sA.heap H) := ⟨kB, nK gN, ⟨mb, nK hb, bB⟩, let ⟨mc, h1, h2⟩ := lM; ⟨mc, nK h1, h2⟩⟩
    have eE : Env0 P w K mg (hidT sA.heap H) callerA [] sA H := ⟨rfl, mD, fun b o e => of_hidT e, Nat.le_of_eq (hidT_size _ _), trivial, fun b hb => absurd (show b ∈ ([] : List Addr) from hb) (by simp), hX, .of_eq gE⟩
    refine codeAny_mono ((F _ kB (nK gN)).run callerA [] sA H ⟨[.ref a], []⟩ [.ref a] [.ref a] _ _ hr rfl eE (hBd sA (.ref a)) (.cons rfl .nil) (hSp H oH sH)) fun r s' h => ?_
    cases r with
    | error e => exact (hC H e s' h).elim
    | ok fl =>
      cases fl with
      | next => exact False.elim h
      | brk => exact False.elim h
      | cont => exact False.elim h
      | ret u =>
        obtain ⟨v, H', os, bare, un, hX', r', q⟩ := h
        have q' : v = .bl true := q
        subst q'
        obtain rfl : u = Value.bool true := r'
        refine ⟨rfl, OldK.of_keep fun b o e => ?_, os, bare⟩
        cases q : H b with
        | none => exact un.keep b o e q (by intro z; exact absurd (show b ∈ ([] : List Addr) from z) (by simp)) (by simp)
        | some u =>
          rcases oH b with z | ⟨ob, xs, z⟩
          · rw [q] at z; cases z
          · have z2 := un.frzs b ob _ z
            obtain ⟨e1, _⟩ := hX b _ z
            obtain ⟨e2, _⟩ := hX' b _ z2
            rw [e] at e1; cases e1
            exact e2
  cases hk : K.lookup a with
  | some o =>
    have e := kX a o hk
    rw [aA] at e
    cases e
    refine kern (fun _ => none) (fun _ => .inl rfl) (.inr ⟨_, vs.toArray, _, hk, rfl, rfl, rfl, by rw [List.size_toArray, lV]; exact hLen, by simpa using rV⟩) (fun b u z => by have z' : (none : Option HO) = some u := z; cases z') (fun b z => absurd rfl z) fun z => absurd rfl z
  | none =>
    refine kern (fun b => if b = a then some (.frz { cls := .type "list", data := .seq vs.toArray } (.lst (ns.map V.int))) else none) (fun b => ?_) (.inl (.inr ⟨{ cls := .type "list", data := .seq vs.toArray }, if_pos rfl⟩)) (fun b u z => ?_) (fun b z => ?_) fun _ => hk
    · by_cases hb : b = a
      · exact .inr ⟨_, _, if_pos hb⟩
      · exact .inl (if_neg hb)
    · by_cases hb : b = a
      · have z' := (if_pos hb).symm.trans z
        cases z'
        subst hb
        exact ⟨aA, by rw [List.length_map]; exact hLen, vs, _, rV, aA⟩
      · have z' := (if_neg hb).symm.trans z
        cases z'
    · by_cases hb : b = a
      · exact hb
      · exact absurd (if_neg hb) z
theorem walk_ofG {l : PySem.W.OpenLaw} {n k : Nat} {q : Program} {loose : List Str} {XP : (Str → Option Value) → Heap → Prop} {YP : World → Heap → Prop} {d : DefRec} {K : Params → PySem.W.Frag} {CX : World → CXT} {sp : World → Sp} {x : Str}
    (mo : l.most = some n) (le : n ≤ sizeLine) (df : d.params.defaults = []) (rm : Room k callerA) (yk : ∀ (w : World) (h : Heap), YP w h → (K w.params).In h)
    (F : ∀ (w : World) (mg : Str → Option Value) (fa : Addr) (h : Heap), (K w.params).In h → h.Ns mainGlobals mg → mg d.name = some (.ref fa) →
      ∃ fd : FuncData, (∀ (s : Shared) (u : Value), BindsTo s fd ⟨[u], []⟩ [(x, u)]) ∧ ∀ base : Heap, (K w.params).In base → base.Ns mainGlobals mg → FnOkG l.prog w (K w.params) mg base (CX w) k fa fd [x] (sp w))
    (sq : ∀ (w : World) (H : Hp) (a : Addr) (ns : List Int), ns.length ≤ n → Only H → SqL (K w.params) H a (ns.map V.int) → sp w [.ref a] H (fun v _ => v = .bl true) fun _ _ _ => False)
    (cx : ∀ (w : World) (H : Hp) (s : Shared) (e : Value) (s' : Shared), CX w [] H s (fun _ _ _ => False) e s' → False) : PySem.W.WalkO q loose XP YP l.row.toRowW d [] (fun f vs => PySem.call f vs) := by
  refine Att.attach_call mo df fun w s0 s1 mg mb fa o pm cd doc a vs ns G Y h1 h2 h3 hm ho hi hle hge => ?_
  have kx := yk w _ Y
  obtain ⟨fd, bb, ff⟩ := F w mg fa _ kx G.T.g hm
  exact law_callG kx G.T.g G.T.b G.T.builtins G.T.nolimit hge ho hi (Nat.le_trans hle le) rm ff bb (fun H z y => sq w H a ns hle z y) fun H e s' => cx w H s1 e s'
section
variable {X : Cx}
/-- repr of a list, a tuple of data -/
def rReprD (K : PySem.W.Frag) : List V → Hp → VK → Prop := fun xs H Q => ∃ a d, xs = [.ref a] ∧ Dp K H (.ref a) d ∧ d.showable = true ∧ d.hasDict = false ∧ d.depth ≤ 64 ∧ d.shown.length ≤ sizeLine ∧ Q (.str d.shown) H
theorem call_reprD (gd : X.A.guards = some []) (hu : X.A.units + 70 < cLine) : CallR X (.builtin "repr") (rReprD X.K) := by
  intro pins s σ H xs us Q I r h
  obtain ⟨a, d, rfl, hd, sw, nd, dp, sz, q⟩ := h
  cases r with
  | cons r1 rs =>
    cases rs
    cases (show _ = Value.ref a from r1)
    obtain ⟨as, rd⟩ := Dp.reads I d (.ref a) (.ref a) hd rfl
    refine repr_of_reads' rd sw (fun z => by rw [nd] at z; cases z) gd (by omega) (fun b o e => e) (fun h' u tk k => ?_) sz
    exact ⟨.str d.shown, H, I.kept (t' := tk) k, ⟨_, rfl⟩, q⟩
end
end L2
namespace Dv
open PySem L2
section
variable {X : Cx} {W : WX} {xw : XW} {K : PySem.W.Frag} {pos : Pos}
def gRepr : List Sl → DK → Prop := fun ss k => match ss with
  | [.d (.lst xs)] => okD (.lst xs) = true ∧ (toPy (.lst xs)).showable = true ∧ (toPy (.lst xs)).hasDict = false ∧ (toPy (.lst xs)).shown.length ≤ 100000 ∧ k (.d (.str (toPy (.lst xs)).shown))
  | _ => False
theorem oc_repr : OC K (rReprD K) gRepr := fun c H vs ss k Q eK hi r h q => by
  unfold gRepr at h
  split at h
  · obtain ⟨v, rfl, w, e, rr⟩ := paired1 r
    cases e
    obtain ⟨h1, h2, h3, h4, h5⟩ := h
    have dp := rp_dp rr (SeqAt.canLay_of_shaped h1)
    cases rr with
    | lst nf il0 ra =>
      have il := (show Rd _ _ _ from Or.inl il0)
      rw [eK] at dp
      exact ⟨_, _, rfl, dp, h2, h3, SeqAt.depth_of_shaped h1, sz h4, q _ (.d (.str _)) H (Go.self hi) ⟨_, rfl, .str _⟩ h5⟩
  · exact h.elim
end
section
variable {P : Program} {w : World} {K : PySem.W.Frag} {mg : Str → Option Value} {base : Heap}
theorem FunD.okXG {x qual : Str} {st : Stmt} {f : Addr} {fd : FuncData} {N ps : List Str} {k : Nat} {sp : Sp} (F : FunD K x qual st f fd) (S : FnScope N ps (defScope st)) (len : ∀ vs H Q E, sp vs H Q E → vs.length = ps.length)
    (bd : ∀ (cdv : Value) (A : Around) (outer : List Env) (s : Shared) (H : Hp) (vs : List V) (Q : VK) (E : XK), Room k (A.deeper (PyProof.Rows.envOfC qual (defScope st) s.heap.objs.size f cdv)) → A.guards = some [] → sp vs H Q E →
      ∃ t, PSs (cxOf (L2.CX P w) P w K mg base N qual (defScope st) f cdv A outer s H E) (defBody st) t ∧ t { nx := fun _ H' => Q .non H', rt := Q } (L2.start N vs) H) : FnOkG P w K mg base (L2.CX P w) (k + 1) f fd ps sp := by
  obtain ⟨oc, od, dV, kV, doc, pm, an, cdv, ct, osl, e, lk, hcd⟩ := F.ex
  subst e
  exact fn_ofG lk hcd S len fun A outer s H vs Q E hr hg hsp => bd cdv A outer s H vs Q E hr hg hsp
/-- the law, where no repr is under way -/
theorem fn_okG0 {x qual : Str} {st : Stmt} {f : Addr} {fd : FuncData} {N ps : List Str} {k : Nat} (C : Ctr) (F : FunD K x qual st f fd) (S : FnScope N ps (defScope st)) (hn : ps.length = C.n)
    (body : ∀ (cdv : Value) (A : Around) (outer : List Env) (s : Shared) (H : Hp) (E : XK), Room k (A.deeper (PyProof.Rows.envOfC qual (defScope st) s.heap.objs.size f cdv)) → A.guards = some [] →
      PassesOwn (model P w) (cxOf (L2.CX P w) P w K mg base N qual (defScope st) f cdv A outer s H E).A (cxOf (L2.CX P w) P w K mg base N qual (defScope st) f cdv A outer s H E).env (cxOf (L2.CX P w) P w K mg base N qual (defScope st) f cdv A outer s H E).xe →
      ∃ ts ds, PDSs (cxOf (L2.CX P w) P w K mg base N qual (defScope st) f cdv A outer s H E) (fun cls d _ H => E cls d H) xw0 (defBody st) ts ds ∧
        ∀ ss kk xx, ss.length = C.n → C.f ss kk xx → ds { nx := fun _ => kk (.d .non), rt := kk } (startD N ss)) : FnOkG P w K mg base (L2.CX P w) (k + 1) f fd ps (C.sp K) := by
  refine F.okXG S (fun vs H Q E h => ?_) (fun cdv A outer s H vs Q E hr gd h => ?_)
  · obtain ⟨c, ss, _, _, r, hl, _⟩ := h
    rw [paired_len r, hl, hn]
  · obtain ⟨c, ss, eK, hi, r, hl, hf⟩ := h
    obtain ⟨ts, ds, pd, hd⟩ := body cdv A outer s H E hr gd (passes_of rfl)
    refine ⟨ts, pd.ps (takes_of rfl rfl rfl rfl), ?_⟩
    have q := hd ss _ _ hl hf
    let c' := c.sub.wth (Kp c.G H) (fun {H1 H2} k h => h.trans k)
    have lc : Le c c' := ⟨rfl, fun _ z => z, fun _ h => h.1, fun _ z => z, fun _ _ e => (nomatch e), fun _ z => ⟨z.1, fun y => y⟩, rfl⟩
    have s0 : StOk c' (L2.start N vs) H (startD N ss) := (start_ok (c := c.sub) hi (paired_sub r (C.no hf))).wth Kp.self
    refine pd.li c' eK WOk.zero _ _ ⟨?_, ?_, ?_, ?_, ?_⟩ _ _ _ s0 q
    · exact fun Γ σ H' st z => z .non H' ⟨st.inv.2, st.inv.1⟩ ⟨_, rfl, .non⟩
    · exact fun v s H' i r z => z v H' ⟨i.2, i.1⟩ (r.le lc)
    · exact fun _ _ _ _ z => z.elim
    · exact fun _ _ _ _ z => z.elim
    · exact fun v x H' i r z => z v H' ⟨i.2, i.1⟩ ⟨v, rfl, Rp.to (c := c'.rel) (c' := c) rfl (fun _ z => ⟨z, fun y => y⟩) Kp.self r⟩
end
end Dv
set_option Elab.async false
set_option linter.all false
set_option maxRecDepth 100000
set_option maxHeartbeats 4000000
/-! Ax: {}, {} == {}, is not True, t * n, f(text).append(None). -/
namespace Dv
open PySem L2
section
variable {X : Cx} {W : WX} {xw : XW} {K : PySem.W.Frag} {pos : Pos} {a b : Expr} {ta tb : TE} {da db : DE}
def dDic0 : DE := fun _ k => k (.d (.dic []))
theorem pd_dic0 : PD X W xw (.Dict [] [] pos) tDNewK dDic0 := ⟨fun tk => pe_dnewK, fun c eK hW Γ k hk σ H st Q q => fun p np => q _ (.d (.dic [])) _ (Go.new st.inv np) ⟨_, rfl, .dic (c.fresh st.inv np) upd_same .nil⟩ hk⟩
def gEqZ : Sl → Sl → DK → Prop := fun s t k => match s, t with
  | .d (.dic []), .d (.dic []) => k (.d (.bl true))
  | s, t => gEq s t k
theorem o2_eqZ : O2 K (rOr rEqDA (rEqD K)) gEqZ := fun c H x y s t k Q eK hi rs rt h q => by
  unfold gEqZ at h
  split at h
  · obtain ⟨v, e, r⟩ := rs
    cases e
    obtain ⟨v', e', r'⟩ := rt
    cases e'
    cases r with
    | dic n1 h1 k1 =>
      cases r' with
      | dic n2 h2 k2 =>
        cases k1
        cases k2
        exact .inl ⟨_, _, [], [], rfl, rfl, h1, h2, rfl, (fun p hp => nomatch hp), q _ (.d (.bl true)) H (Go.self hi) ⟨_, rfl, .bl _⟩ h⟩
  · exact .inr (o2_eq c H x y s t k Q eK hi rs rt h q)
theorem pd_eqZ (hu : X.A.units + 64 < cLine) (x : PD X W xw a ta da) (y : PD X W xw b tb db) : PD X W xw (.Compare a [.Eq] [b] pos) (tOp (rOr rEqDA (rEqD X.K)) ta tb) (dOp gEqZ da db) := ⟨fun tk => pe_cmpR (op_or (op_eq_dictA (by omega)) (op_eqD hu)) (x.pe tk) (y.pe tk) (nomark _), li_op o2_eqZ x.li y.li⟩
def gNotB : Sl → Sl → DK → Prop := fun s t k => match s, t with
  | .d (.bl x), .d (.bl y) => k (.d (.bl (!decide (x = y))))
  | _, _ => False
theorem o2_notB : O2 K rNotB gNotB := fun c H x y s t k Q eK hi rs rt h q => by
  unfold gNotB at h
  split at h
  · exact ⟨_, _, sl_bl rs, sl_bl rt, q _ (.d (.bl _)) H (Go.self hi) ⟨_, rfl, .bl _⟩ h⟩
  · exact h.elim
theorem pdt_notB (x : PD X W xw a ta da) (y : PD X W xw b tb db) : PDT X W xw (.Compare a [.IsNot] [b] pos) (tTest (tOp rNotB ta tb)) (dB (dOp gNotB da db)) := pdt_cmp op_notBl o2_notB x y (nomark _)
def gRepT : Sl → Sl → DK → Prop := fun s t k => match s, t with
  | .d (.tup xs), .d (.int n) => xs ≠ [] ∧ 2 ≤ n ∧ n ≤ 1000 ∧ xs.length ≤ 1000 ∧ k (.d (.tup (List.replicate n.toNat xs).flatten))
  | _, _ => False
theorem o2_repT : O2 K (rRepT K) gRepT := fun c H x y s t k Q eK hi rs rt h q => by
  unfold gRepT at h
  split at h
  · obtain ⟨h1, h2, h3, h4, h5⟩ := h
    have e := sl_int rt
    subst e
    obtain ⟨v, e, r⟩ := rs
    cases e
    cases r with
    | tup il ra =>
      refine ⟨_, _, _, rfl, rfl, by rw [← eK]; exact il.sq, fun z => ?_, h2, h3, by rw [ra.length]; exact h4, fun p np => q _ (.d (.tup _)) _ (Go.new hi np) ⟨_, rfl, .tup (.inl ⟨fun z => c.live hi z np, .inl upd_same⟩) ((rp_rep ra _).go (Kp.new np))⟩ h5⟩
      subst z
      cases ra
      exact h1 rfl
  · exact h.elim
theorem pd_repT (x : PD X W xw a ta da) (y : PD X W xw b tb db) : PD X W xw (.BinOp a .Mult b pos) (tOp (rRepT X.K) ta tb) (dOp gRepT da db) := ⟨fun tk => pe_op op_repT (x.pe tk) (y.pe tk), li_op o2_repT x.li y.li⟩
end
end Dv
set_option Elab.async false
set_option linter.all false
set_option maxRecDepth 100000
set_option maxHeartbeats 4000000
/-! Bx: a, b, c = x, y, z; a, b = a list; None in a list; xs[::-1]; text.replace. -/
namespace Dv
open PySem L2
section
variable {X : Cx} {W : WX} {xw : XW} {K : PySem.W.Frag} {pos : Pos}
theorem paired3 {α β : Type} {R : α → β → Prop} {vs : List α} {s t u : β} (r : Paired R vs [s, t, u]) : ∃ a b c, vs = [a, b, c] ∧ R a s ∧ R b t ∧ R c u := by
  cases r with
  | cons h1 r =>
    cases r with
    | cons h2 r =>
      cases r with
      | cons h3 r =>
        cases r
        exact ⟨_, _, _, rfl, h1, h2, h3⟩
def dPar3 (i j l : Nat) (a : DA) : DS := fun D Γ => a Γ fun ss => match ss with
  | [s, t, u] => D.nx (((Γ.set i s).set j t).set l u)
  | _ => False
theorem pds_par3 {i j l : Nat} {x y z : Str} {a b e : Expr} {ta : TA} {da : DA} {px py pz pt : Pos} {kt k2 pt2} (h : PDA X W xw [a, b, e] ta da) (hc : X.calm = true) (hN : X.N.Nodup) (hi : X.N[i]? = some x := by rfl) (hj : X.N[j]? = some y := by rfl) (hl : X.N[l]? = some z := by rfl) (hij : i ≠ j := by decide) (hil : i ≠ l := by decide) (hjl : j ≠ l := by decide)
    (hx : X.env.scope.names.lookup x = some .local := by rfl) (hy : X.env.scope.names.lookup y = some .local := by rfl) (hz : X.env.scope.names.lookup z = some .local := by rfl)
    (hw : swappedStores [.Tuple [.Name x px, .Name y py, .Name z pz] kt pt] (.Tuple [a, b, e] k2 pt2) X.env = pure (some [x, y, z]) := by rfl)
    (hs : swapsWithSole [.Tuple [.Name x px, .Name y py, .Name z pz] kt pt] (.Tuple [a, b, e] k2 pt2) pos.line X.env = pure false := by rfl) :
    PDS X W xw (.Assign [.Tuple [.Name x px, .Name y py, .Name z pz] kt pt] (.Tuple [a, b, e] k2 pt2) pos) (tPar3 i j l ta) (dPar3 i j l da) :=
  ⟨fun tk => ps_par3 hc hN hi hj hl hij hil hjl hx hy hz (h.pa tk) hw hs, fun c eK hW E D o Γ σ H s hd => h.li c eK hW Γ _ hd σ H s _ fun vs ss H1 g r q => by
    try dsimp only at q
    split at q
    · obtain ⟨v, w, u, rfl, r1, r2, r3⟩ := paired3 r
      exact ⟨v, w, u, rfl, o.nx _ _ H1 ((((s.go g).set r1).set r2).set r3) q⟩
    · exact q.elim⟩
/-- y, x, z = e, [], n -/
def dOwn3 (j i l k : Nat) (n : Int) (e : DE) (dr : DS) : DS := fun D Γ => e Γ fun s => match s with
  | .d y => dr (ownE k D) (((clr k (Γ.set j (.d y))).set i (.own k (.lst []))).set l (.d (.int n)))
  | _ => False
theorem pdss_own3 {i j l k : Nat} {n : Int} {x y z : Str} {a : Expr} {ta : TE} {da : DE} {px py pz pt lp cp : Pos} {cj : Nat} {kt k2 pt2} {rest : List Stmt} {tr : TS} {dr : DS} (h : PD X W xw a ta da) (hc : X.calm = true) (hN : X.N.Nodup) (r : PDSs X W (fzX k xw) rest tr dr) (hj : X.N[j]? = some y := by rfl) (hi : X.N[i]? = some x := by rfl) (hl : X.N[l]? = some z := by rfl) (hij : j ≠ i := by decide) (hil : j ≠ l := by decide) (hjl : i ≠ l := by decide)
    (hy : X.env.scope.names.lookup y = some .local := by rfl) (hx : X.env.scope.names.lookup x = some .local := by rfl) (hz : X.env.scope.names.lookup z = some .local := by rfl) (hst : starEach [a, .List [] lp, .Constant (.int n) cj cp] X.env = (false, eval a X.env) :: starEach [.List [] lp, .Constant (.int n) cj cp] X.env := by rfl)
    (hw : swappedStores [.Tuple [.Name y py, .Name x px, .Name z pz] kt pt] (.Tuple [a, .List [] lp, .Constant (.int n) cj cp] k2 pt2) X.env = pure (some [y, x, z]) := by rfl) (hs : swapsWithSole [.Tuple [.Name y py, .Name x px, .Name z pz] kt pt] (.Tuple [a, .List [] lp, .Constant (.int n) cj cp] k2 pt2) pos.line X.env = pure false := by rfl) :
    PDSs X W xw (.Assign [.Tuple [.Name y py, .Name x px, .Name z pz] kt pt] (.Tuple [a, .List [] lp, .Constant (.int n) cj cp] k2 pt2) pos :: rest) (tSeq (tPar3 j i l (tCons ta (tCons (tLst tNil) (tCons (tC (.int n)) tNil)))) tr) (dOwn3 j i l k n da dr) :=
  ⟨fun tk => pss_cons (ps_par3 hc hN hj hi hl hij hil hjl hy hx hz (pa_cons (h.pe tk) (pa_cons (pe_lst pa_nil) (pa_cons pe_int pa_nil)) hst) hw hs) (r.ps tk), fun c eK hW E D o Γ σ H s hd => h.li c eK hW Γ _ hd σ H s _ fun v s' H1 g rr q => by
    try dsimp only at q
    split at q
    · refine ⟨Nat.zero_le _, fun p np => ⟨_, _, _, rfl, ?_⟩⟩
      obtain ⟨ha, s2⟩ := mine_new (k := k) (i := i) ((s.go g).set (i := j) rr) np
      exact r.li (c.mine k p ha) eK hW.mine E _ o.mine _ _ _ (s2.set (i := l) (o := some (.int n)) (s := .d (.int n)) ⟨_, rfl, .int n⟩) q
    · exact q.elim⟩
/-- (a, b) = a list -/
def dgUnl (n : Nat) (a : DGs) : DG := fun d Γ k => match d with
  | .lst xs => xs.length = n ∧ a xs Γ k
  | _ => False
theorem pdg_unl {es : List Expr} {k : _} {t : TGs} {a : DGs} {n : Nat} (hc : X.calm = true) (h : PDGs X es t a) (hn : (assignEach es X.env).length = n := by rfl) (hst : (assignEach es X.env).findIdx? (·.1) = none := by rfl) : PDG X (.Tuple es k pos) (gUnl X.K n t) (dgUnl n a) :=
  ⟨pg_unl hc h.pg hn hst, fun c eK x d Γ σ H k s r hd Q q => by
    unfold dgUnl at hd
    split at hd
    · cases r with
      | lst nf il ra => exact ⟨_, _, rfl, .inl (.inl il), by rw [ra.length]; exact hd.1, h.li c eK _ _ Γ σ H k s ra hd.2 Q q⟩
    · exact hd.elim⟩
/-! ### None in a list of ints and Nones -/
def flatD : D → Bool
  | .non => true
  | .int _ => true
  | _ => false
def gInN : Sl → Sl → DK → Prop := fun s t k => match s, t with
  | .d .non, .d (.lst xs) => xs.all flatD = true ∧ k (.d (.bl (xs.any isNon)))
  | _, _ => False
theorem flat_rp {c : Cfg} {H : Hp} : ∀ {vs : List V} {ds : List D}, RpAll c H vs ds → ds.all flatD = true → vs.all flatV = true ∧ inV .non vs = ds.any isNon
  | _, _, .nil, _ => ⟨rfl, rfl⟩
  | v :: vs, d :: ds, .cons h r, e => by
    rw [List.all_cons, Bool.and_eq_true] at e
    obtain ⟨i1, i2⟩ := flat_rp r e.2
    unfold inV at i2
    have z : flatV v = true ∧ eqV v .non = isNon d := by
      cases h <;> first | exact ⟨rfl, rfl⟩ | exact (nomatch e.1)
    refine ⟨by rw [List.all_cons, z.1, i1]; rfl, ?_⟩
    unfold inV
    rw [List.any_cons, List.any_cons, z.2, i2]
theorem o2_inN : O2 K (rIn K false) gInN := fun c H x y s t k Q eK hi rs rt h q => by
  unfold gInN at h
  split at h
  · obtain ⟨h1, h2⟩ := h
    have ex := sl_non rs
    subst ex
    obtain ⟨w, ew, rr⟩ := rt
    cases ew
    cases rr with
    | lst nf il ra =>
      obtain ⟨i1, i2⟩ := flat_rp ra h1
      refine ⟨_, _, rfl, .inl (.inl (.inl il)), rfl, i1, ?_⟩
      rw [i2]
      exact q _ (.d (.bl _)) H (Go.self hi) ⟨_, rfl, .bl _⟩ h2
  · exact h.elim
section
variable {a b : Expr} {ta tb : TE} {da db : DE}
theorem pdt_inN (x : PD X W xw a ta da) (y : PD X W xw b tb db) (hm : lastMarks [.In] [b] = false := by with_unfolding_all rfl) : PDT X W xw (.Compare a [.In] [b] pos) (tTest (tOp (rIn X.K false) ta tb)) (dB (dOp gInN da db)) := pdt_cmp op_in_seq o2_inN x y hm
/-! ### xs[::-1] -/
def dRevL (e : DE) : DE := fun Γ k => e Γ fun s => match s with
  | .d (.lst xs) => k (.d (.lst xs.reverse))
  | _ => False
theorem RpAll.rev {c : Cfg} {H : Hp} : ∀ {vs : List V} {ds : List D}, RpAll c H vs ds → RpAll c H vs.reverse ds.reverse
  | _, _, .nil => .nil
  | v :: vs, d :: ds, .cons h r => by
    rw [List.reverse_cons, List.reverse_cons]
    exact RpAll.append (RpAll.rev r) (.cons h .nil)
theorem pd_revL {k : Nat} {p1 p2 p3 : Pos} (h : PD X W xw a ta da) : PD X W xw (.Subscript a (.Slice none none (some (.UnaryOp .USub (.Constant (.int 1) k p1) p2)) p3) pos) (tRevL X.K ta) (dRevL da) :=
  ⟨fun tk => pe_revL (h.pe tk), fun c eK hW Γ k hk σ H st Q q => h.li c eK hW Γ _ hk σ H st _ fun v s H1 g1 r1 h1 => by
    try dsimp only at h1
    split at h1
    · obtain ⟨w, e, rr⟩ := r1
      cases e
      cases rr with
      | lst nf il ra => exact ⟨_, _, rfl, .inl (Or.inl il), fun p np => q _ (.d (.lst _)) _ (g1.trans (Go.new g1.inv np)) ⟨_, rfl, rp_newL g1.inv np ra.rev⟩ h1⟩
    · exact h1.elim⟩
end
end
end Dv
set_option Elab.async false
set_option linter.all false
set_option maxRecDepth 100000
set_option maxHeartbeats 4000000
/-! Rx: text.replace(written, written), text.replace(written, written, 1), in defs where a token is out. -/
namespace L2
open PySem PySem.Spec PyProof.Rows Builtin Builtin.Str
/-- text.replace(y, z, 1) -/
def repl1 (x y z : Str) : Str := if ((occurrences x y 0 x.length 1).isEmpty || (y.length == 0 && z.length == 0)) = true then x else glued z (partsBetween x (occurrences x y 0 x.length 1) y.length)
theorem gives_repl1 (x y z : Str) (t u v c : Tok)
    (hf : ((occurrences x y 0 x.length 1).isEmpty || (y.length == 0 && z.length == 0)) = false →
      (u == 0 || v == 0) = false ∧ (u == v) = false ∧ (y == z) = false ∧ tooLong (x.length + (occurrences x y 0 x.length 1).length * z.length) = false) :
    Gives («str.replace» ⟨[.str x t, .str y u, .str z v, .int 1 c], []⟩) (if ((occurrences x y 0 x.length 1).isEmpty || (y.length == 0 && z.length == 0)) = true then .val (.str x t) else .str (glued z (partsBetween x (occurrences x y 0 x.length 1) y.length))) := by
  show Gives (if ((occurrences x y 0 x.length 1).isEmpty || (y.length == 0 && z.length == 0)) = true then (do rule "str.replace.nothing"; ret (.str x t)) else
          (do let same ← isSame (.str y u) (.str z v)
              if same = true then (do rule "str.replace.old-is-new"; ret (.str x t)) else
              if tooLong (x.length + (occurrences x y 0 x.length 1).length * z.length) = true then unsupported "str.replace:memory" else
              retStr (glued z (partsBetween x (occurrences x y 0 x.length 1) y.length)))) _
  cases hc : ((occurrences x y 0 x.length 1).isEmpty || (y.length == 0 && z.length == 0))
  · obtain ⟨h0, huv, hyz, hl⟩ := hf hc
    rw [isSame_str_other y z u v h0 huv hyz, hl]
    exact .of_eq rfl
  · exact .rule (.of_eq rfl)
theorem occ1 (x y : Str) : (occurrences x y 0 x.length 1).length ≤ 1 := StrLaws.occ_length_le x y 0 x.length 1
theorem fits1 {x y z : Str} (hb : x.length + z.length ≤ 1000000) : (glued z (partsBetween x (occurrences x y 0 x.length 1) y.length)).length ≤ x.length + z.length := by
  have h1 := occ1 x y
  have hy : (glued y (partsBetween x (occurrences x y 0 x.length 1) y.length)).length = x.length := by rw [StrLaws.glued_between_self]
  rw [size_glued, length_partsBetween, Nat.add_sub_cancel] at hy
  rw [size_glued, length_partsBetween, Nat.add_sub_cancel]
  have h2 : (occurrences x y 0 x.length 1).length * z.length ≤ 1 * z.length := Nat.mul_le_mul_right _ h1
  omega
theorem repl1_len {x y z : Str} (hb : x.length + z.length ≤ 1000000) : (repl1 x y z).length ≤ x.length + z.length := by
  unfold repl1
  split
  · omega
  · exact fits1 hb
theorem call_repl1 {prog : Program} {w : World} {A : Around} {E : Value → Shared → Prop} {s : Shared} {x y z : Str} {t u v c : Tok} {Q : Value → Shared → Prop} (hu : u ≠ 0) (hv : v ≠ 0) (huv : u ≠ v) (hyz : (y == z) = false) (hb : x.length + z.length ≤ 1000000)
    (hq : ∀ t' k, Q (.str (repl1 x y z) t') { s with toks := k }) : wpAny (model prog w) A (call (.builtin "str.replace") [.str x t, .str y u, .str z v, .int 1 c]) Q E s := by
  have hl : tooLong (x.length + (occurrences x y 0 x.length 1).length * z.length) = false := by
    have h1 := occ1 x y
    have h2 : (occurrences x y 0 x.length 1).length * z.length ≤ 1 * z.length := Nat.mul_le_mul_right _ h1
    unfold tooLong sizeLine
    exact decide_eq_false (by omega)
  refine call_gives F.slot_str_replace (typeIs_str _ _ _) F.entry_str_replace (F.args_str_replace_4 _ _ _ _)
    (gives_repl1 x y z t u v c fun _ => ⟨by simp [hu, hv], by simp [huv], hyz, hl⟩) ?_
  have hq' := hq
  unfold repl1 at hq'
  cases hc : ((occurrences x y 0 x.length 1).isEmpty || (y.length == 0 && z.length == 0))
  · rw [hc] at hq'
    simp only [Bool.false_eq_true, if_false] at hq' ⊢
    exact ⟨by rw [sizeLine_eq]; have := fits1 (y := y) hb; omega, hq' _ _⟩
  · rw [hc] at hq'
    simp only [if_true] at hq' ⊢
    exact hq' t s.toks
theorem Call_method3 {prog : Program} {w : World} {A : Around} {E : Value → Shared → Prop} {s : Shared} {env : Env} {o e₁ e₂ e₃ : Expr} {name : Str} {apos pos : Pos} {Q : Value → Shared → Prop}
    (hbase : attributeBase o name env (eval o env) = eval o env) (hs : starEach [e₁, e₂, e₃] env = [(false, eval e₁ env), (false, eval e₂ env), (false, eval e₃ env)]) (hline : (apos.endLine == pos.line) = true)
    (h : wpAny (model prog w) A (eval o env) (fun ov s₁ => MethodOnS prog w A E name ov pos [(false, eval e₁ env), (false, eval e₂ env), (false, eval e₃ env)] Q s₁) E s) :
    wpAny (model prog w) A (eval (.Call (.Attribute o name apos) [e₁, e₂, e₃] [] pos) env) Q E s := by
  refine wpAny_Call_method_lateS hbase (by rw [hs]; rfl) hline ?_
  rw [hs]; exact h
def tRepl1 (to : TE) (y z : Str) : TE := fun σ H Q => to σ H fun v H1 => ∃ x, v = .str x ∧ x.length + z.length ≤ 1000000 ∧ Q (.str (repl1 x y z)) H1
section
variable {X : Cx} {o e : Expr} {te to : TE} {y z : Str} {j k l : Nat} {c0 c1 c2 apos pos : Pos}
theorem pet_repl1 (ho : PE X o to) (hyz : (y == z) = false := by decide)
    (hst : starEach [.Constant (.str y) j c0, .Constant (.str z) k c1, .Constant (.int 1) l c2] X.env = [(false, eval (.Constant (.str y) j c0) X.env), (false, eval (.Constant (.str z) k c1) X.env), (false, eval (.Constant (.int 1) l c2) X.env)] := by rfl)
    (hbase : attributeBase o "replace" X.env (eval o X.env) = eval o X.env := by rfl) (hline : (apos.endLine == pos.line) = true := by rfl) :
    PET X (.Call (.Attribute o "replace" apos) [.Constant (.str y) j c0, .Constant (.str z) k c1, .Constant (.int 1) l c2] [] pos) (tRepl1 to y z) := by
  intro pins s σ H Q h0 I h
  refine Call_method3 hbase hst hline (wpAny_mono (PySem.wpAny_toks (ho.run pins s σ H _ I h)) (fun v s1 q => ?_) fun _ _ z => z.2)
  obtain ⟨hk, v', H1, I1, r1, x, e1, hb, q⟩ := q
  subst e1
  obtain ⟨tx, e2⟩ := r1
  subst e2
  refine ⟨"str", _, PySem.F.plainAttrs_str, PySem.F.slot_str_replace, PySem.F.type_str_replace, typeIs_str _ _ _, (fun _ e => nomatch e), Calls.callWith_builtin rfl (Calls.evalArgs_plain (Calls.spliced_cons ?_))⟩
  refine Calls.Constant_str (Calls.spliced_cons (Calls.Constant_str (Calls.spliced_cons (wpAny_Constant_int (Calls.spliced_nil ?_)))))
  exact call_repl1 (by show s1.toks ≠ 0; omega) (by show s1.toks + 1 ≠ 0; omega) (by show s1.toks ≠ s1.toks + 1; omega) hyz hb fun t' k => ⟨.str (repl1 x y z), H1, I1.tok k, ⟨t', rfl⟩, q⟩
theorem pst_set {i : Nat} {x : Str} {pos' : Pos} (hN : X.N.Nodup) (hi : X.N[i]? = some x) (hx : Loc X.env.scope x) (he : PET X e te) (hs : swapsWith e (some (.Name x pos')) pos.line X.env = pure false := by rfl) (hf : X.fn x = true ∨ X.env.scope.names.lookup x = some .local := by first | exact .inl rfl | exact .inr rfl | assumption) :
    PST X (.Assign [.Name x pos'] e pos) (tAsg te (gName i)) := by
  intro pins s σ H D h0 I h
  refine wpAny_Assign_Name (thn (he pins s σ H _ h0 I h) fun v s1 ⟨y, H1, I1, r1, q1⟩ => ?_) hs
  exact store_ok I1 hN hi hx r1 (fun s2 I2 => ⟨_, H1, I2, q1⟩) hf
end
end L2
namespace Dv
open PySem L2
/-! ### the signs of what replace gives -/
theorem sub_mem {x : Str} {i j n : Nat} (h : n ∈ TL.tl (Builtin.Str.strSub x i j)) : n ∈ TL.tl x := by
  rw [TL.tl_strSub] at h
  exact List.mem_of_mem_drop (List.mem_of_mem_take h)
theorem joinL_mem' {S : List Nat} {n : Nat} : ∀ {ps : List (List Nat)}, n ∈ TL.joinL S ps → n ∈ S ∨ ∃ p ∈ ps, n ∈ p
  | [], h => by cases h
  | [p], h => .inr ⟨p, List.mem_cons_self .., h⟩
  | p :: q :: r, h => by
    rcases List.mem_append.mp h with h | h
    · exact .inr ⟨p, List.mem_cons_self .., h⟩
    rcases List.mem_append.mp h with h | h
    · exact .inl h
    · rcases joinL_mem' h with h | ⟨x, hx, h⟩
      · exact .inl h
      · exact .inr ⟨x, List.mem_cons_of_mem _ hx, h⟩
theorem parts_mem {x z : Str} {cuts : List Nat} {w n : Nat} (h : n ∈ TL.tl (Builtin.Str.glued z (Builtin.Str.partsBetween x cuts w))) : n ∈ TL.tl x ∨ n ∈ TL.tl z := by
  rw [StrLaws.glued_eq_join, TL.tl_join] at h
  rcases joinL_mem' h with h | ⟨p, hp, h⟩
  · exact .inr h
  · obtain ⟨q, hq, rfl⟩ := List.mem_map.mp hp
    unfold Builtin.Str.partsBetween at hq
    obtain ⟨⟨i, j⟩, _, rfl⟩ := List.mem_map.mp hq
    exact .inl (sub_mem h)
theorem repl1_mem {x y z : Str} {n : Nat} (h : n ∈ TL.tl (repl1 x y z)) : n ∈ TL.tl x ∨ n ∈ TL.tl z := by
  unfold repl1 at h
  split at h
  · exact .inl h
  · exact parts_mem h
theorem repl_mem {x y z : Str} {n : Nat} (h : n ∈ TL.tl (Txt.replace x y z)) : n ∈ TL.tl x ∨ n ∈ TL.tl z := by
  unfold Txt.replace at h
  split at h
  · exact .inl h
  · exact parts_mem h
/-- some text of these signs -/
def dRepl (z : Str) (e : DE) : DE := fun Γ k => e Γ fun s => match s with
  | .d (.str x) => x.length ≤ 10000 ∧ z.length ≤ 100 ∧ ∀ r : Str, (∀ n ∈ TL.tl r, n ∈ TL.tl x ∨ n ∈ TL.tl z) → r.length ≤ x.length + (x.length + 1) * z.length → k (.d (.str r))
  | _ => False
structure PDe (X : Cx) (W : WX) (xw : XW) (e : Expr) (te : TE) (de : DE) : Prop where
  pe : Takes X W → PET X e te
  li : Li X.K W xw te de
structure PDAe (X : Cx) (W : WX) (xw : XW) (es : List Expr) (ta : TA) (da : DA) : Prop where
  pa : Takes X W → PAT X es ta
  li : LiA X.K W xw ta da
structure PDSe (X : Cx) (W : WX) (xw : XW) (st : Stmt) (ts : TS) (ds : DS) : Prop where
  ps : Takes X W → PST X st ts
  li : LiS X.K W xw ts ds
structure PDSse (X : Cx) (W : WX) (xw : XW) (st : List Stmt) (ts : TS) (ds : DS) : Prop where
  ps : Takes X W → PSsT X st ts
  li : LiS X.K W xw ts ds
section
variable {X : Cx} {W : WX} {xw : XW} {pos : Pos} {a b : Expr} {ta tb : TE} {da db : DE} {st : Stmt} {rest : List Stmt} {t u : TS} {d e : DS}
theorem PDe.of (h : PD X W xw a ta da) : PDe X W xw a ta da := ⟨fun tk => CwR.PET.of (h.pe tk), h.li⟩
theorem PDSe.of (h : PDS X W xw st t d) : PDSe X W xw st t d := ⟨fun tk => PST.of (h.ps tk), h.li⟩
theorem pde_add (x : PDe X W xw a ta da) (y : PDe X W xw b tb db) : PDe X W xw (.BinOp a .Add b pos) (tOp (rAddA X.K) ta tb) (dOp gAdd da db) := ⟨fun tk => CwR.pet_op op_addA (x.pe tk) (y.pe tk), li_op o2_add x.li y.li⟩
theorem pdae_nil : PDAe X W xw [] tNil dNil := ⟨fun tk => pat_nil, pda_nil.li⟩
theorem pdae_cons {es : List Expr} {tr : TA} {dr : DA} (x : PDe X W xw a ta da) (r : PDAe X W xw es tr dr) (hs : starEach (a :: es) X.env = (false, eval a X.env) :: starEach es X.env := by rfl) : PDAe X W xw (a :: es) (tCons ta tr) (dCons da dr) :=
  ⟨fun tk => pat_cons (x.pe tk) (r.pa tk) hs, fun c eK hW Γ k h σ H st Q q => x.li c eK hW Γ _ h σ H st _ fun v s H1 g1 r1 h1 => r.li c eK hW Γ _ h1 σ H1 (st.go g1) _ fun vs ss H2 g2 r2 h2 => q (v :: vs) (s :: ss) H2 (g1.trans g2) (.cons (r1.go g2.keep) r2) h2⟩
theorem pde_lst {es : List Expr} {tr : TA} {dr : DA} (x : PDAe X W xw es tr dr) : PDe X W xw (.List es pos) (tLst tr) (dLst dr) :=
  ⟨fun tk => pet_lst (x.pa tk), fun c eK hW Γ k h σ H st Q q => x.li c eK hW Γ _ h σ H st _ fun vs ss H1 g1 r1 h1 => by
    split at h1
    · rename_i ds e
      have rr := unD_ok r1 e
      exact ⟨by rw [rr.length]; exact sz h1.1, fun p n => q _ (.d (.lst ds)) _ (g1.trans (Go.new g1.inv n)) ⟨_, rfl, rp_newL g1.inv n rr⟩ h1.2⟩
    · exact h1.elim⟩
theorem pde_repl {y z : Str} {j k : Nat} {c0 c1 apos : Pos} (h : PD X W xw a ta da) (hyz : (y == z) = false := by decide)
    (hst : starEach [.Constant (.str y) j c0, .Constant (.str z) k c1] X.env = [(false, eval (.Constant (.str y) j c0) X.env), (false, eval (.Constant (.str z) k c1) X.env)] := by rfl)
    (hbase : attributeBase a "replace" X.env (eval a X.env) = eval a X.env := by rfl) (hline : (apos.endLine == pos.line) = true := by rfl) :
    PDe X W xw (.Call (.Attribute a "replace" apos) [.Constant (.str y) j c0, .Constant (.str z) k c1] [] pos) (CwR.tReplC ta y z) (dRepl z da) :=
  ⟨fun tk => CwR.pet_replC (h.pe tk) hyz hst hbase hline, fun c eK hW Γ k hk σ H st Q q => h.li c eK hW Γ _ hk σ H st _ fun v s H1 g r h1 => by
    try dsimp only at h1
    split at h1
    · rename_i x
      have e := sl_str r
      obtain ⟨h2, h3, h4⟩ := h1
      have hm : (x.length + 1) * z.length ≤ 10001 * 100 := Nat.mul_le_mul (by omega) h3
      exact ⟨_, e, by omega, q _ (.d (.str _)) H1 g ⟨_, rfl, .str _⟩ (h4 _ (fun n hn => repl_mem hn) (TK.replace_len x y z))⟩
    · exact h1.elim⟩
theorem pde_repl1 {y z : Str} {j k l : Nat} {c0 c1 c2 apos : Pos} (h : PD X W xw a ta da) (hyz : (y == z) = false := by decide)
    (hst : starEach [.Constant (.str y) j c0, .Constant (.str z) k c1, .Constant (.int 1) l c2] X.env = [(false, eval (.Constant (.str y) j c0) X.env), (false, eval (.Constant (.str z) k c1) X.env), (false, eval (.Constant (.int 1) l c2) X.env)] := by rfl)
    (hbase : attributeBase a "replace" X.env (eval a X.env) = eval a X.env := by rfl) (hline : (apos.endLine == pos.line) = true := by rfl) :
    PDe X W xw (.Call (.Attribute a "replace" apos) [.Constant (.str y) j c0, .Constant (.str z) k c1, .Constant (.int 1) l c2] [] pos) (tRepl1 ta y z) (dRepl z da) :=
  ⟨fun tk => pet_repl1 (h.pe tk) hyz hst hbase hline, fun c eK hW Γ k hk σ H st Q q => h.li c eK hW Γ _ hk σ H st _ fun v s H1 g r h1 => by
    try dsimp only at h1
    split at h1
    · rename_i x
      have e := sl_str r
      obtain ⟨h2, h3, h4⟩ := h1
      have hb : x.length + z.length ≤ 1000000 := by omega
      have hm : 1 * z.length ≤ (x.length + 1) * z.length := Nat.mul_le_mul_right _ (by omega)
      exact ⟨_, e, hb, q _ (.d (.str _)) H1 g ⟨_, rfl, .str _⟩ (h4 _ (fun n hn => repl1_mem hn) (by have := repl1_len (y := y) hb; omega))⟩
    · exact h1.elim⟩
theorem pdse_set {i : Nat} {x : Str} {pos' : Pos} (h : PDe X W xw a ta da) (hN : X.N.Nodup) (hi : X.N[i]? = some x := by rfl) (hx : Loc X.env.scope x := by first | exact Or.inl rfl | exact Or.inr rfl) (hs : swapsWith a (some (.Name x pos')) pos.line X.env = pure false := by rfl) (hf : X.fn x = true ∨ X.env.scope.names.lookup x = some .local := by first | exact .inl rfl | exact .inr rfl | assumption) :
    PDSe X W xw (.Assign [.Name x pos'] a pos) (tAsg ta (gName i)) (dAsg i da) :=
  ⟨fun tk => pst_set hN hi hx (h.pe tk) hs hf, fun c eK hW E D o Γ σ H s hd => h.li c eK hW Γ _ hd σ H s _ fun v s' H1 g r q => o.nx _ _ H1 ((s.go g).set r) q⟩
theorem pdse_ret (h : PDe X W xw a ta da) : PDSe X W xw (.Return (some a) pos) (tRet ta) (dRet da) :=
  ⟨fun tk => CwR.pst_ret (h.pe tk), fun c eK hW E D o Γ σ H s hd => h.li c eK hW Γ _ hd σ H s _ fun v s' H1 g r q => o.rt v s' H1 g.inv r q⟩
theorem pdsse_cons (h1 : PDSe X W xw st t d) (h2 : PDSse X W xw rest u e) : PDSse X W xw (st :: rest) (tSeq t u) (dSeq d e) := ⟨fun tk => psst_cons (h1.ps tk) (h2.ps tk), li_seq h1.li h2.li⟩
theorem psst_one' (h : PST X st t) : PSsT X [st] t := by
  have q := CwR.psst_one h
  exact q
theorem pdsse_one (h1 : PDSe X W xw st t d) : PDSse X W xw [st] t d := ⟨fun tk => psst_one' (h1.ps tk), h1.li⟩
end
section
variable {P : Program} {w : World} {K : PySem.W.Frag} {mg : Str → Option Value} {base : Heap}
/-- a def with a parameter: a token is out where its body begins -/
theorem fn_okT {x qual : Str} {st : Stmt} {f : Addr} {fd : FuncData} {N ps : List Str} {k : Nat} (C : Ctr) (F : Fun K x qual st f fd) (S : FnScope N ps (defScope st)) (hn : ps.length = C.n) (hp : 1 ≤ ps.length) (hc : ∀ y ∈ (defScope st).names, y.2 ≠ .cell)
    (body : ∀ (cdv : Value) (A : Around) (outer : List Env) (s : Shared) (H : Hp) (E : XK) (xw : XW), Room k (A.deeper (PyProof.Rows.envOfC qual (defScope st) s.heap.objs.size f cdv)) →
      PassesOwn (model P w) (cxOf (L2.CX P w) P w K mg base N qual (defScope st) f cdv A outer s H E).A (cxOf (L2.CX P w) P w K mg base N qual (defScope st) f cdv A outer s H E).env (cxOf (L2.CX P w) P w K mg base N qual (defScope st) f cdv A outer s H E).xe →
      ∃ ts ds, PDSse (cxOf (L2.CX P w) P w K mg base N qual (defScope st) f cdv A outer s H E) (fun cls d _ H => E cls d H) xw (defBody st) ts ds ∧
        ∀ ss kk xx, ss.length = C.n → C.f ss kk xx → (xw = fun A p _ => xx A p) → ds { nx := fun _ => kk (.d .non), rt := kk } (startD N ss)) : FnOk P w K mg base (L2.CX P w) (k + 1) f fd ps (C.sp K) := by
  obtain ⟨oc, od, kV, doc, pm, an, cdv, ct, osl, e, lk, hcd⟩ := F.ex
  subst e
  refine fn_ofT lk hcd S hc hp (fun vs H Q E h => ?_) (fun A outer s H vs Q E hr h => ?_)
  · obtain ⟨c, ss, _, _, r, hl, _⟩ := h
    rw [paired_len r, hl, hn]
  · obtain ⟨c, ss, eK, hi, r, hl, hf⟩ := h
    obtain ⟨ts, ds, pd, hd⟩ := body cdv A outer s H E (fun A p _ => ∀ d H', Go c H H' → XOk c H' d p → E (.ref A) d H') hr (passes_of rfl)
    refine ⟨ts, pd.ps (takes_of rfl rfl rfl rfl), ?_⟩
    have q := hd ss _ _ hl hf rfl
    let c' := c.sub.wth (Kp c.G H) (fun {H1 H2} k h => h.trans k)
    have lc : Le c c' := ⟨rfl, fun _ z => z, fun _ h => h.1, fun _ z => z, fun _ _ e => (nomatch e), fun _ z => ⟨z.1, fun y => y⟩, rfl⟩
    have s0 : StOk c' (L2.start N vs) H (startD N ss) := (start_ok (c := c.sub) hi (paired_sub r (C.no hf))).wth Kp.self
    refine pd.li c' eK ?_ _ _ ⟨?_, ?_, ?_, ?_, ?_⟩ _ _ _ s0 q
    · exact fun σ H' Γ A d p st x z => z d H' ⟨st.inv.2, st.inv.1⟩ (x.le lc)
    · exact fun Γ σ H' st z => z .non H' ⟨st.inv.2, st.inv.1⟩ ⟨_, rfl, .non⟩
    · exact fun v s H' i r z => z v H' ⟨i.2, i.1⟩ (r.le lc)
    · exact fun _ _ _ _ z => z.elim
    · exact fun _ _ _ _ z => z.elim
    · exact fun v x H' i r z => z v H' ⟨i.2, i.1⟩ ⟨v, rfl, Rp.to (c := c'.rel) (c' := c) rfl (fun _ z => ⟨z, fun y => y⟩) Kp.self r⟩
end
end Dv
set_option Elab.async false
set_option linter.all false
set_option maxRecDepth 100000
set_option maxHeartbeats 4000000
/-! Lx: several clauses 'except x as n'; repr of any data; f(lambda: e). -/
namespace L2
open PySem PySem.Spec PyProof.Rows
/-- what clauses 'except x as n' wish, one after the other: slot i is n's -/
def wAll (K : PySem.W.Frag) (i : Nat) (Wo : WX) (D : Ends) : List (Value × (Addr → Value → Option Addr → TS)) → WX
  | [] => Wo
  | (c, ts) :: r => wAs K c i ts (wAll K i Wo D r) D
inductive AsOk (X : Cx) (n : Str) : List ExceptHandler → List (Value × (Addr → Value → Option Addr → TS)) → Prop
  | nil : AsOk X n [] []
  | cons {x : Str} {c : Value} {ts : Addr → Value → Option Addr → TS} {b : Stmt} {bs : List Stmt} {p q : Pos} {hs : List ExceptHandler} {l : List (Value × (Addr → Value → Option Addr → TS))} (nm : Names X x c)
      (su : ∀ (a : Addr) (oe : Obj) (cls : Value) (d : Option Addr) (pn : List (Addr × Obj)), Zc cls d oe → (∃ vs, oe.data = .fields vs) → PSs (X.suite a ((a, oe) :: pn)) (b :: bs) (ts a cls d)) (r : AsOk X n hs l) :
      AsOk X n (.ExceptHandler (some (.Name x p)) (some n) (b :: bs) q :: hs) ((c, ts) :: l)
section
variable {X : Cx} {n : Str} {i : Nat} {body : List Stmt} {h1 : ExceptHandler} {hs : List ExceptHandler} {l : List (Value × (Addr → Value → Option Addr → TS))} {pos : Pos} {tb : WX → TS} {Wo : WX}
theorem ps_tries (stk : X.stack = X.env :: X.outer) (fr : X.env.frame = some X.env.locals) (nd : X.N.Nodup) (ni : X.N[i]? = some n) (nl : X.env.kindOf n = some .local) (tk : Takes X Wo)
    (hb : ∀ (W : WX) (pn : List (Addr × Obj)) (xe : Value → Shared → Prop), Takes (X.tr pn xe) W → PassesOwn (model X.prog X.w) X.A X.env xe → PSs (X.tr pn xe) body (tb W))
    (hk : AsOk X n (h1 :: hs) l) : PS X (.Try body (h1 :: hs) [] [] pos) (fun D σ H => tb (wAll X.K i Wo D l) D σ H) := by
  refine ⟨fun pins s σ H D I hyp => ?_⟩
  have iok := I.ok
  have frames : X.A.frames = some (X.env :: X.outer) := by rw [iok.frames, stk]
  refine wpAny_Try_except ?_
  refine wpAny_mono ((hb (wAll X.K i Wo D l) (X.pn ++ pins) (fun e t1 => wpAny (model X.prog X.w) X.A (noteFrame e X.env) (fun _ t2 => wpAny (model X.prog X.w) X.A (setFlight e none) (fun _ t3 =>
    wpAny (model X.prog X.w) X.A (handleBy e X.env (h1 :: hs)) (SP X pins D) X.xe t3) X.xe t2) X.xe t1) (fun u z xx => ?_) PassesOwn.looking).run [] s σ H D (I.toTry _) hyp) (fun f t1 sp => ?_) (fun e t1 he => he)
  · obtain ⟨a, B, sI, pins', σ', H', cls, d, rfl, J', nb, up, sky, na, os, ag, wish⟩ := xx
    have J : Inv X pins σ' H' sI := J'.ofTry iok
    have sky2 : Sky B (X.env :: X.outer) a (Zc cls d) X.env.locals z.heap := by rw [← stk]; exact sky
    show wpAny (model X.prog X.w) X.A (noteFrame (.ref a) X.env) _ _ _
    refine Sky.land Zc.steady frames fr sky2 fun g3 fl3 up3 => ?_
    have J3 : Inv X pins σ' H' { z with heap := g3 } := J.landed nb fl3.1 (up.trans up3) os ag
    obtain ⟨o3, w3, at3, zc3, dt3⟩ := fl3.there
    have away : a ∉ frs (X.env :: X.outer) := fun hm => by
      obtain ⟨_, o', e', hnf⟩ := fl3.2.2.1.mem hm
      rw [at3] at e'
      cases e'
      exact hnf _ dt3
    have aL : a ≠ X.env.locals := fun y => away (List.mem_filterMap.mpr ⟨X.env, List.mem_cons_self, by rw [fr, y]⟩)
    have aF : a ∉ X.fs := fun hm => by
      obtain ⟨e, he, q⟩ := List.mem_filterMap.mp hm
      exact away (List.mem_filterMap.mpr ⟨e, List.mem_cons_of_mem _ he, q⟩)
    have S3 := J3.suite at3 dt3 na aL aF
    have walk : ∀ {hs' : List ExceptHandler} {l' : List (Value × (Addr → Value → Option Addr → TS))}, AsOk X n hs' l' → wAll X.K i Wo D l' cls d σ' H' →
        wpAny (model X.prog X.w) X.A (handleBy (.ref a) X.env hs') (SP X pins D) X.xe { z with heap := g3 } := by
      intro hs' l' ha
      induction ha with
      | nil =>
        intro w
        refine wpAny_handleBy_nil ?_
        obtain ⟨_, _, _, oe, vs, T, oT, ts', he, hz, hd, h1, hr⟩ := id fl3
        unfold PySem.passOn
        refine wpAny_bind (wpAny_field he hd h1 ?_)
        rw [if_neg (show ¬ ((Value.ref T == Value.none) = true) from by simp)]
        have out : wpAny (model X.prog X.w) X.A (setFlight (.ref a) X.env.frame) (fun _ s4 => wpAny (model X.prog X.w) X.A (throw (.ref a) : Sem Flow) (SP X pins D) X.xe s4) X.xe { z with heap := g3 } := by
          rw [fr]
          refine HandSPX.setFlight_upZ fl3 fun g4 hh4 up4 => wpAny_throw (tk _ _ ?_)
          exact ⟨a, B, sI, pins, σ', H', cls, d, rfl, J, nb, (up.trans up3).trans up4, .inr (.inr (by rw [stk]; exact hh4)), na, os, ag, w⟩
        first
          | exact wpAny_bind (wpAny_pure (wpAny_bind out))
          | exact wpAny_bind out
      | @cons x c ts b bs p q hs2 l2 nm su r ih =>
        intro w
        obtain ⟨y, ey, yes, no⟩ := w
        refine wpAny_handleBy_cons (codeAny_handlers_test ?_) (by intro q; cases q)
        have LT : PySem.W.Looks (model X.prog X.w) g3 (typeOf (.ref a)) cls := fun A Q E s k q => wpAny_typeOf_ref (k _ _ at3) (by rw [zc3.1]; exact q)
        have LM := PySem.W.exm_one (M := model X.prog X.w) (J3.kIn) LT ey
        have class_ : ∀ {Q : Value → Shared → Prop} {E : Value → Shared → Prop}, Q c { z with heap := g3 } → wpAny (model X.prog X.w) (X.A.mark (some (.ref a))) (eval (.Name x p) X.env) Q E { z with heap := g3 } := fun {Q E} q => by
          obtain ⟨hg, hdbg, hm | ⟨hm, hv, hnn⟩⟩ := nm
          · exact ld_glob (X := X.suite a ((a, o3) :: (X.pn ++ pins))) S3 hg hm q hdbg
          · exact ld_blt (X := X.suite a ((a, o3) :: (X.pn ++ pins))) S3 hg hm hv q hnn hdbg
        refine class_ (LM.here ?_)
        cases y with
        | true =>
          refine codeAny_handlers_suite_as ?_
          refine HandSPX.lands_againZ fl3 fun g4 fl4 up4 => ?_
          have J4 : Inv X pins σ' H' { z with heap := g4 } := J.landed nb fl4.1 ((up.trans up3).trans up4) os ag
          obtain ⟨o4, w4, at4, zc4, dt4⟩ := fl4.there
          have S4 := J4.suite at4 dt4 na aL aF
          refine store_ok (X := X.suite a ((a, o4) :: (X.pn ++ pins))) (v := .ref a) S4 nd ni (.inl nl) rfl (fun s5 S5 => ?_) (.inr nl)
          refine wpAny_mono ((su a o4 cls d (X.pn ++ pins) zc4 ⟨_, dt4⟩).run [] s5 _ H' _ S5 (yes rfl a na)) (fun f s6 sp => ?_) (fun _ _ z => False.elim z)
          have gone : ∀ {σ6 : St} {H6 : Hp} {Q : Shared → Prop}, Inv (X.suite a ((a, o4) :: (X.pn ++ pins))) [] σ6 H6 s6 → (∀ s7, Inv X pins (σ6.set i none) H6 s7 → Q s7) →
              wpAny (model X.prog X.w) X.A (do bindName X.env n .none; unbindBehindTheSuite X.env n q) (fun _ s7 => Q s7) X.xe s6 := fun {σ6 H6 Q} S6 hq => gone_ok (S6.unsuite iok) nd ni nl hq
          cases f with
          | next =>
            obtain ⟨σ6, H6, S6, q6⟩ := sp
            exact gone S6 fun s7 J7 => ⟨_, _, J7, q6⟩
          | brk =>
            obtain ⟨σ6, H6, S6, q6⟩ := sp
            exact gone S6 fun s7 J7 => ⟨_, _, J7, q6⟩
          | cont =>
            obtain ⟨σ6, H6, S6, q6⟩ := sp
            exact gone S6 fun s7 J7 => ⟨_, _, J7, q6⟩
          | ret u =>
            obtain ⟨v6, σ6, H6, S6, r6, q6⟩ := sp
            exact gone S6 fun s7 J7 => ⟨_, _, _, J7, r6, q6⟩
        | false =>
          show wpAny _ X.A (handleBy (.ref a) X.env hs2) _ _ _
          exact ih (no rfl)
    exact walk hk wish
  · cases f with
    | next =>
      obtain ⟨σ', H', J', q⟩ := sp
      exact wpAny_execs_nil ⟨σ', H', J'.ofTry iok, q⟩
    | brk =>
      obtain ⟨σ', H', J', q⟩ := sp
      exact ⟨σ', H', J'.ofTry iok, q⟩
    | cont =>
      obtain ⟨σ', H', J', q⟩ := sp
      exact ⟨σ', H', J'.ofTry iok, q⟩
    | ret u =>
      obtain ⟨v, σ', H', J', r, q⟩ := sp
      exact ⟨v, σ', H', J'.ofTry iok, r, q⟩
end
end L2
namespace L2
open PySem PySem.Spec PyProof.Rows
section
variable {X : Cx}
/-- repr of any data; of {} -/
def rReprA (K : PySem.W.Frag) : List V → Hp → VK → Prop := fun xs H Q => (∃ v d, xs = [v] ∧ Dp K H v d ∧ d.showable = true ∧ d.hasDict = false ∧ d.depth ≤ 64 ∧ d.shown.length ≤ sizeLine ∧ Q (.str d.shown) H) ∨ ∃ a, xs = [.ref a] ∧ H a = some (.dK []) ∧ Q (.str (PyData.dict []).shown) H
theorem call_reprA (gd : X.A.guards = some []) (hu : X.A.units + 70 < cLine) : CallR X (.builtin "repr") (rReprA X.K) := by
  intro pins s σ H xs us Q I r h
  rcases h with ⟨v, d, rfl, hd, sw, nd, dp, sz, q⟩ | ⟨a, rfl, ha, q⟩
  · cases hd with
    | non =>
      obtain ⟨u, rfl, hu⟩ := vals1 r
      obtain rfl : u = Value.none := hu
      have q : Q (.str "None") H := by simpa only [PyData.shown] using q
      exact PySem.P.repr_of_none ⟨.str _, H, I.tok _, ⟨_, rfl⟩, q⟩
    | bl b =>
      obtain ⟨u, rfl, hu⟩ := vals1 r
      obtain rfl : u = Value.bool b := hu
      have q : Q (.str (if b then "True" else "False")) H := by simpa only [PyData.shown] using q
      exact PySem.P.repr_of_bool ⟨.str _, H, I.tok _, ⟨_, rfl⟩, q⟩
    | int i =>
      obtain ⟨u, rfl, t, rfl⟩ := vals1 r
      have q : Q (.str (toString i)) H := by simpa only [PyData.shown] using q
      have sw : i.natAbs.log2 < 1920 := by simpa only [PyData.showable, decide_eq_true_eq] using sw
      exact PySem.P.repr_of_int sw ⟨.str _, H, I.tok _, ⟨_, rfl⟩, q⟩
    | str x =>
      obtain ⟨u, rfl, t, rfl⟩ := vals1 r
      have q : Q (.str (reprText x)) H := by simpa only [PyData.shown] using q
      have sz : (reprText x).length ≤ sizeLine := by simpa only [PyData.shown] using sz
      exact PySem.P.repr_of_str ⟨.str _, H, I.tok _, ⟨_, rfl⟩, q⟩ sz
    | lst l rs =>
      exact call_reprD gd hu pins s σ H _ us Q I r ⟨_, _, rfl, .lst l rs, sw, nd, dp, sz, q⟩
    | tup l rs =>
      exact call_reprD gd hu pins s σ H _ us Q I r ⟨_, _, rfl, .tup l rs, sw, nd, dp, sz, q⟩
  · obtain ⟨u, rfl, hu'⟩ := vals1 r
    obtain rfl : u = Value.ref a := hu'
    obtain ⟨_, hs, vs, kv, o, es, ep, ho, ed, dt, _, pr, _⟩ := I.hok a _ ha
    cases kv
    have en : es.toList = [] := by
      cases e : es.toList with
      | nil => rfl
      | cons x y =>
        rw [e] at pr
        cases pr
    have rd : Reads s.heap (.ref a) (.dict []) (a :: [] ++ []) := .dict (kvs := []) ho ed.1 dt (by rw [en]; exact .nil) (by rw [en]; exact .nil)
    have d2 : (PyData.dict []).depth ≤ 2 := by decide
    refine repr_of_reads' rd rfl (fun _ hm => ?_) gd (by omega) (fun b o e => e) (fun h' u tk k => ?_) (by decide)
    · have e : sysModules = a := by simpa using hm
      rw [← e] at hs
      simp at hs
    · exact ⟨.str (PyData.dict []).shown, H, I.kept (t' := tk) k, ⟨_, rfl⟩, q⟩
end
end L2
namespace Dv
open PySem L2
section
variable {X : Cx} {W : WX} {xw : XW} {K : PySem.W.Frag} {pos : Pos}
def shw (d : D) : Str := (toPy d).shown
def gReprA : List Sl → DK → Prop := fun ss k => match ss with
  | [.d (.dic [])] => k (.d (.str (shw (.dic []))))
  | [.d x] => okD x = true ∧ (toPy x).showable = true ∧ (shw x).length ≤ 100000 ∧ k (.d (.str (shw x)))
  | _ => False
theorem oc_reprA : OC K (rReprA K) gReprA := fun c H vs ss k Q eK hi r h q => by
  unfold gReprA at h
  split at h
  · obtain ⟨v, rfl, w, e, rr⟩ := paired1 r
    cases e
    cases rr with
    | dic nf hh rk =>
      cases rk
      exact .inr ⟨_, rfl, hh, q _ (.d (.str _)) H (Go.self hi) ⟨_, rfl, .str _⟩ h⟩
  · obtain ⟨v, rfl, w, e, rr⟩ := paired1 r
    cases e
    obtain ⟨h1, h2, h4, h5⟩ := h
    have cl := SeqAt.canLay_of_shaped h1
    have dp := rp_dp rr cl
    rw [eK] at dp
    exact .inl ⟨_, _, rfl, dp, h2, PyData.hasDict_of_canLay _ cl, SeqAt.depth_of_shaped h1, sz h4, q _ (.d (.str _)) H (Go.self hi) ⟨_, rfl, .str _⟩ h5⟩
  · exact h.elim
end
end Dv
namespace Dv
open PySem L2
/-! ### clauses, over data -/
def endsAs (i : Nat) (D : DEnds) : DEnds := { nx := fun Γ => D.nx (Γ.set i .any), rt := D.rt, bk := fun Γ => D.bk (Γ.set i .any), ct := fun Γ => D.ct (Γ.set i .any), ro := D.ro }
def xAll (K : PySem.W.Frag) (i : Nat) (xw : XW) (D : DEnds) : List (Value × (Addr → Value → Option Addr → DS)) → XW
  | [] => xw
  | (c, ds) :: r => fun A p Γ => ∃ b, PySem.W.exmOne K (.ref A) c = some b ∧ cond b (∀ a d, ds a (.ref A) d (endsAs i D) (Γ.set i (.ex a (.ref A) d p))) (xAll K i xw D r A p Γ)
inductive AsL (K : PySem.W.Frag) : List (Value × (Addr → Value → Option Addr → TS)) → List (Value × (Addr → Value → Option Addr → DS)) → Prop
  | nil : AsL K [] []
  | cons {c : Value} {ts : Addr → Value → Option Addr → TS} {ds : Addr → Value → Option Addr → DS} {l : List (Value × (Addr → Value → Option Addr → TS))} {m : List (Value × (Addr → Value → Option Addr → DS))} (su : ∀ a A d, LiS K W0 xw0 (ts a (.ref A) d) (ds a (.ref A) d)) (r : AsL K l m) : AsL K ((c, ts) :: l) ((c, ds) :: m)
inductive AsD (X : Cx) (n : Str) : List ExceptHandler → List (Value × (Addr → Value → Option Addr → TS)) → List (Value × (Addr → Value → Option Addr → DS)) → Prop
  | nil : AsD X n [] [] []
  | cons {x : Str} {c : Value} {ts : Addr → Obj → Value → Option Addr → List (Addr × Obj) → TS} {ds : Addr → Value → Option Addr → DS} {b : Stmt} {bs : List Stmt} {p q : Pos} {hs : List ExceptHandler} {l : List (Value × (Addr → Value → Option Addr → TS))} {m : List (Value × (Addr → Value → Option Addr → DS))} (nm : Names X x c)
      (su : ∀ (a : Addr) (oe : Obj) (cls : Value) (d : Option Addr) (pn : List (Addr × Obj)), Zc cls d oe → (∃ vs, oe.data = .fields vs) → PDSs (X.suite a ((a, oe) :: pn)) W0 xw0 (b :: bs) (ts a oe cls d pn) (ds a cls d)) (r : AsD X n hs l m)
      (ht : ∀ a oe cls d pn, ts a oe cls d pn = ts a (oe0 cls d) cls d [] := by intros; rfl) : AsD X n (.ExceptHandler (some (.Name x p)) (some n) (b :: bs) q :: hs) ((c, fun a cls d => ts a (oe0 cls d) cls d []) :: l) ((c, ds) :: m)
theorem AsD.ok {X : Cx} {n : Str} {hs : List ExceptHandler} {l : List (Value × (Addr → Value → Option Addr → TS))} {m : List (Value × (Addr → Value → Option Addr → DS))} (h : AsD X n hs l m) : AsOk X n hs l := by
  induction h with
  | nil => exact .nil
  | cons nm su r ht ih => exact .cons nm (fun a oe cls d pn z f => ht a oe cls d pn ▸ (su a oe cls d pn z f).ps takes0) ih
theorem AsD.li {X : Cx} {n : Str} {hs : List ExceptHandler} {l : List (Value × (Addr → Value → Option Addr → TS))} {m : List (Value × (Addr → Value → Option Addr → DS))} (h : AsD X n hs l m) : AsL X.K l m := by
  induction h with
  | nil => exact .nil
  | cons nm su r ht ih => exact .cons (fun a A d => (su a (oe0 (.ref A) d) (.ref A) d [] ⟨rfl, rfl⟩ ⟨_, rfl⟩).li) ih
theorem wAll_of {K : PySem.W.Frag} {i : Nat} {W : WX} {xw : XW} {E : Ends} {D : DEnds} {c : Cfg} {l : List (Value × (Addr → Value → Option Addr → TS))} {m : List (Value × (Addr → Value → Option Addr → DS))} (h : AsL K l m) (eK : c.K = K) (hW : WOk c W xw) (o : EndsOk c E D) {Γ : Gm} {σ : St} {H : Hp} {A : Addr} {d : Option Addr} {p : XP} (s : StOk c σ H Γ) (x : XOk c H d p) (q : xAll K i xw D m A p Γ) : wAll K i W E l (.ref A) d σ H := by
  induction h with
  | nil => exact hW σ H Γ A d p s x q
  | cons su r ih =>
    obtain ⟨b, eb, hb⟩ := q
    refine ⟨b, eb, fun e a na => ?_, fun e => ?_⟩
    · subst e
      refine su a A d c eK WOk.zero { nx := fun σ' H' => E.nx (σ'.set i none) H', rt := E.rt, bk := fun σ' H' => E.bk (σ'.set i none) H', ct := fun σ' H' => E.ct (σ'.set i none) H' } (endsAs i D) ⟨?_, o.rt, ?_, ?_, o.ro⟩ _ _ _ (s.set (s := .ex a (.ref A) d p) ⟨rfl, x⟩) (hb a d)
      · exact fun Γ σ H s q => o.nx _ _ H (s.set (s := .any) trivial) q
      · exact fun Γ σ H s q => o.bk _ _ H (s.set (s := .any) trivial) q
      · exact fun Γ σ H s q => o.ct _ _ H (s.set (s := .any) trivial) q
    · subst e
      exact ih hb
/-! ### without what is owned -/
def unO1 : Sl → Sl
  | .own _ _ => .any
  | s => s
def unO (Γ : Gm) : Gm := Γ.map unO1
theorem SlOk.subO {c : Cfg} {H : Hp} {u : Option V} {s : Sl} (h : SlOk c H u s) : SlOk c.sub H u (unO1 s) := by
  cases s with
  | any => trivial
  | v x => exact h
  | d x =>
    obtain ⟨v, e, r⟩ := h
    exact ⟨v, e, Rp.to (c := c) (c' := c.sub) rfl (fun _ z => z) Kp.self r⟩
  | pool => exact h
  | ex b cls dd p => exact ⟨h.1, XOk.to (c := c) (c' := c.sub) rfl (fun _ z => z) Kp.self h.2⟩
  | own j x => trivial
  | tab T => exact h
theorem StOk.subO {c : Cfg} {σ : St} {H : Hp} {Γ : Gm} (h : StOk c σ H Γ) : StOk c.sub σ H (unO Γ) := by
  refine ⟨h.inv, by rw [h.len]; simp [unO], fun i o s e1 e2 => ?_⟩
  unfold unO at e2
  rw [List.getElem?_map, Option.map_eq_some_iff] at e2
  obtain ⟨t, e, z⟩ := e2
  subst z
  exact (h.at_ i o t e1 e).subO
/-! ### f(lambda: e), f of the form kept = None; try: kept = call(); except ..; return kept -/
def endR (Q : VK) : Ends := { ({ nx := fun _ H' => Q .non H', rt := Q } : Ends) with nx := tRet (tVar 1) { nx := fun _ H' => Q .non H', rt := Q } }
def endRD (k : DK) : DEnds := { nx := fun Γ => dVar 1 Γ k, rt := k }
def TTr (K : PySem.W.Frag) (l : Shared → Hp → List (Value × (Addr → Value → Option Addr → TS))) : (XK → Hp → VK → Prop) → Hp → VK → Prop := fun tl H Q =>
  ∀ s, tl (fun cls d H' => ∀ σ' : St, σ'.length = 3 → wAll K 2 W0 (endR Q) (l s H) cls d σ' H') H fun v H' => ∃ v', (some (some v) : Option (Option V)) = some (some v') ∧ Q v' H'
def dLam (K : PySem.W.Frag) (T : List (Addr × Str)) (i : Nat) (m : List (Value × (Addr → Value → Option Addr → DS))) (db : XW → DE) : DE := fun Γ k => Γ[i]? = some (.tab T) ∧ db (fun A p _ => xAll K 2 xw0 (endRD k) m A p [.any, .any, .any]) (unO Γ) k
theorem any3 {c : Cfg} {σ : St} {H : Hp} (hi : c.I H) (hl : σ.length = 3) : StOk c σ H [.any, .any, .any] := ⟨hi, hl, fun i o s e1 e2 => by
  have z : s = .any := by
    match i, e2 with
    | 0, e2 => exact (Option.some.inj e2).symm
    | 1, e2 => exact (Option.some.inj e2).symm
    | 2, e2 => exact (Option.some.inj e2).symm
    | n + 3, e2 => cases e2
  rw [z]
  trivial⟩
theorem li_lam {K : PySem.W.Frag} {W : WX} {xw : XW} {T : List (Addr × Str)} {i : Nat} {l : Shared → Hp → List (Value × (Addr → Value → Option Addr → TS))} {m : List (Value × (Addr → Value → Option Addr → DS))} {t : XK → TE} {db : XW → DE} (hA : ∀ s H, AsL K (l s H) m)
    (hb : ∀ (E : XK) (xw' : XW), Li K (fun cls d _ H => E cls d H) xw' (t E) (db xw')) : Li K W xw (LamX.tLam T (TTr K l) t) (dLam K T i m db) := fun c eK hW Γ k hd σ H st Q q => by
  obtain ⟨hT, hd⟩ := hd
  have li : i < σ.length := by
    rw [st.len]
    exact (List.getElem?_eq_some_iff.mp hT).1
  have tb : c.tb = T := st.at_ i _ _ (List.getElem?_eq_some_iff.mpr ⟨li, rfl⟩) hT
  refine ⟨tb ▸ c.tabs st.inv, fun H1 eN T1 s => ?_⟩
  have g1 : Go c H H1 := ⟨fun a o _ so e => eN a o e (sol_tbl so), c.ext st.inv eN (tb.symm ▸ T1)⟩
  let c' := c.sub.wth (Kp c.G H1) (fun {H1 H2} k h => h.trans k)
  have lc : Le c c' := ⟨rfl, fun _ z => z, fun _ h => h.1, fun _ z => z, fun _ _ e => (nomatch e), fun _ z => ⟨z.1, fun y => y⟩, rfl⟩
  have s1 : StOk c' σ H1 (unO Γ) := (st.go g1).subO.wth Kp.self
  refine hb _ _ c' eK ?_ _ k hd σ H1 s1 _ fun v s2 H2 g2 r ks => ⟨v, rfl, q v s2 H2 (g1.trans ⟨g2.keep, g2.inv.1⟩) (r.le lc) ks⟩
  intro σ1 H2 Γ1 A d p s2 x2 h2 σ' hl
  refine wAll_of (c := c') (hA s H1) eK (WOk.zero (c := c')) ⟨?_, ?_, ?_, ?_, ?_⟩ (any3 s2.inv hl) x2 h2
  · intro Γ3 σ3 H3 s3 h3
    exact li_var (K := K) (W := W0) (xw := xw0) c' eK WOk.zero Γ3 k h3 σ3 H3 s3 Q fun v s4 H4 g4 r4 k4 => q v s4 H4 (g1.trans ⟨g4.inv.2, g4.inv.1⟩) (r4.le lc) k4
  · exact fun v s4 H4 i4 r4 k4 => q v s4 H4 (g1.trans ⟨i4.2, i4.1⟩) (r4.le lc) k4
  · exact fun _ _ _ _ z => z.elim
  · exact fun _ _ _ _ z => z.elim
  · exact fun v x H4 i4 r4 k4 => q v (.d x) H4 (g1.trans ⟨i4.2, i4.1⟩) ⟨v, rfl, Rp.to (c := c'.rel) (c' := c) rfl (fun _ z => ⟨z, fun y => y⟩) Kp.self r4⟩ k4
end Dv
namespace L2
open PySem PySem.Spec PyProof.Rows
theorem takes_len {X : Cx} {W : WX} (tk : Takes X W) : Takes X (fun cls d σ H => σ.length = X.N.length → W cls d σ H) := fun u s' ⟨a, B, sI, pins, σ, H, cls, d, e, I, nb, up, sky, na, os, ag, w⟩ => tk u s' ⟨a, B, sI, pins, σ, H, cls, d, e, I, nb, up, sky, na, os, ag, w I.len⟩
end L2
namespace Dv
open PySem L2
section
variable {X : Cx} {W : WX} {xw : XW} {K : PySem.W.Frag} {pos : Pos}
theorem pd_lam {T : List (Addr × Str)} {x a : Str} {g c P : Addr} {k i : Nat} {pg : Arguments} {bg : List Stmt} {sg : Scope} {dV kV doc pm cdv ct oc : Value} {an od : Option Addr} {osl : Array (Option Value)} {Ng : List Str} {params : Arguments} {body : Expr} {scope : Scope} {p lpos : Pos}
    {l : Shared → Hp → List (Value × (Addr → Value → Option Addr → TS))} {m : List (Value × (Addr → Value → Option Addr → DS))} {t : Around → List Env → Shared → Hp → XK → Addr → Addr → TE} {db : XW → DE}
    (hm : X.mg x = some (.ref g)) (hk : PySem.W.keepIn X.K (.ref g) = true) (lk : X.K.lookup g = some ⟨oc, od, .func (PySem.W.fnOf x x pg bg sg dV kV doc pm an cdv ct), osl⟩) (hcg : PySem.W.codeIn X.K cdv x = true) (hb : L2.Binds X.K (PySem.W.fnOf x x pg bg sg dV kV doc pm an cdv ct) [a] [])
    (Sg : FnScope Ng [a] sg) (hNg : Ng[0]? = some a) (hva : Vis sg a) (hG : LamX.GivesTo X Ng x sg g cdv bg a (X.env.qual ++ "<lambda>") (TTr X.K l)) (hA : ∀ s H, AsL X.K (l s H) m)
    (TB : LamX.TabB X.base X.mg c P) (hcode : X.env.code = .ref c) (hT : T = [(P, X.env.qual ++ "<lambda>")]) (hr : Room (k + 2) X.A)
    (hbody : ∀ (A : Around) (outer : List Env) (s : Shared) (H : Hp) (E : XK) (f c' : Addr), Room k (A.deeper (LamX.lamEnv X scope s.heap.objs.size f c')) → ∀ xw' : XW, PD (LamX.lamCx X A outer s H E scope f c') (fun cls d _ H => E cls d H) xw' body (t A outer s H E f c') (db xw'))
    (L : LamX.LamS X.env.scope scope := by exact LamX.lamS_by rfl) (hg : Gl X x := by rfl) (hdef : defaultsOf params X.env = ([], []) := by rfl)
    (hbind : ∀ (q : Str) (cl : List (Str × Addr)) (pm cv ctv : Value), bindArgs (PySem.W.kla_fn "<lambda>" q params body scope cl pm cv ctv) ⟨[], []⟩ = pure [] := by intros; rfl)
    (hdb : (x == ("__debug__" : Str)) = false := by decide) (hd : (a == ("__debug__" : Str)) = false := by decide) (hcd : (a == ("__classdict__" : Str)) = false := by decide)
    (ht : ∀ A outer s H E f c', t A outer s H E f c' = t X.A X.outer X.s_0 X.H_0 E 0 0 := by intros; rfl) :
    PD X W xw (.Call (.Name x p) [.Lambda params body scope lpos] [] pos) (LamX.tLam T (TTr X.K l) fun E => t X.A X.outer X.s_0 X.H_0 E 0 0) (dLam X.K T i m db) := by
  subst hT
  refine ⟨fun tk => LamX.pe_lamcall hg hm hk lk hcg hb Sg hNg hva hG TB hcode (List.mem_singleton.mpr rfl) (fun p hp _ => by rw [List.mem_singleton.mp hp]) hr L hdef hbind (fun A outer s H E f c' hr' => ht A outer s H E f c' ▸ (hbody A outer s H E f c' hr' xw0).pe (takes_of rfl rfl rfl rfl)) hdb hd hcd,
    li_lam hA fun E xw' => (hbody X.A X.outer X.s_0 X.H_0 E 0 0 ((hr.deeper _).mono (Nat.le_succ _)) xw').li⟩
end
/-! ### the law's beginning with a table -/
def cBaseT (K : PySem.W.Frag) (T : List (Addr × Str)) : Cfg where
  K := K
  F := fun b => ∃ p ∈ T, b = p.1
  W := fun b => ∃ p ∈ T, b = p.1
  G := fun b => ∃ p ∈ T, b = p.1
  I := fun H => LamX.Tabs T H
  pl := fun _ => False
  ow := fun _ => none
  mono := fun k h => h.ext k
  live := fun {H a} h z e => by
    obtain ⟨p, hp, rfl⟩ := z
    obtain ⟨ps, q, _⟩ := h p hp
    rw [e] at q
    cases q
  WF := fun z => z
  GW := fun z => z
  plG := fun z => z.elim
  owW := fun z => nomatch z
  inj := fun z => nomatch z
  plAt := fun _ z => z.elim
  plPut := fun _ z => z.elim
  owPut := fun _ z => nomatch z
  tb := T
  tabs := fun h => h
  ext := fun _ _ t => t
def cLawT (T : List (Addr × Str)) : Ctr where
  n := 1
  f := fun ss k _ => match ss with
    | [.d (.scr xs)] => (∃ ns : List Int, xs = intD ns ∧ ns.length ≤ 63) ∧ k (.d (.bl true))
    | _ => False
  mono := fun {ss k k' x x'} hk _ h => by
    split at h
    · exact ⟨h.1, hk _ h.2⟩
    · exact h.elim
/-- as Ctr.sp, the tables told -/
def Ctr.spT (C : Ctr) (K : PySem.W.Frag) (T : List (Addr × Str)) : Sp := fun vs H Q E => ∃ (c : Cfg) (ss : List Sl), c.K = K ∧ c.tb = T ∧ c.I H ∧ Paired (fun v s => SlOk c H (some v) s) vs ss ∧ ss.length = C.n ∧
  C.f ss (fun s => ∀ v H', Go c H H' → SlOk c H' (some v) s → Q v H') (fun A p => ∀ d H', Go c H H' → XOk c H' d p → E (.ref A) d H')
theorem law_spT {K : PySem.W.Frag} {H : Hp} {a P : Addr} {q : Str} {ns : List Int} (hl : ns.length ≤ 63) (ht : H P = some (.tbl #[])) (h : SqL K H a (ns.map V.int)) : cLaw.spT K [(P, q)] [.ref a] H (fun v _ => v = .bl true) fun _ _ _ => False := by
  refine ⟨cBaseT K [(P, q)], [.d (.scr (intD ns))], rfl, rfl, fun p hp => ?_, .cons ⟨_, rfl, .scr ?_ (ints_rp ns)⟩ .nil, rfl, ⟨ns, rfl, hl⟩, fun v H' _ r => sl_bl r⟩
  · rw [List.mem_singleton.mp hp]
    exact LamX.TabS.nil ht
  · rcases h with h | h
    · refine .inl ⟨fun z => ?_, h⟩
      obtain ⟨p, hp, e⟩ := z
      rw [List.mem_singleton.mp hp] at e
      have e : a = P := e
      rw [e] at h
      rcases h with h | ⟨_, h⟩ <;> (rw [ht] at h; cases h)
    · exact .inr h
section
variable {P : Program} {w : World} {K : PySem.W.Frag} {mg : Str → Option Value} {base : Heap}
/-- a law with a table, where no repr is under way; the last slot tells of the table -/
theorem fn_okGT {x qual : Str} {st : Stmt} {f : Addr} {fd : FuncData} {N ps : List Str} {k : Nat} {T : List (Addr × Str)} (C : Ctr) (F : FunD K x qual st f fd) (S : FnScope N ps (defScope st)) (hn : ps.length = C.n) (hN : C.n < N.length)
    (body : ∀ (cdv : Value) (A : Around) (outer : List Env) (s : Shared) (H : Hp) (E : XK), fd.code = cdv → Room k (A.deeper (PyProof.Rows.envOfC qual (defScope st) s.heap.objs.size f cdv)) → A.guards = some [] →
      PassesOwn (model P w) (cxOf (L2.CX P w) P w K mg base N qual (defScope st) f cdv A outer s H E).A (cxOf (L2.CX P w) P w K mg base N qual (defScope st) f cdv A outer s H E).env (cxOf (L2.CX P w) P w K mg base N qual (defScope st) f cdv A outer s H E).xe →
      ∃ ts ds, PDSs (cxOf (L2.CX P w) P w K mg base N qual (defScope st) f cdv A outer s H E) (fun cls d _ H => E cls d H) xw0 (defBody st) ts ds ∧
        ∀ ss kk xx, ss.length = C.n → C.f ss kk xx → ds { nx := fun _ => kk (.d .non), rt := kk } ((startD N ss).set (N.length - 1) (.tab T))) : FnOkG P w K mg base (L2.CX P w) (k + 1) f fd ps (C.spT K T) := by
  obtain ⟨oc, od, dV, kV, doc, pm, an, cdv, ct, osl, e, lk, hcd⟩ := F.ex
  subst e
  refine fn_ofG lk hcd S (fun vs H Q E h => ?_) (fun A outer s H vs Q E hr gd h => ?_)
  · obtain ⟨c, ss, _, _, _, r, hl, _⟩ := h
    rw [paired_len r, hl, hn]
  · obtain ⟨c, ss, eK, eT, hi, r, hl, hf⟩ := h
    obtain ⟨ts, ds, pd, hd⟩ := body cdv A outer s H E rfl hr gd (passes_of rfl)
    refine ⟨ts, pd.ps (takes_of rfl rfl rfl rfl), ?_⟩
    have q := hd ss _ _ hl hf
    let c' := c.sub.wth (Kp c.G H) (fun {H1 H2} k h => h.trans k)
    have lc : Le c c' := ⟨rfl, fun _ z => z, fun _ h => h.1, fun _ z => z, fun _ _ e => (nomatch e), fun _ z => ⟨z.1, fun y => y⟩, rfl⟩
    have s0 : StOk c' (L2.start N vs) H (startD N ss) := (start_ok (c := c.sub) hi (paired_sub r (C.no hf))).wth Kp.self
    have s1 : StOk c' (L2.start N vs) H ((startD N ss).set (N.length - 1) (.tab T)) := by
      refine ⟨s0.inv, by rw [List.length_set]; exact s0.len, fun i o s e1 e2 => ?_⟩
      rw [List.getElem?_set] at e2
      by_cases z : N.length - 1 = i
      · simp only [z, if_true] at e2
        split at e2
        · cases e2
          exact eT
        · cases e2
      · simp only [z, if_false] at e2
        exact s0.at_ i o s e1 e2
    refine pd.li c' eK WOk.zero _ _ ⟨?_, ?_, ?_, ?_, ?_⟩ _ _ _ s1 q
    · exact fun Γ σ H' st z => z .non H' ⟨st.inv.2, st.inv.1⟩ ⟨_, rfl, .non⟩
    · exact fun v s H' i r z => z v H' ⟨i.2, i.1⟩ (r.le lc)
    · exact fun _ _ _ _ z => z.elim
    · exact fun _ _ _ _ z => z.elim
    · exact fun v x H' i r z => z v H' ⟨i.2, i.1⟩ ⟨v, rfl, Rp.to (c := c'.rel) (c' := c) rfl (fun _ z => ⟨z, fun y => y⟩) Kp.self r⟩
end
end Dv
namespace L2
open PySem PySem.Spec PyProof.Rows
/-- the law called, with the table at p of its code object at cc; no repr is under way -/
theorem law_callGT {P : Program} {w : World} {K : PySem.W.Frag} {mg mb : Str → Option Value} {CX : CXT} {k : Nat} {fa a cc p : Addr} {fd : FuncData} {x : Str} {sp : Sp} {sA : Shared} {vs : List Value} {ns : List Int}
    (kX : K.In sA.heap) (gN : sA.heap.Ns mainGlobals mg) (hb : sA.heap.Ns builtinsNs mb) (bB : ∀ x : Str, x ≠ "__name__" → mb x = bootBuiltins x) (lM : sA.heap.NoLimit) (gE : sA.gens = #[])
    (tA : sA.heap.get? p = some { cls := .none, data := .fields #[] }) (tK : K.lookup p = none) (tC : PySem.W.CodeHd sA.heap cc p)
    (bM : ∃ (bm : Addr) (ob : Obj), mg "__builtins__" = some (.ref bm) ∧ bm ≠ builtinsNs ∧ sA.heap.get? bm = some ob ∧ ob.cls = .type "module" ∧ ob.dict = some builtinsNs ∧ ob.data = .plain)
    (aA : sA.heap.get? a = some { cls := .type "list", data := .seq vs.toArray }) (hInt : IntsAre vs ns) (hLen : ns.length ≤ sizeLine) (hr : Room k callerA)
    (F : ∀ base : Heap, K.In base → base.Ns mainGlobals mg → LamX.TabB base mg cc p → FnOkG P w K mg base CX k fa fd [x] sp) (hBd : ∀ (s : Shared) (u : Value), BindsTo s fd ⟨[u], []⟩ [(x, u)])
    (hSp : ∀ H : Hp, H p = some (.tbl #[]) → SqL K H a (ns.map V.int) → sp [.ref a] H (fun v _ => v = .bl true) fun _ _ _ => False)
    (hC : ∀ H e s', CX [] H sA (fun _ _ _ => False) e s' → False) :
    codeAny (model P w) callerA (.call (.ref fa) ⟨[.ref a], []⟩) (fun r s' => r = .ok (.ret (.bool true)) ∧ OldK sA.heap s'.heap ∧ s'.os = sA.os ∧ AllBare s'.gens) sA := by
  have rV := vals_ints hInt
  have lV := hInt.length
  have ap : a ≠ p := fun z => by
    rw [z, tA] at aA
    have q := congrArg Obj.data (Option.some.inj aA)
    cases q
  have kern : ∀ H : Hp, H p = some (.tbl #[]) → (∀ b, H b = none ∨ b = p ∨ ∃ o xs, H b = some (.frz o (.lst xs))) → SqL K H a (ns.map V.int) → HOk P w H sA.heap → (∀ b, H b ≠ none → b = a ∨ b = p) → (H a ≠ none → K.lookup a = none) →
      codeAny (model P w) callerA (.call (.ref fa) ⟨[.ref a], []⟩) (fun r s' => r = .ok (.ret (.bool true)) ∧ OldK sA.heap s'.heap ∧ s'.os = sA.os ∧ AllBare s'.gens) sA := by
    intro H pH oH sH hX aH kH
    have bOf : ∀ {b : Addr} {o : Obj}, sA.heap.get? b = some o → H b = none → (hidT sA.heap H).get? b = some o := fun e n => hidT_get e n
    have nD : ∀ {b : Addr} {o : Obj}, sA.heap.get? b = some o → (∀ us n, o.data ≠ .seq us n) → o.data ≠ .fields #[] → H b = none := fun {b o} e n1 n2 => by
      cases q : H b with
      | none => rfl
      | some u =>
        rcases aH b (by rw [q]; simp) with z | z
        · rw [z, aA] at e
          cases e
          exact (n1 _ _ rfl).elim
        · rw [z, tA] at e
          cases e
          exact (n2 rfl).elim
    have nA : ∀ {b : Addr} {o : Obj} {es : Array DictEntry} {ep : Nat}, sA.heap.get? b = some o → o.data = .dict es ep → H b = none := fun {b o es ep} e d =>
      nD e (fun us n z => by rw [d] at z; cases z) fun z => by rw [d] at z; cases z
    have nK : ∀ {b : Addr} {m : Str → Option Value}, sA.heap.Ns b m → (hidT sA.heap H).Ns b m := fun {b m} ⟨o, es, ep, e, d, r⟩ => ⟨o, es, ep, bOf e (nA e d), d, r⟩
    have kB : K.In (hidT sA.heap H) := fun b o e => bOf (kX b o e) (by
      cases q : H b with
      | none => rfl
      | some u =>
        rcases aH b (by rw [q]; simp) with z | z
        · rw [z] at e q
          rw [kH (by rw [q]; simp)] at e
          cases e
        · rw [z, tK] at e
          cases e)
    have mD : Mod K mg (hidT sA.heap H) := ⟨kB, nK gN, ⟨mb, nK hb, bB⟩, let ⟨mc, h1, h2⟩ := lM; ⟨mc, nK h1, h2⟩⟩
    have tB : LamX.TabB (hidT sA.heap H) mg cc p := by
      refine ⟨?_, ?_, fun z => ?_⟩
      · obtain ⟨o, us, file, tf, flags, tg, inF, text, tt, e1, r1, r2, r3, r⟩ := tC
        refine ⟨o, us, file, tf, flags, tg, inF, text, tt, bOf e1 (nD e1 (fun us n z => by rw [r2] at z; cases z) fun z => ?_), r1, r2, r3, r⟩
        rw [r2] at z
        cases z
        simp at r3
      · obtain ⟨bm, ob, b1, b2, b3, b4, b5, b6⟩ := bM
        have nG : bm ≠ mainGlobals := fun q => by
          obtain ⟨o, es, ep, e, hd, _⟩ := gN
          rw [q, e] at b3
          cases b3
          rw [hd] at b6
          cases b6
        have nP : bm ≠ p := fun q => by
          rw [q, tA] at b3
          cases b3
          cases b6
        refine ⟨bm, ob, b1, b2, nG, nP, bOf b3 (nD b3 (fun us n z => by rw [b6] at z; cases z) fun z => by rw [b6] at z; cases z), b4, b5, b6⟩
      · obtain ⟨o, es, ep, e, hd, _⟩ := gN
        rw [z, tA] at e
        cases e
        cases hd
    have eE : Env0 P w K mg (hidT sA.heap H) callerA [] sA H := ⟨rfl, mD, fun b o e => of_hidT e, Nat.le_of_eq (hidT_size _ _), trivial, fun b hb => absurd (show b ∈ ([] : List Addr) from hb) (by simp), hX, .of_eq gE⟩
    refine codeAny_mono ((F _ kB (nK gN) tB).run callerA [] sA H ⟨[.ref a], []⟩ [.ref a] [.ref a] _ _ hr rfl eE (hBd sA (.ref a)) (.cons rfl .nil) (hSp H pH sH)) fun r s' h => ?_
    cases r with
    | error e => exact (hC H e s' h).elim
    | ok fl =>
      cases fl with
      | next => exact False.elim h
      | brk => exact False.elim h
      | cont => exact False.elim h
      | ret u =>
        obtain ⟨v, H', os, bare, un, hX', r', q⟩ := h
        have q' : v = .bl true := q
        subst q'
        obtain rfl : u = Value.bool true := r'
        have same : ∀ b o, b ≠ p → sA.heap.get? b = some o → s'.heap.get? b = some o := fun b o np e => by
          cases q : H b with
          | none => exact un.keep b o e q (by intro z; exact absurd (show b ∈ ([] : List Addr) from z) (by simp)) (by simp)
          | some u =>
            rcases oH b with z | z | ⟨ob, xs, z⟩
            · rw [q] at z; cases z
            · exact (np z).elim
            · have z2 := un.frzs b ob _ z
              obtain ⟨e1, _⟩ := hX b _ z
              obtain ⟨e2, _⟩ := hX' b _ z2
              rw [e] at e1; cases e1
              exact e2
        obtain ⟨more, tz⟩ := un.tbls p #[] pH
        have tZ : s'.heap.get? p = some { cls := .none, data := .fields (#[] ++ more) } := hX' p _ tz
        refine ⟨rfl, ⟨fun b o e => ?_, fun b o e => ?_⟩, os, bare⟩
        · by_cases hb : b = p
          · rw [hb] at e ⊢
            rw [tA] at e
            cases e
            exact .inr (.inl ⟨(tC.tab tA).isCodeTable, rfl, #[], more, rfl, tZ⟩)
          · exact .inl (same b o hb e)
        · by_cases hb : b = p
          · rw [hb]
            exact ⟨_, tZ⟩
          · exact ⟨o, same b o hb e⟩
  cases hk : K.lookup a with
  | some o =>
    have e := kX a o hk
    rw [aA] at e
    cases e
    refine kern (fun b => if b = p then some (.tbl #[]) else none) (if_pos rfl) (fun b => ?_) (.inr ⟨_, vs.toArray, _, hk, rfl, rfl, rfl, by rw [List.size_toArray, lV]; exact hLen, by simpa using rV⟩) (fun b u z => ?_) (fun b z => ?_) fun z => absurd (show (if a = p then some (HO.tbl #[]) else none) = none from if_neg ap) z
    · by_cases hb : b = p
      · exact .inr (.inl hb)
      · exact .inl (if_neg hb)
    · by_cases hb : b = p
      · have z' := (if_pos hb).symm.trans z
        cases z'
        rw [hb]
        exact tA
      · have z' := (if_neg hb).symm.trans z
        cases z'
    · by_cases hb : b = p
      · exact .inr hb
      · exact absurd (if_neg hb) z
  | none =>
    refine kern (fun b => if b = a then some (.frz { cls := .type "list", data := .seq vs.toArray } (.lst (ns.map V.int))) else if b = p then some (.tbl #[]) else none) ((if_neg (Ne.symm ap)).trans (if_pos rfl)) (fun b => ?_)
      (.inl (.inr ⟨{ cls := .type "list", data := .seq vs.toArray }, if_pos rfl⟩)) (fun b u z => ?_) (fun b z => ?_) fun _ => hk
    · by_cases hb : b = a
      · exact .inr (.inr ⟨_, _, if_pos hb⟩)
      · by_cases h2 : b = p
        · exact .inr (.inl h2)
        · exact .inl ((if_neg hb).trans (if_neg h2))
    · by_cases hb : b = a
      · have z' := (if_pos hb).symm.trans z
        cases z'
        rw [hb]
        exact ⟨aA, by rw [List.length_map]; exact hLen, vs, _, rV, aA⟩
      · have z1 := (if_neg hb).symm.trans z
        by_cases h2 : b = p
        · have z' := (if_pos h2).symm.trans z1
          cases z'
          rw [h2]
          exact tA
        · have z' := (if_neg h2).symm.trans z1
          cases z'
    · by_cases hb : b = a
      · exact .inl hb
      · by_cases h2 : b = p
        · exact .inr h2
        · exact absurd ((if_neg hb).trans (if_neg h2)) z
/-- what is to be known of a law with a table at the head's heap -/
def LawT (l : PySem.W.OpenLaw) (w : World) (K : PySem.W.Frag) (CX : CXT) (k : Nat) (x : Str) (mg : Str → Option Value) (fa : Addr) (sp : Addr → Sp) : Prop :=
  ∃ (fd : FuncData) (oc : Value) (od : Option Addr) (sl : Array (Option Value)) (cc p : Addr) (e : Value) (dd : Option Addr) (vs : Array Value) (s2 : Array (Option Value)), K.lookup fa = some ⟨oc, od, .func fd, sl⟩ ∧ fd.code = .ref cc ∧ K.lookup cc = some ⟨e, dd, .fields vs, s2⟩ ∧ vs[11]? = some (.ref p) ∧ K.lookup p = none ∧ PySem.W.codeHdIn K cc p = true ∧
    (∀ (s : Shared) (u : Value), BindsTo s fd ⟨[u], []⟩ [(x, u)]) ∧ ∀ base : Heap, K.In base → base.Ns mainGlobals mg → LamX.TabB base mg cc p → FnOkG l.prog w K mg base CX k fa fd [x] (sp p)
theorem walk_ofGT {l : PySem.W.OpenLaw} {n k : Nat} {q : Program} {loose : List Str} {XP : (Str → Option Value) → Heap → Prop} {YP : World → Heap → Prop} {d : DefRec} {K : Params → PySem.W.Frag} {CX : World → CXT} {sp : World → Addr → Sp} {x : Str}
    (mo : l.most = some n) (le : n ≤ sizeLine) (df : d.params.defaults = []) (rm : Room k callerA) (rec : ((recsOf q).any fun e => e.name == d.name) = true) (yk : ∀ (w : World) (h : Heap), YP w h → (K w.params).In h)
    (F : ∀ (w : World) (mg : Str → Option Value) (fa : Addr) (h : Heap), (K w.params).In h → h.Ns mainGlobals mg → mg d.name = some (.ref fa) → LawT l w (K w.params) (CX w) k x mg fa (sp w))
    (sq : ∀ (w : World) (H : Hp) (a p : Addr) (ns : List Int), ns.length ≤ n → H p = some (.tbl #[]) → SqL (K w.params) H a (ns.map V.int) → sp w p [.ref a] H (fun v _ => v = .bl true) fun _ _ _ => False)
    (cx : ∀ (w : World) (H : Hp) (s : Shared) (e : Value) (s' : Shared), CX w [] H s (fun _ _ _ => False) e s' → False) : PySem.W.WalkO q loose XP YP l.row.toRowW d [] (fun f vs => PySem.call f vs) := by
  refine Att.attach_call mo df fun w s0 s1 mg mb fa o pm cd doc a vs ns G Y h1 h2 h3 hm ho hi hle hge => ?_
  have kx := yk w _ Y
  obtain ⟨fd, oc, od, sl, cc, p, e, dd, us, s2, k1, k2, k3, k4, k5, k6, bb, ff⟩ := F w mg fa _ kx G.T.g hm
  have tab : s1.heap.get? p = some { cls := .none, data := .fields #[] } := by
    obtain ⟨dL, hm1, hn1⟩ := List.any_eq_true.mp rec
    have hn2 : dL.name = d.name := beq_iff_eq.mp hn1
    obtain ⟨a', o', fd', c', P', g1, g2, g3, g4, g5, g6⟩ := G.T.tab dL hm1
    rw [hn2, hm] at g1
    cases g1
    rw [kx _ _ k1] at g2
    cases g2
    cases g3
    rw [k2] at g4
    cases g4
    obtain ⟨⟨oc, vc, e1, _, e3, e4⟩, hP⟩ := g6
    rw [kx _ _ k3] at e1
    cases e1
    cases e3
    rw [k4] at e4
    cases e4
    exact hP
  exact law_callGT kx G.T.g G.T.b G.T.builtins G.T.nolimit hge tab k5 (PySem.W.codeHd_of_K kx k6) G.T.bmain ho hi (Nat.le_trans hle le) rm ff bb (fun H z y => sq w H a p ns hle z y) fun H e s' => cx w H s1 e s'
end L2
namespace L2
open PySem PySem.Spec PyProof.Rows
/-- a text said n times -/
def repS (a : Str) (n : Nat) : Str := ⟨(List.replicate n a.cps).foldl (· ++ ·) #[]⟩
theorem rep_fold (x : Array Nat) : ∀ (n : Nat) (acc : Array Nat), ((List.replicate n x).foldl (· ++ ·) acc).size = acc.size + n * x.size ∧ ∀ c ∈ ((List.replicate n x).foldl (· ++ ·) acc).toList, c ∈ acc.toList ∨ c ∈ x.toList
  | 0, acc => ⟨by simp, fun c hc => .inl hc⟩
  | n + 1, acc => by
    obtain ⟨h1, h2⟩ := rep_fold x n (acc ++ x)
    refine ⟨?_, fun c hc => ?_⟩
    · show ((List.replicate n x).foldl (· ++ ·) (acc ++ x)).size = _
      rw [h1, Array.size_append, Nat.add_mul, Nat.one_mul]
      omega
    · have hc' : c ∈ ((List.replicate n x).foldl (· ++ ·) (acc ++ x)).toList := hc
      rcases h2 c hc' with z | z
      · rw [Array.toList_append] at z
        exact (List.mem_append.mp z).imp id id
      · exact .inr z
theorem repS_len (a : Str) (n : Nat) : (repS a n).length = n * a.length := by
  have := (rep_fold a.cps n #[]).1
  show ((List.replicate n a.cps).foldl (· ++ ·) #[]).size = n * a.cps.size
  rw [this]
  simp
theorem repS_mem (a : Str) (n : Nat) : ∀ c ∈ (repS a n).cps.toList, c ∈ a.cps.toList := fun c hc => by
  rcases (rep_fold a.cps n #[]).2 c hc with z | z
  · simp at z
  · exact z
def rRepS : R2 := fun x y H Q => ∃ a n, x = .str a ∧ y = .int n ∧ 1 ≤ a.length ∧ 2 ≤ n ∧ n ≤ 100000 ∧ n.toNat * a.length ≤ 100000 ∧ Q (.str (repS a n.toNat)) H
theorem op_repS {X : Cx} : OpR X (binaryOp .Mult) rRepS := by
  intro pins s σ H x y v u Q I rx ry h
  obtain ⟨a, n, rfl, rfl, l1, n2, n3, l5, q⟩ := h
  obtain ⟨t, rfl⟩ := rx
  obtain ⟨t', rfl⟩ := ry
  have nn : (n == 1 || a.length == 0) = false := by
    rw [Bool.or_eq_false_iff]
    refine ⟨?_, ?_⟩
    · exact beq_eq_false_iff_ne.mpr (by omega)
    · exact beq_eq_false_iff_ne.mpr (by omega)
  have l6 : a.length * n.toNat ≤ 100000 := by rw [Nat.mul_comm]; exact l5
  have tl : Builtin.Str.tooLong (a.length * n.toNat) = false := by
    unfold Builtin.Str.tooLong
    have : sizeLine = 16777216 := rfl
    simp
    omega
  refine PySem.P.mul_str ?_ (fun _ _ => ?_) (fun _ _ => tl) ?_
  · rw [decide_eq_false (by omega), decide_eq_false (by omega)]
    rfl
  · have e : (2 ^ 63 - 1) / n ≥ 2 ^ 40 := by
      refine Int.le_ediv_of_mul_le (by omega) ?_
      omega
    have l7 : a.length ≤ 100000 := by
      have : a.length * 1 ≤ a.length * n.toNat := Nat.mul_le_mul_left _ (by omega)
      omega
    omega
  · rw [if_neg (by omega), nn]
    refine ⟨?_, ⟨.str (repS a n.toNat), H, I.tok _, ⟨_, rfl⟩, q⟩⟩
    have e : (repS a n.toNat).length = n.toNat * a.length := repS_len _ _
    show (repS a n.toNat).length ≤ _
    rw [e]
    exact Nat.le_trans l5 (by decide)
end L2
namespace Dv
open PySem L2
section
variable {X : Cx} {W : WX} {xw : XW} {K : PySem.W.Frag} {pos : Pos} {a b : Expr} {ta tb : TE} {da db : DE}
def gRepS : Sl → Sl → DK → Prop := fun s t k => match s, t with
  | .d (.str x), .d (.int n) => 1 ≤ x.length ∧ 2 ≤ n ∧ n ≤ 100000 ∧ n.toNat * x.length ≤ 100000 ∧ k (.d (.str (repS x n.toNat)))
  | _, _ => False
theorem o2_repS : O2 K rRepS gRepS := fun c H x y s t k Q eK hi rs rt h q => by
  unfold gRepS at h
  split at h
  · obtain ⟨h1, h2, h3, h4, h5⟩ := h
    exact ⟨_, _, sl_str rs, sl_int rt, h1, h2, h3, h4, q _ (.d (.str _)) H (Go.self hi) ⟨_, rfl, .str _⟩ h5⟩
  · exact h.elim
theorem pd_repS (x : PD X W xw a ta da) (y : PD X W xw b tb db) : PD X W xw (.BinOp a .Mult b pos) (tOp rRepS ta tb) (dOp gRepS da db) := ⟨fun tk => pe_op op_repS (x.pe tk) (y.pe tk), li_op o2_repS x.li y.li⟩
end
end Dv
namespace Dv
open PySem L2
/-- a def that lambdas are handed to, seen from X -/
def RefAt (X : Cx) (x a q : Str) (T : List (Addr × Str)) (l : Shared → Hp → List (Value × (Addr → Value → Option Addr → TS))) (m : List (Value × (Addr → Value → Option Addr → DS))) : Prop :=
  (∃ (g c P : Addr) (pg : Arguments) (bg : List Stmt) (sg : Scope) (dV kV doc pm cdv ct oc : Value) (an od : Option Addr) (osl : Array (Option Value)) (Ng : List Str), X.mg x = some (.ref g) ∧ PySem.W.keepIn X.K (.ref g) = true ∧ X.K.lookup g = some ⟨oc, od, .func (PySem.W.fnOf x x pg bg sg dV kV doc pm an cdv ct), osl⟩ ∧ PySem.W.codeIn X.K cdv x = true ∧
    L2.Binds X.K (PySem.W.fnOf x x pg bg sg dV kV doc pm an cdv ct) [a] [] ∧ FnScope Ng [a] sg ∧ Ng[0]? = some a ∧ Vis sg a ∧ LamX.GivesTo X Ng x sg g cdv bg a q (TTr X.K l) ∧ LamX.TabB X.base X.mg c P ∧ X.env.code = .ref c ∧ X.env.qual ++ "<lambda>" = q ∧ T = [(P, q)]) ∧ ∀ s H, AsL X.K (l s H) m
theorem pd_lamR {X : Cx} {W : WX} {xw : XW} {T : List (Addr × Str)} {x a q : Str} {k i : Nat} {params : Arguments} {body : Expr} {scope : Scope} {p lpos pos : Pos}
    {l : Shared → Hp → List (Value × (Addr → Value → Option Addr → TS))} {m : List (Value × (Addr → Value → Option Addr → DS))} {t : Around → List Env → Shared → Hp → XK → Addr → Addr → TE} {db : XW → DE} (R : RefAt X x a q T l m) (hr : Room (k + 2) X.A)
    (hbody : ∀ (A : Around) (outer : List Env) (s : Shared) (H : Hp) (E : XK) (f c' : Addr), Room k (A.deeper (LamX.lamEnv X scope s.heap.objs.size f c')) → ∀ xw' : XW, PD (LamX.lamCx X A outer s H E scope f c') (fun cls d _ H => E cls d H) xw' body (t A outer s H E f c') (db xw'))
    (L : LamX.LamS X.env.scope scope := by exact LamX.lamS_by rfl) (hg : Gl X x := by rfl) (hdef : defaultsOf params X.env = ([], []) := by rfl)
    (hbind : ∀ (q : Str) (cl : List (Str × Addr)) (pm cv ctv : Value), bindArgs (PySem.W.kla_fn "<lambda>" q params body scope cl pm cv ctv) ⟨[], []⟩ = pure [] := by intros; rfl)
    (hdb : (x == ("__debug__" : Str)) = false := by decide) (hd : (a == ("__debug__" : Str)) = false := by decide) (hcd : (a == ("__classdict__" : Str)) = false := by decide)
    (ht : ∀ A outer s H E f c', t A outer s H E f c' = t X.A X.outer X.s_0 X.H_0 E 0 0 := by intros; rfl) :
    PD X W xw (.Call (.Name x p) [.Lambda params body scope lpos] [] pos) (LamX.tLam T (TTr X.K l) fun E => t X.A X.outer X.s_0 X.H_0 E 0 0) (dLam X.K T i m db) := by
  obtain ⟨⟨g, c, P, pg, bg, sg, dV, kV, doc, pm, cdv, ct, oc, an, od, osl, Ng, h1, h2, h3, h4, h5, h6, h7, h8, h9, h10, h11, h12, h13⟩, hA⟩ := R
  subst h12
  exact pd_lam h1 h2 h3 h4 h5 h6 h7 h8 h9 hA h10 h11 h13 hr hbody L hg hdef hbind hdb hd hcd ht
end Dv
set_option Elab.async false
set_option linter.all false
set_option maxRecDepth 100000
set_option maxHeartbeats 4000000
/-! Nx: calls of defs that want no repr under way; sum. -/
namespace L2
open PySem PySem.Spec PyProof.Rows
section
variable {X : Cx}
theorem pe_callG {CX : CXT} {k : Nat} {f : Addr} {fd : FuncData} {ps : List Str} {sp : Sp} {E : XK} {x : Str} {p pos : Pos} {e : Expr} {es : List Expr} {t : TA} (F : FnOkG X.prog X.w X.K X.mg X.base CX k f fd ps sp) (gd : X.A.guards = some []) (hr : Room k X.A) (hg : Gl X x) (hm : X.mg x = some (.ref f)) (hk : PySem.W.keepIn X.K (.ref f) = true) (hb : Binds X.K fd ps []) (hx : Passes CX X E)
    (ha : PA X (e :: es) t) (hdb : (x == ("__debug__" : Str)) = false := by decide) (he : starEach (e :: es) X.env = (false, eval e X.env) :: starEach es X.env := by rfl) (hpl : (backTo pos (starEach es X.env)).any (·.1) = false := by rfl) :
    PE X (.Call (.Name x p) (e :: es) [] pos) (tCall sp [] E t) := by
  refine ⟨fun pins s σ H Q I h => ?_⟩
  refine wpAny_Call_Name_kw (ld_glob I hg hm ?_ hdb)
  refine PySem.W.callWith_K (h₀ := X.base) I.ok.mod.kin hk (thn (ha.run pos pins s σ H _ I h) fun us s1 ⟨vs, H1, I1, r, q⟩ => ⟨I1.kIn, ?_⟩) he hpl
  have r2 : Vals (vs ++ []) (us ++ []) := r.append .nil
  have hl : (us ++ []).length = ps.length := by rw [← r2.length]; exact F.len _ _ _ _ q
  refine wpAny_call (codeAny_mono (F.run X.A X.stack s1 H1 ⟨us, []⟩ (us ++ []) (vs ++ []) Q E hr gd I1.env0 (hb s1 us I1.kIn hl) r2 q) fun z s' hq => ?_)
  cases z with
  | error e => exact hx pins σ H1 s1 e s' I1 hq
  | ok fl =>
    cases fl with
    | ret u => exact I1.after hq
    | next => exact hq.elim
    | brk => exact hq.elim
    | cont => exact hq.elim
end
end L2
namespace Dv
open PySem L2
section
variable {X : Cx} {W : WX} {xw : XW} {K : PySem.W.Frag} {C : Ctr} {f : Addr} {fd : FuncData} {ps : List Str} {k : Nat} {x : Str} {p pos : Pos} {e : Expr} {es : List Expr} {ta : TA} {da : DA}
/-- f(..) that raises nothing here, f wants no repr under way -/
theorem pd_callG (F : FnOkG X.prog X.w X.K X.mg X.base (L2.CX X.prog X.w) k f fd ps (C.sp X.K)) (gd : X.A.guards = some []) (hr : Room k X.A) (hm : X.mg x = some (.ref f)) (hk : PySem.W.keepIn X.K (.ref f) = true) (hb : Binds X.K fd ps []) (a : PDA X W xw (e :: es) ta da) (hg : Gl X x := by rfl)
    (hdb : (x == ("__debug__" : Str)) = false := by decide) (he : starEach (e :: es) X.env = (false, eval e X.env) :: starEach es X.env := by rfl) (hpl : (backTo pos (starEach es X.env)).any (·.1) = false := by rfl) :
    PD X W xw (.Call (.Name x p) (e :: es) [] pos) (tCall (C.sp X.K) [] E0 ta) (dCall C xw0 da) :=
  ⟨fun tk => pe_callG F gd hr hg hm hk hb passL (a.pa tk) hdb he hpl, fun c eK hW Γ k hd σ H st Q q => a.li c eK hW Γ _ hd σ H st _ fun vs ss H1 g r h => by
    rw [List.append_nil]
    exact ⟨c, ss, eK, g.inv, r, h.1, C.mono (fun s ks v H' g' r' => q v s H' (g.trans g') r' ks) (fun _ _ z => z.elim) h.2⟩⟩
def unI : List D → Option (List Int)
  | [] => some []
  | .int i :: r => (unI r).map (i :: ·)
  | _ :: _ => none
theorem unI_ok {c : Cfg} {H : Hp} : ∀ {vs : List V} {ds : List D} {ns : List Int}, RpAll c H vs ds → unI ds = some ns → vs = ns.map V.int
  | _, _, _, .nil, e => by
    cases e
    rfl
  | _, d :: ds, ns, .cons r t, e => by
    cases d <;> first | cases e | skip
    rename_i i
    have e' : (unI ds).map (i :: ·) = some ns := e
    rw [Option.map_eq_some_iff] at e'
    obtain ⟨ms, e1, e2⟩ := e'
    subst e2
    rw [rp_int r, unI_ok t e1]
    rfl
def gSum : List Sl → DK → Prop := fun ss k => match ss with
  | [.d (.lst xs)] => (match unI xs with
    | some ns => k (.d (.int ns.sum))
    | none => False)
  | _ => False
theorem oc_sum : OC K (rSum K) gSum := fun c H vs ss k Q eK hi r h q => by
  subst eK
  unfold gSum at h
  split at h
  · split at h
    · rename_i ns e
      obtain ⟨v, rfl, w, ew, rr⟩ := paired1 r
      cases ew
      cases rr with
      | lst nf il0 ra =>
        have z : SqL c.K H _ _ := .inl (.inl il0)
        rw [unI_ok ra e] at z
        exact ⟨_, ns, rfl, z, q _ (.d (.int _)) H (Go.self hi) ⟨_, rfl, .int _⟩ h⟩
    · exact h.elim
  · exact h.elim
end
end Dv
set_option Elab.async false
set_option linter.all false
set_option maxRecDepth 100000
set_option maxHeartbeats 4000000
/-! Hx: a list of one's own handed to a call that keeps nothing of it; C() with a default (). -/
namespace L2
open PySem PySem.Spec PyProof.Rows
section
variable {X : Cx} {CX : CXT} {sp : Sp} {E : St → XK} {C f : Addr} {k : Nat} {fd : FuncData} {ps : List Str} {dvs : List V} {ds : List Value} {x : Str} {p pos : Pos}
theorem pe_makeS0 (M : Mk X.K C f) (F : FnOk X.prog X.w X.K X.mg X.base CX k f fd ps sp) (hr : Room (k + 1) X.A) (hg : Gl X x) (hm : X.mg x = some (.ref C)) (hb : Binds X.K fd ps ds) (hd : Vals dvs ds) (hx : ∀ σ, PassesAt CX X σ (E σ))
    (hdb : (x == ("__debug__" : Str)) = false := by decide) : PE X (.Call (.Name x p) [] [] pos) (tMakeS C sp dvs E tNil) := by
  refine ⟨fun pins s σ H Q I h => ?_⟩
  refine wpAny_Call_Name_kw (ld_glob I hg hm ?_ hdb)
  exact PySem.W.callWith_K0 I.kIn M.kp (run_makeS M F hr hb hd (hx σ) I .nil h)
end
end L2
namespace Dv
open PySem L2
/-! ### handing a list of one's own to a call -/
/-- the view in which one's own a is data -/
def Cfg.lend (c : Cfg) (a : Addr) (n : ¬ c.G a) : Cfg where
  K := c.K
  F := fun b => c.F b ∧ b ≠ a
  W := c.G
  G := c.G
  I := c.I
  pl := c.pl
  ow := fun _ => none
  mono := c.mono
  live := fun h z => c.live h z.1
  WF := fun {b} z => ⟨c.GF z, fun e => n (e ▸ z)⟩
  GW := fun z => z
  plG := c.plG
  owW := fun e => nomatch e
  inj := fun e => nomatch e
  plAt := c.plAt
  plPut := c.plPut
  owPut := fun _ e => nomatch e
  tb := c.tb
  tabs := c.tabs
  ext := c.ext
mutual
/-- data without lists and dicts -/
def clean : D → Bool
  | .non => true
  | .bl _ => true
  | .int _ => true
  | .str _ => true
  | .tup xs => cleanA xs
  | .obj _ fs => cleanF fs
  | _ => false
def cleanA : List D → Bool
  | [] => true
  | x :: r => clean x && cleanA r
def cleanF : List (Str × D) → Bool
  | [] => true
  | (_, x) :: r => clean x && cleanF r
end
theorem Rp.back {c : Cfg} {a : Addr} {n : ¬ c.G a} {H : Hp} {v : V} {d : D} {xs : List V} (ha : H a = some (.lst xs)) (h : Rp (c.lend a n) H v d) : clean d = true → Rp c H v d := by
  refine Rp.rec (motive_1 := fun v d _ => clean d = true → Rp c H v d) (motive_2 := fun vs ds _ => cleanA ds = true → RpAll c H vs ds) (motive_3 := fun vs ds _ => cleanF ds = true → RpFs c H vs ds) (motive_4 := fun vs ds _ => True)
    (fun _ => .non) (fun b _ => .bl b) (fun i _ => .int i) (fun x _ => .str x) ?_ ?_ ?_ ?_ ?_ ?_ (fun _ => .nil) ?_ (fun _ => .nil) ?_ trivial ?_ h
  · intro b ys ds nf s _ r z
    unfold clean at z
    cases z
  · intro b ys ds s _ r z
    unfold clean at z
    cases z
  · intro b ys ds s _ r z
    unfold clean at z
    refine .tup ?_ (r z)
    rcases s with ⟨nf, rd⟩ | s
    · refine .inl ⟨fun y => nf ⟨y, fun e => ?_⟩, rd⟩
      subst e
      rcases rd with rd | ⟨o, rd⟩ <;> rw [ha] at rd <;> cases rd
    · exact .inr s
  · intro b Cl dx fs ds nf s _ r z
    unfold clean at z
    refine .obj (fun y => nf ⟨y, fun e => ?_⟩) s (r z)
    subst e
    rw [ha] at s
    cases s
  · intro b kvs ds nf s _ r z
    unfold clean at z
    cases z
  · intro b C oe d vs ds nf s e x _ r z
    unfold clean at z
    cases z
  · intro v d vs ds _ _ p q z
    unfold cleanA at z
    rw [Bool.and_eq_true] at z
    exact .cons (p z.1) (q z.2)
  · intro m v d vs ds _ _ p q z
    unfold cleanF at z
    rw [Bool.and_eq_true] at z
    exact .cons (p z.1) (q z.2)
  · intro m v d vs ds _ _ p q
    trivial
def cleanS : Sl → Prop
  | .d x => clean x = true
  | _ => False
/-- f(x), x a list of one's own, f keeps nothing of it -/
def dHand (C : Ctr) (j : Nat) : DE := fun Γ k => match Γ[j]? with
  | some (.own _ (.lst xs)) => 1 = C.n ∧ C.f [.d (.lst xs)] (fun s => cleanS s ∧ k s) fun _ _ => False
  | _ => False
section
variable {X : Cx} {W : WX} {xw : XW} {K : PySem.W.Frag} {C : Ctr} {f : Addr} {fd : FuncData} {ps : List Str} {k : Nat} {x y : Str} {p py pos : Pos}
theorem pd_handG {j : Nat} (F : FnOkG X.prog X.w X.K X.mg X.base (L2.CX X.prog X.w) k f fd ps (C.sp X.K)) (gd : X.A.guards = some []) (hr : Room k X.A) (hm : X.mg x = some (.ref f)) (hk : PySem.W.keepIn X.K (.ref f) = true) (hb : Binds X.K fd ps []) (hj : X.N[j]? = some y := by rfl) (hv : Vis X.env.scope y := by first | exact Or.inl rfl | exact Or.inr (Or.inl rfl)) (hg : Gl X x := by rfl)
    (hdb : (x == ("__debug__" : Str)) = false := by decide) (hdy : (y == ("__debug__" : Str)) = false := by decide) (hcd : (y == ("__classdict__" : Str)) = false := by decide) (he : starEach [.Name y py] X.env = (false, eval (.Name y py) X.env) :: starEach [] X.env := by rfl) (hpl : (backTo pos (starEach [] X.env)).any (·.1) = false := by rfl) :
    PD X W xw (.Call (.Name x p) [.Name y py] [] pos) (tCall (C.sp X.K) [] E0 (tCons (tVar j) tNil)) (dHand C j) :=
  ⟨fun tk => pe_callG F gd hr hg hm hk hb passL (pa_cons (pe_var hj hv hdy hcd) pa_nil (by rfl)) hdb he hpl, fun c eK hW Γ k hd σ H st Q q => by
    unfold dHand at hd
    split at hd
    · rename_i m xs eΓ
      obtain ⟨hn, hd⟩ := hd
      obtain ⟨o1, e1⟩ := slot_at st.len eΓ
      obtain ⟨a, ea, wa, ys, ha, ra⟩ := st.at_ j _ _ e1 eΓ
      subst ea
      have nG : ¬ c.G a := (c.owW wa).2
      refine ⟨_, e1, ?_⟩
      refine ⟨c.lend a nG, [.d (.lst xs)], eK, st.inv, .cons ⟨_, rfl, .lst (fun z => z.2 rfl) ha (RpAll.to (c := c) (c' := c.lend a nG) rfl (fun _ z => z.1) Kp.self ra)⟩ .nil, hn, ?_⟩
      refine C.mono (fun s ks v H' g' r' => ?_) (fun _ _ z => z.elim) hd
      obtain ⟨cs, ks⟩ := ks
      cases s with
      | d x =>
        have g2 : Go c H H' := ⟨g'.keep, g'.inv⟩
        have ha2 : H' a = some (.lst ys) := g'.keep a _ nG rfl ha
        obtain ⟨u, eu, ru⟩ := r'
        cases eu
        exact q _ (.d x) H' g2 ⟨_, rfl, ru.back ha2 cs⟩ ks
      | _ => exact cs.elim
    · exact hd.elim⟩
/-! ### C() by a default () -/
structure MetAt0 (K : PySem.W.Frag) (x qual : Str) (st : Stmt) (ps : List Str) (f : Addr) (fd : FuncData) : Prop where
  F : FunD K x qual st f fd
  b : Binds K fd ps []
  b1 : ∃ t, KT K t [] ∧ ∃ ds, Vals [V.ref t] ds ∧ Binds K fd ps ds
theorem met_mk0 {K : PySem.W.Frag} {x qual : Str} {st : Stmt} {ps : List Str} {f T t : Addr} {oc ot : Value} {od an ot2 odt : Option Addr} {osl tsl tsl2 : Array (Option Value)} {kV doc pm cdv ct : Value} {m n m2 : Nat} (l : K.lookup f = some ⟨oc, od, .func (PySem.W.fnOf x qual (defArgs st) (defBody st) (defScope st) (.ref T) kV doc pm an cdv ct), osl⟩)
    (c : PySem.W.codeIn K cdv qual = true) (k : PySem.W.keepIn K (.ref f) = true) (lT : K.lookup T = some ⟨ot, ot2, .seq #[.ref t] m, tsl⟩) (lt : K.lookup t = some ⟨.type "tuple", odt, .seq #[] m2, tsl2⟩) (hn : n + 1 = ps.length)
    (h0 : ∀ (T : Addr) (kV doc pm : Value) (an : Option Addr) (cdv ct : Value) (us its : List Value), us.length = n + 1 → its.length = 1 →
      ∃ k, bindArgs (PySem.W.fnOf x qual (defArgs st) (defBody st) (defScope st) (.ref T) kV doc pm an cdv ct) ⟨us, []⟩ = seqItems? (.ref T) >>= k ∧ k (some its.toArray) = pure (ps.zip (us ++ its.drop 1)))
    (h1 : ∀ (T : Addr) (kV doc pm : Value) (an : Option Addr) (cdv ct : Value) (us its : List Value), us.length = n → its.length = 1 →
      ∃ k, bindArgs (PySem.W.fnOf x qual (defArgs st) (defBody st) (defScope st) (.ref T) kV doc pm an cdv ct) ⟨us, []⟩ = seqItems? (.ref T) >>= k ∧ k (some its.toArray) = pure (ps.zip (us ++ its.drop 0))) :
    MetAt0 K x qual st ps f (PySem.W.fnOf x qual (defArgs st) (defBody st) (defScope st) (.ref T) kV doc pm an cdv ct) := by
  have F : L2.FunD K x qual (defArgs st) (defBody st) (defScope st) [V.ref t] [] f (PySem.W.fnOf x qual (defArgs st) (defBody st) (defScope st) (.ref T) kV doc pm an cdv ct) :=
    ⟨⟨_, _, _, _, _, _, _, _, _, _, rfl, l, c, .inr ⟨by simp, T, _, [.ref t], m, rfl, lT, rfl, .cons rfl .nil⟩, .inl rfl⟩, k⟩
  obtain ⟨d0, v0, b0⟩ := F.binds1 (ps := ps) (n + 1) 1 (by simp) (by simpa using hn) h0
  have e0 : d0 = [] := by
    cases v0
    rfl
  rw [e0] at b0
  exact ⟨⟨⟨_, _, _, _, _, _, _, _, _, _, rfl, l, c⟩, k⟩, b0, t, ⟨_, _, _, lt, rfl, rfl, (by decide), .nil⟩, F.binds1 (ps := ps) n 0 (by simp) (by simpa using hn) h1⟩
theorem pd_new0 {CI : CtrI} {Cl : Addr} (M : Mk X.K Cl f) (F : FnOk X.prog X.w X.K X.mg X.base (L2.CX X.prog X.w) k f fd ps (CI.sp X.K Cl)) (hr : Room (k + 1) X.A) (hm : X.mg x = some (.ref Cl)) (hb : ∃ t, KT X.K t [] ∧ ∃ ds, Vals [V.ref t] ds ∧ Binds X.K fd ps ds) (hg : Gl X x := by rfl)
    (hdb : (x == ("__debug__" : Str)) = false := by decide) : PD X W xw (.Call (.Name x p) [] [] pos) (tMakeS Cl (CI.sp X.K Cl) [V.ref (Classical.choose hb)] (WE W) tNil) (dNew CI Cl [.tup []] xw dNil) := by
  obtain ⟨kt, ds, v, b⟩ := Classical.choose_spec hb
  generalize Classical.choose hb = t at kt v
  exact ⟨fun tk => pe_makeS0 M F hr hg hm b v (fun σ => passAt tk σ) hdb, fun c eK hW Γ k hk σ H st Q q => fun y dx ny nd ne =>
    ⟨c, [.d (.tup [])], y, dx, H, [V.ref t], eK, st.inv, rfl, ny, nd, ne, rfl, .cons ⟨_, rfl, .tup (.inr (by rw [eK]; exact kt)) .nil⟩ .nil, hk.1,
      CI.mono (fun fs ks H' g' r' => ⟨rfl, q _ (.d (.obj Cl fs)) H' g' ⟨_, rfl, r'⟩ ks⟩) (fun A pp z d H' g' x' => hW σ H' Γ A d pp (st.go g') x' z) hk.2⟩⟩
end
/-! ### x = list(e), one's own from then on -/
theorem mine_newL {c : Cfg} {σ : St} {H : Hp} {Γ : Gm} {k i : Nat} {p : Addr} {xs : List V} {ds : List D} (s : StOk c σ H Γ) (np : H p = none) (r : RpAll c H xs ds) : ∃ ha : ¬ c.F p, StOk (c.mine k p ha) (σ.set i (some (.ref p))) (upd H p (.lst xs)) ((clr k Γ).set i (.own k (.lst ds))) := by
  have nP : ¬ c.F p := c.fresh s.inv np
  have kp : ∀ b o, H b = some o → upd H p (.lst xs) b = some o := fun b o e => by
    rw [upd_ne (ne_of_none e np)]
    exact e
  have s1 := s.mine (k := k) (H' := upd H p (.lst xs)) nP np kp ⟨_, upd_same, rfl⟩
  exact ⟨nP, s1.set (i := i) (o := some (.ref p)) (s := .own k (.lst ds)) ⟨p, rfl, if_pos rfl, xs, upd_same, (r.mine np).go fun b o _ _ e => kp b o e⟩⟩
def dOwnC (i k : Nat) (e : DE) (dr : DS) : DS := fun D Γ => e Γ fun s => match s with
  | .d (.tup ds) => dr (ownE k D) ((clr k Γ).set i (.own k (.lst ds)))
  | .d (.lst ds) => dr (ownE k D) ((clr k Γ).set i (.own k (.lst ds)))
  | _ => False
section
variable {X : Cx} {W : WX} {xw : XW}
theorem pdss_ownC {i k : Nat} {x : Str} {a : Expr} {ta : TE} {da : DE} {px pl pc spos : Pos} {rest : List Stmt} {tr : TS} {dr : DS} (h : PD X W xw a ta da) (hm : X.mg "list" = none) (hN : X.N.Nodup) (r : PDSs X W (fzX k xw) rest tr dr) (hg : Gl X "list" := by rfl) (hi : X.N[i]? = some x := by rfl) (hx : Loc X.env.scope x := by first | exact Or.inl rfl | exact Or.inr rfl)
    (hv : bootBuiltins "list" = some (.type "list") := by decide +kernel) (he : starEach [a] X.env = (false, eval a X.env) :: starEach [] X.env := by rfl) (hpl : (backTo pc (starEach [] X.env)).any (·.1) = false := by rfl)
    (hs : swapsWith (.Call (.Name "list" pl) [a] [] pc) (some (.Name x px)) spos.line X.env = pure false := by rfl) (hf : X.fn x = true ∨ X.env.scope.names.lookup x = some .local := by first | exact .inl rfl | exact .inr rfl | assumption) :
    PDSs X W xw (.Assign [.Name x px] (.Call (.Name "list" pl) [a] [] pc) spos :: rest)
      (tSeq (tAsg (tCB (fun xs H Q => ∃ p ys, xs = [V.ref p] ∧ (SqL X.K H p ys ∨ SqT X.K H p ys) ∧ ∀ l, H l = none → Q (.ref l) (upd H l (.lst ys))) (tCons ta tNil)) (gName i)) tr) (dOwnC i k da dr) :=
  ⟨fun tk => pss_cons (ps_set hN hi hx (pe_callTy call_list_of hg hm hv (pa_cons (h.pe tk) pa_nil he) (by decide) (by decide) he hpl) hs hf) (r.ps tk), fun c eK hW E D o Γ σ H s hd => h.li c eK hW Γ _ hd σ H s _ fun v s' H1 g rr q => by
    try dsimp only at q
    split at q
    · obtain ⟨w, ew, rw⟩ := rr
      cases ew
      cases rw with
      | tup il ra =>
        refine ⟨_, _, rfl, .inr (by rw [← eK]; exact il.sq), fun p np => ?_⟩
        obtain ⟨ha, s2⟩ := mine_newL (k := k) (i := i) (s.go g) np ra
        exact r.li (c.mine k p ha) eK hW.mine E _ o.mine _ _ _ s2 q
    · obtain ⟨w, ew, rw⟩ := rr
      cases ew
      cases rw with
      | lst nf il ra =>
        refine ⟨_, _, rfl, .inl (.inl (Or.inl il)), fun p np => ?_⟩
        obtain ⟨ha, s2⟩ := mine_newL (k := k) (i := i) (s.go g) np ra
        exact r.li (c.mine k p ha) eK hW.mine E _ o.mine _ _ _ s2 q
    · exact q.elim⟩
end
end Dv
set_option Elab.async false
set_option linter.all false
set_option maxRecDepth 100000
set_option maxHeartbeats 4000000
/-! Ux: x.extend(e); x, y = [], e; looks into a list of one's own; a list of one's own that is made anew in a loop. -/
namespace L2
open PySem PySem.Spec PyProof.Rows PySem.AutoSeq1
section
theorem ext_tup (l : Addr) (items : Array Value) (n : Nat) (b : Addr) (o2 : Obj) (items2 : Array Value) (n2 : Nat) (ec : o2.cls = .type "tuple") (ed : o2.data = .seq items2 n2) (hs0 : ¬(!items.isEmpty && Builtin.List.listTooLong (items.size + items2.size)) = true) (hs1 : items.size ≤ sizeLine) (hs2 : items.size + items2.size ≤ sizeLine + 1) :
    Meets (Builtin.«list.extend» ⟨[.ref l, .ref b], []⟩) (fun _ R s => s.heap.get? l = some { cls := .type "list", dict := none, data := .seq items n, slots := #[] } ∧ s.heap.get? b = some o2 ∧ R (.ok (.ret Value.none)) { s with heap := s.heap.update l (Obj.mapSeq fun x => x ++ items2), toks := s.toks }) :=
  .of_wp fun prog w A R s h => by
    obtain ⟨hp, g, d, tk, os⟩ := s
    obtain ⟨hl, hb, h⟩ := h
    obtain ⟨oc, od, odt, osl⟩ := o2
    dsimp only at ec ed
    subst ec ed
    have f1 := AutoSeq1.idx_int
    have f2 := AutoSeq1.sub_tuple_tuple
    have f3 := AutoSeq1.sub_list_list
    have f4 := AutoSeq1.sub_tuple_list
    have f5 := AutoSeq1.sub_list_tuple
    have hz' : (items ++ items2).size ≤ sizeLine + 1 := by rw [Array.size_append]; exact hs2
    wp_walk using (wpAny_updateSeq hl rfl (hz := hs1) (_hz' := hz')), wpAny_loadPart' hl, wpAny_loadPart' hb
    exact ⟨_, rfl, h⟩
variable {X : Cx}
/-- x.extend(a list or a tuple) -/
def rExtB (K : PySem.W.Frag) : V → List V → Hp → VK → Prop := fun x vs H Q => rExtend x vs H Q ∨ ∃ l b xs zs, x = .ref l ∧ vs = [.ref b] ∧ H l = some (.lst xs) ∧ SqT K H b zs ∧ xs.length + zs.length ≤ sizeLine ∧ Q .non (upd H l (.lst (xs ++ zs)))
theorem mt_extB : MtM X "list.extend" (rExtB X.K) := by
  intro pins s σ H x vs v us Q I rx rv h
  rcases h with h | h
  · exact mt_extend pins s σ H x vs v us Q I rx rv h
  obtain ⟨l, b, xs, zs, rfl, rfl, hH, hB, hz, q⟩ := h
  cases rx
  obtain ⟨u, rfl, ru⟩ := rv.one
  cases ru
  obtain ⟨z, its, n, r, hl, e⟩ := I.lstM hH
  obtain ⟨its2, r2, ⟨o2, e2, c2, n2, d2⟩, hl2⟩ := I.tuple hB
  have hl3 : zs.length = its2.length := r2.length
  have hsz : its.toArray.size + its2.toArray.size ≤ sizeLine := by rw [List.size_toArray, List.size_toArray]; omega
  have hlong : ¬ (!its.toArray.isEmpty && Builtin.List.listTooLong (its.toArray.size + its2.toArray.size)) = true := by
    rw [notLongL hsz, Bool.and_false]
    exact Bool.false_ne_true
  refine call_meets F.slot_list_extend ⟨_, e, rfl⟩ F.entry_list_extend (F.args_list_extend_2 _ _)
    (ext_tup l its.toArray n b o2 its2.toArray n2 c2 d2 hlong (by rw [List.size_toArray]; omega) (by omega)) ⟨e, e2, ?_⟩
  refine ⟨.non, _, I.lset (its' := its ++ its2) hH e (by simp) (r.append r2) ?_, rfl, q⟩
  rw [List.length_append]
  omega
end
end L2
namespace Dv
open PySem L2
section
variable {X : Cx} {W : WX} {xw : XW} {K : PySem.W.Frag} {pos : Pos}
/-! ### x.extend(e) -/
def dExt (i : Nat) (e : DE) : DS := fun D Γ => match Γ[i]? with
  | some (.own k (.lst xs)) => e Γ fun s => match s with
    | .d (.lst ys) => xs.length + ys.length ≤ 100000 ∧ D.nx ((clr k Γ).set i (.own k (.lst (xs ++ ys))))
    | .d (.tup ys) => xs.length + ys.length ≤ 100000 ∧ D.nx ((clr k Γ).set i (.own k (.lst (xs ++ ys))))
    | _ => False
  | _ => False
theorem pds_ext {i : Nat} {x : Str} {e : Expr} {te : TE} {de : DE} {p apos cpos : Pos} (h : PD X W xw e te de) (hi : X.N[i]? = some x := by rfl) (hv : Vis X.env.scope x := by first | exact Or.inl rfl | exact Or.inr (Or.inl rfl))
    (hd : (x == ("__debug__" : Str)) = false := by decide) (hcd : (x == ("__classdict__" : Str)) = false := by decide)
    (hbase : attributeBase (.Name x p) "extend" X.env (eval (.Name x p) X.env) = eval (.Name x p) X.env := by rfl)
    (hfew : ((backTo cpos (starEach [e] X.env)).all (fun x => !x.1) && (backToKw cpos (keywordEach [] X.env)).all (fun x => x.1.isSome)
      && decide ([e].length + ([] : List Keyword).length + (if ([] : List Keyword).isEmpty then 0 else 1) < 30)) = true := by rfl)
    (hline : (apos.endLine == cpos.line) = true := by rfl) (hs : starEach [e] X.env = (false, eval e X.env) :: starEach [] X.env := by rfl) (hplain : (backTo cpos (starEach [] X.env)).any (·.1) = false := by rfl)
    (hsw : swapsWith (.Call (.Attribute (.Name x p) "extend" apos) [e] [] cpos) none pos.line X.env = pure false := by rfl) :
    PDS X W xw (.Expr (.Call (.Attribute (.Name x p) "extend" apos) [e] [] cpos) pos) (tDrop (tBM X.K "list" (rExtB X.K) (tVar i) (tCons te tNil))) (dExt i de) :=
  ⟨fun tk => ps_expr (pe_bm PySem.F.plainAttrs_list PySem.F.slot_list_extend PySem.F.type_list_extend mt_extB (pe_var hi hv hd hcd) (pa_cons (h.pe tk) pa_nil hs) hbase hfew hline hs hplain) hsw, fun c eK hW E D o Γ σ H s hdd => by
    unfold dExt at hdd
    split at hdd
    · rename_i k xs eΓ
      obtain ⟨o1, e1⟩ := slot_at s.len eΓ
      obtain ⟨a, ea, wa, vs, ha, ra⟩ := s.at_ i _ _ e1 eΓ
      subst ea
      refine ⟨_, e1, .inl ⟨rfl, vs, .inl (.inl ha)⟩, ?_⟩
      refine h.li c eK hW Γ _ hdd σ H s _ fun v s' H1 g r q => ?_
      try dsimp only at q
      have s1 := s.go g
      have ha1 : H1 a = some (.lst vs) := g.keep a _ (c.owW wa).2 rfl ha
      have ra1 : RpAll c H1 vs xs := ra.go g.kF
      have fin : ∀ (ws : List V) (ys : List Dv.D), RpAll c H1 ws ys → D.nx ((clr k Γ).set i (.own k (.lst (xs ++ ys)))) → E.nx σ (upd H1 a (.lst (vs ++ ws))) := fun ws ys rw q => by
        have kW : Kp c.F H1 (upd H1 a (.lst (vs ++ ws))) := fun b u nb _ e => by
          rw [upd_ne (fun y => nb (by rw [y]; exact c.WF (c.owW wa).1))]
          exact e
        exact o.nx _ _ _ (s1.put (i := i) (x := .lst _) wa e1 ⟨_, upd_same, RpAll.append (ra1.go kW) (rw.go kW)⟩) q
      split at q
      · obtain ⟨w, ew, rw⟩ := r
        cases ew
        cases rw with
        | lst nf il rb => exact .inl ⟨a, _, vs, _, rfl, rfl, ha1, il, by rw [ra.length, rb.length]; exact Nat.le_trans q.1 (by decide), fin _ _ rb q.2⟩
      · obtain ⟨w, ew, rw⟩ := r
        cases ew
        cases rw with
        | tup il rb => exact .inr ⟨a, _, vs, _, rfl, rfl, ha1, by rw [← eK]; exact il.sq, by rw [ra.length, rb.length]; exact Nat.le_trans q.1 (by decide), fin _ _ rb q.2⟩
      · exact q.elim
    · exact hdd.elim⟩
/-! ### x, y = [], e -/
theorem hide_mine {c : Cfg} {σ : St} {H : Hp} {Γ : Gm} {k i j : Nat} {p : Addr} {ha : ¬ c.F p} {v : V} {y : Dv.D} (s : StOk (c.hide p ha) σ H Γ) (hp : H p = some (.lst [])) (r : SlOk (c.hide p ha) H (some v) (.d y)) :
    StOk (c.mine k p ha) ((σ.set i (some (.ref p))).set j (some v)) H (((clr k Γ).set i (.own k (.lst []))).set j (.d y)) := by
  have s1 : StOk (c.mine k p ha) σ H (clr k Γ) := by
    refine ⟨s.inv, by rw [s.len]; simp [clr], fun i o t e1 e2 => ?_⟩
    rcases clr_get e2 with z | ⟨z, e⟩
    · subst z
      trivial
    · refine SlOk.to (c := c.hide p ha) (c' := c.mine k p ha) rfl (fun _ z => z) (fun _ z => z) Kp.self (fun n x b en w => ⟨?_, fun _ _ e => e⟩) rfl (s.at_ i o t e1 e)
      have nk : n ≠ k := fun q => z x (by rw [en, q])
      show (if n = k then some p else c.ow n) = some b
      rw [if_neg nk]
      exact w
  have s2 := s1.set (i := i) (o := some (.ref p)) (s := .own k (.lst [])) ⟨p, rfl, if_pos rfl, [], hp, .nil⟩
  obtain ⟨w, e, rw⟩ := r
  exact s2.set (i := j) (o := some v) (s := .d y) ⟨w, e, Rp.to (c := c.hide p ha) (c' := c.mine k p ha) rfl (fun _ z => z) Kp.self rw⟩
theorem pdss_ownL {i j k : Nat} {x y : Str} {a : Expr} {ta : TE} {da : DE} {px py pt lp pos : Pos} {kt k2 pt2} {rest : List Stmt} {tr : TS} {dr : DS} (h : PD X W0 xw0 a ta da) (hc : X.calm = true) (hN : X.N.Nodup) (r : PDSs X W (fzX k xw) rest tr dr) (hi : X.N[i]? = some x := by rfl) (hj : X.N[j]? = some y := by rfl) (hij : i ≠ j := by decide)
    (hx : X.env.scope.names.lookup x = some .local := by rfl) (hy : X.env.scope.names.lookup y = some .local := by rfl) (hst : starEach [.List [] lp, a] X.env = (false, eval (.List [] lp) X.env) :: starEach [a] X.env := by rfl) (hst2 : starEach [a] X.env = (false, eval a X.env) :: starEach [] X.env := by rfl)
    (hw : swappedStores [.Tuple [.Name x px, .Name y py] kt pt] (.Tuple [.List [] lp, a] k2 pt2) X.env = pure (some [x, y]) := by rfl) (hs : swapsWithSole [.Tuple [.Name x px, .Name y py] kt pt] (.Tuple [.List [] lp, a] k2 pt2) pos.line X.env = pure false := by rfl) :
    PDSs X W xw (.Assign [.Tuple [.Name x px, .Name y py] kt pt] (.Tuple [.List [] lp, a] k2 pt2) pos :: rest) (tSeq (tPar i j (tCons (tLst tNil) (tCons ta tNil))) tr) (dOwnL i j k da dr) :=
  ⟨fun tk => pss_cons (ps_par hc hN hi hj hij hx hy (pa_cons (pe_lst pa_nil) (pa_cons (h.pe takes0) pa_nil hst2) hst) hw hs) (r.ps tk), fun c eK hW E D o Γ σ H s hd => by
    refine ⟨Nat.zero_le _, fun p np => ?_⟩
    have nP : ¬ c.F p := c.fresh s.inv np
    have s0 : StOk c σ (upd H p (.lst [])) Γ := s.go (Go.new s.inv np)
    -- e is told where the new list stands beside
    have s1 : StOk (c.hide p nP) σ (upd H p (.lst [])) Γ := s.hide nP np (fun b o e => by rw [upd_ne (ne_of_none e np)]; exact e) ⟨_, upd_same, rfl⟩
    refine h.li (c.hide p nP) eK WOk.zero Γ _ hd σ _ s1 _ fun v s' H1 g rr q => ?_
    try dsimp only at q
    split at q
    · rename_i y'
      refine ⟨_, _, rfl, ?_⟩
      have hp1 : H1 p = some (.lst []) := g.keep p _ (fun z => nP (c.GF z)) rfl upd_same
      have s2 : StOk (c.hide p nP) σ H1 Γ := s1.go g
      have s3 := hide_mine (k := k) (i := i) (j := j) s2 hp1 rr
      exact r.li (c.mine k p nP) eK hW.mine E _ o.mine _ _ _ s3 q
    · exact q.elim⟩
/-! ### looks into what is one's own -/
def dPeek (d : DT) : DT := fun Γ k => d (fzA Γ) k
theorem pdt_peek {e : Expr} {t : TT} {d : DT} (h : PDT X W0 xw0 e t d) : PDT X W xw e t (dPeek d) :=
  ⟨fun tk => h.pt takes0, fun c eK hW Γ k hk σ H st Q q => h.li c.rel eK WOk.zero (fzA Γ) k hk σ H st.rel Q fun b H1 g hb => q b H1 ⟨g.keep, g.inv⟩ hb⟩
def scal : Dv.D → Bool
  | .non => true
  | .bl _ => true
  | .int _ => true
  | .str _ => true
  | _ => false
def dPeekE (d : DE) : DE := fun Γ k => d (fzA Γ) fun s => match s with
  | .d x => scal x = true ∧ k (.d x)
  | _ => False
theorem pd_peek {e : Expr} {t : TE} {d : DE} (h : PD X W0 xw0 e t d) : PD X W xw e t (dPeekE d) :=
  ⟨fun tk => h.pe takes0, fun c eK hW Γ k hk σ H st Q q => h.li c.rel eK WOk.zero (fzA Γ) _ hk σ H st.rel Q fun v s H1 g r hs => by
    try dsimp only at hs
    split at hs
    · rename_i y
      obtain ⟨hx, hk⟩ := hs
      obtain ⟨w, e, rw⟩ := r
      cases e
      refine q v (.d y) H1 ⟨g.keep, g.inv⟩ ⟨_, rfl, ?_⟩ hk
      cases rw <;> first | exact .non | exact .bl _ | exact .int _ | exact .str _ | cases hx
    · exact hs.elim⟩
/-! ### one's own list, made anew in a loop -/
def LiM (K : PySem.W.Frag) (k : Nat) (ts : TS) (ds : DS) : Prop := ∀ c : Cfg, c.K = K → ∀ (E : Ends) (D : DEnds), (∀ a ha, EndsOk (c.mine k a ha) E D) → ∀ a ha Γ σ H, StOk (c.mine k a ha) σ H Γ → ds D Γ → ts E σ H
structure PDm (X : Cx) (k : Nat) (st : Stmt) (ts : TS) (ds : DS) : Prop where
  ps : PS X st ts
  li : LiM X.K k ts ds
structure PDms (X : Cx) (k : Nat) (st : List Stmt) (ts : TS) (ds : DS) : Prop where
  ps : PSs X st ts
  li : LiM X.K k ts ds
theorem PDm.of {st : Stmt} {k : Nat} {t : TS} {d : DS} (h : PDS X W0 xw0 st t d) : PDm X k st t d := ⟨h.ps takes0, fun c eK E D o a ha Γ σ H s hd => h.li (c.mine k a ha) eK WOk.zero E D (o a ha) Γ σ H s hd⟩
theorem pdms_nil {k : Nat} : PDms X k [] tNext dNext := ⟨pss_nil, fun c eK E D o a ha Γ σ H s h => (o a ha).nx Γ σ H s h⟩
theorem pdms_cons {st : Stmt} {rest : List Stmt} {k : Nat} {t u : TS} {d e : DS} (h1 : PDm X k st t d) (h2 : PDms X k rest u e) : PDms X k (st :: rest) (tSeq t u) (dSeq d e) :=
  ⟨pss_cons h1.ps h2.ps, fun c eK E D o a ha Γ σ H s h => h1.li c eK { E with nx := u E } { D with nx := e D } (fun b hb => ⟨fun Γ σ H s q => h2.li c eK E D o b hb Γ σ H s q, (o b hb).rt, (o b hb).bk, (o b hb).ct, (o b hb).ro⟩) a ha Γ σ H s h⟩
theorem pdms_one {st : Stmt} {k : Nat} {t : TS} {d : DS} (h1 : PDm X k st t d) : PDms X k [st] t d := ⟨pss_one h1.ps, h1.li⟩
theorem pdm_if {k : Nat} {c0 : Expr} {a b : List Stmt} {tc : TT} {dc : DT} {t u : TS} {d e : DS} (hc : PDT X W0 xw0 c0 tc dc) (ha : PDms X k a t d) (hb : PDms X k b u e) : PDm X k (.If c0 a b pos) (tIfS tc t u) (dIfS dc d e) :=
  ⟨ps_if (hc.pt takes0) ha.ps hb.ps, fun c eK E D o p hp Γ σ H s hd => hc.li (c.mine k p hp) eK WOk.zero Γ _ hd σ H s _ fun v H1 g h1 => by
    cases v
    · rw [if_neg Bool.false_ne_true]
      exact hb.li c eK E D o p hp Γ σ H1 (s.go g) h1
    · rw [if_pos rfl]
      exact ha.li c eK E D o p hp Γ σ H1 (s.go g) h1⟩
/-- x = x + e -/
def dReb (i k : Nat) (e : DE) : DS := fun D Γ => match Γ[i]? with
  | some (.own j (.lst xs)) => j = k ∧ e Γ fun s => match s with
    | .d (.lst ys) => xs.length + ys.length ≤ 100000 ∧ D.nx ((fz k Γ).set i (.own k (.lst (xs ++ ys))))
    | _ => False
  | _ => False
theorem fz_clr {k : Nat} {Γ : Gm} : clr k (fz k Γ) = fz k Γ := by
  unfold clr fz
  rw [List.map_map]
  refine List.map_congr_left fun s _ => ?_
  cases s with
  | own j x =>
    by_cases q : j = k
    · show (match (if j = k then Sl.d x else .own j x) with
        | .own j x => if j = k then Sl.any else .own j x
        | s => s) = (if j = k then Sl.d x else .own j x)
      rw [if_pos q]
    · show (match (if j = k then Sl.d x else .own j x) with
        | .own j x => if j = k then Sl.any else .own j x
        | s => s) = (if j = k then Sl.d x else .own j x)
      rw [if_neg q]
      show (if j = k then Sl.any else .own j x) = _
      rw [if_neg q]
  | _ => rfl
theorem pdm_reb {i k : Nat} {x : Str} {e : Expr} {te : TE} {de : DE} {p px spos : Pos} (h : PD X W0 xw0 e te de) (hN : X.N.Nodup) (hi : X.N[i]? = some x := by rfl) (hv : Vis X.env.scope x := by first | exact Or.inl rfl | exact Or.inr (Or.inl rfl)) (hx : Loc X.env.scope x := by first | exact Or.inl rfl | exact Or.inr rfl)
    (hd : (x == ("__debug__" : Str)) = false := by decide) (hcd : (x == ("__classdict__" : Str)) = false := by decide)
    (hs : swapsWith (.BinOp (.Name x p) .Add e pos) (some (.Name x px)) spos.line X.env = pure false := by rfl) (hf : X.fn x = true ∨ X.env.scope.names.lookup x = some .local := by first | exact .inl rfl | exact .inr rfl | assumption) :
    PDm X k (.Assign [.Name x px] (.BinOp (.Name x p) .Add e pos) spos) (tAsg (tOp rCatR (tVar i) te) (gName i)) (dReb i k de) :=
  ⟨ps_set hN hi hx (pe_op op_catR (pe_var hi hv hd hcd) (h.pe takes0)) hs hf, fun c eK E D o a ha Γ σ H s hdd => by
    unfold dReb at hdd
    split at hdd
    · rename_i j xs eΓ
      obtain ⟨ej, hdd⟩ := hdd
      subst ej
      obtain ⟨o1, e1⟩ := slot_at s.len eΓ
      obtain ⟨a', ea, wa, vs, hl, ra⟩ := s.at_ i _ _ e1 eΓ
      subst ea
      have wa' : (if j = j then some a else c.ow j) = some a' := wa
      rw [if_pos rfl] at wa'
      cases wa'
      refine ⟨_, e1, ?_⟩
      refine h.li (c.mine j a ha) eK WOk.zero Γ _ hdd σ H s _ fun v s' H1 g r q => ?_
      try dsimp only at q
      split at q
      · obtain ⟨w, ew, rw⟩ := r
        cases ew
        have s1 := s.go g
        have ha1 : H1 a = some (.lst vs) := g.keep a _ ((c.mine j a ha).owW wa).2 rfl hl
        have ra1 : RpAll (c.mine j a ha) H1 vs xs := ra.go g.kF
        cases rw with
        | lst nf il rb =>
          refine ⟨a, _, vs, _, rfl, rfl, .inl ha1, .inl il, by rw [ra.length, rb.length]; exact Nat.le_trans q.1 (by decide), fun p np => ?_⟩
          have rr : RpAll c H1 (vs ++ _) (xs ++ _) := RpAll.append (RpAll.to (c := c.mine j a ha) (c' := c) rfl (fun _ z => .inl z) Kp.self ra1) (RpAll.to (c := c.mine j a ha) (c' := c) rfl (fun _ z => .inl z) Kp.self rb)
          obtain ⟨hb, s2⟩ := mine_newL (k := j) (i := i) s1.fz np rr
          rw [fz_clr] at s2
          exact (o p hb).nx _ _ _ s2 q.2
      · exact q.elim
    · exact hdd.elim⟩
end
end Dv
namespace Dv
open PySem L2
section
theorem rd_rem {H : Hp} {a b : Addr} {u : HO} (n : b ≠ a) (h : Rd H b u) : Rd (rem H a) b u := by
  rcases h with h | ⟨o, h⟩
  · exact .inl (by rw [rem_ne n]; exact h)
  · exact .inr ⟨o, by rw [rem_ne n]; exact h⟩
theorem rd_out {H : Hp} {a b : Addr} {u : HO} (h : Rd (rem H a) b u) : b ≠ a ∧ Rd H b u := by
  rcases h with h | ⟨o, h⟩
  · exact ⟨(rem_sub h).1, .inl (rem_sub h).2⟩
  · exact ⟨(rem_sub h).1, .inr ⟨o, (rem_sub h).2⟩⟩
theorem InL.rem_in {c : Cfg} {k : Nat} {a : Addr} {ha : ¬ c.F a} {H : Hp} {b : Addr} {xs : List V} (h : InL (c.mine k a ha) H b xs) : InL c (rem H a) b xs := by
  rcases h with ⟨n, h⟩ | h
  · exact .inl ⟨fun z => n (.inl z), rd_rem (fun z => n (.inr z)) h⟩
  · exact .inr h
theorem InT.rem_in {c : Cfg} {k : Nat} {a : Addr} {ha : ¬ c.F a} {H : Hp} {b : Addr} {xs : List V} (h : InT (c.mine k a ha) H b xs) : InT c (rem H a) b xs := by
  rcases h with ⟨n, h⟩ | h
  · exact .inl ⟨fun z => n (.inl z), rd_rem (fun z => n (.inr z)) h⟩
  · exact .inr h
theorem InL.rem_out {c : Cfg} {k : Nat} {a : Addr} {ha : ¬ c.F a} {H : Hp} {b : Addr} {xs : List V} (h : InL c (rem H a) b xs) : InL (c.mine k a ha) H b xs := by
  rcases h with ⟨n, h⟩ | h
  · obtain ⟨n2, h⟩ := rd_out h
    exact .inl ⟨fun z => z.elim n n2, h⟩
  · exact .inr h
theorem InT.rem_out {c : Cfg} {k : Nat} {a : Addr} {ha : ¬ c.F a} {H : Hp} {b : Addr} {xs : List V} (h : InT c (rem H a) b xs) : InT (c.mine k a ha) H b xs := by
  rcases h with ⟨n, h⟩ | h
  · obtain ⟨n2, h⟩ := rd_out h
    exact .inl ⟨fun z => z.elim n n2, h⟩
  · exact .inr h
theorem Rp.rem_in {c : Cfg} {k : Nat} {a : Addr} {ha : ¬ c.F a} {H : Hp} {v : V} {d : D} (h : Rp (c.mine k a ha) H v d) : Rp c (rem H a) v d := by
  refine Rp.rec (motive_1 := fun v d _ => Rp c (rem H a) v d) (motive_2 := fun vs ds _ => RpAll c (rem H a) vs ds) (motive_3 := fun vs ds _ => RpFs c (rem H a) vs ds) (motive_4 := fun vs ds _ => RpKv c (rem H a) vs ds)
    .non .bl .int .str ?_ ?_ ?_ ?_ ?_ ?_ .nil ?_ .nil ?_ .nil ?_ h
  · intro b xs ds n s _ r
    exact .lst (fun z => n (.inl z)) (by rw [rem_ne fun z => n (.inr z)]; exact s) r
  · intro b xs ds s _ r
    exact .scr s.rem_in r
  · intro b xs ds s _ r
    exact .tup s.rem_in r
  · intro b C dx fs ds n s _ r
    exact .obj (fun z => n (.inl z)) (by rw [rem_ne fun z => n (.inr z)]; exact s) r
  · intro b kvs ds n s _ r
    exact .dic (fun z => n (.inl z)) (by rw [rem_ne fun z => n (.inr z)]; exact s) r
  · intro b C oe d vs ds n s e x _ r
    exact .exn (fun z => n (.inl z)) (by rw [rem_ne fun z => n (.inr z)]; exact s) e (x.in_ (c := c.mine k a ha) fun dx u m2 s2 => ⟨fun z => m2 (.inl z), by rw [rem_ne fun z => m2 (.inr z)]; exact s2⟩) r
  · intro v d vs ds _ _ a b
    exact .cons a b
  · intro n v d vs ds _ _ a b
    exact .cons a b
  · intro n v d vs ds _ _ a b
    exact .cons a b
theorem RpAll.rem_in {c : Cfg} {k : Nat} {a : Addr} {ha : ¬ c.F a} {H : Hp} : ∀ {vs : List V} {ds : List D}, RpAll (c.mine k a ha) H vs ds → RpAll c (rem H a) vs ds
  | _, _, .nil => .nil
  | _, _, .cons r t => .cons r.rem_in (RpAll.rem_in t)
theorem Rp.rem_out {c : Cfg} {k : Nat} {a : Addr} {ha : ¬ c.F a} {H : Hp} {v : V} {d : D} (h : Rp c (rem H a) v d) : Rp (c.mine k a ha) H v d := by
  refine Rp.rec (motive_1 := fun v d _ => Rp (c.mine k a ha) H v d) (motive_2 := fun vs ds _ => RpAll (c.mine k a ha) H vs ds) (motive_3 := fun vs ds _ => RpFs (c.mine k a ha) H vs ds) (motive_4 := fun vs ds _ => RpKv (c.mine k a ha) H vs ds)
    .non .bl .int .str ?_ ?_ ?_ ?_ ?_ ?_ .nil ?_ .nil ?_ .nil ?_ h
  · intro b xs ds n s _ r
    exact .lst (fun z => z.elim n (rem_sub s).1) (rem_sub s).2 r
  · intro b xs ds s _ r
    exact .scr s.rem_out r
  · intro b xs ds s _ r
    exact .tup s.rem_out r
  · intro b C dx fs ds n s _ r
    exact .obj (fun z => z.elim n (rem_sub s).1) (rem_sub s).2 r
  · intro b kvs ds n s _ r
    exact .dic (fun z => z.elim n (rem_sub s).1) (rem_sub s).2 r
  · intro b C oe d vs ds n s e x _ r
    exact .exn (fun z => z.elim n (rem_sub s).1) (rem_sub s).2 e (x.in_ (c' := c.mine k a ha) fun dx u m2 s2 => ⟨fun z => z.elim m2 (rem_sub s2).1, (rem_sub s2).2⟩) r
  · intro v d vs ds _ _ a b
    exact .cons a b
  · intro n v d vs ds _ _ a b
    exact .cons a b
  · intro n v d vs ds _ _ a b
    exact .cons a b
theorem RpAll.rem_out {c : Cfg} {k : Nat} {a : Addr} {ha : ¬ c.F a} {H : Hp} : ∀ {vs : List V} {ds : List D}, RpAll c (rem H a) vs ds → RpAll (c.mine k a ha) H vs ds
  | _, _, .nil => .nil
  | _, _, .cons r t => .cons r.rem_out (RpAll.rem_out t)
variable {X : Cx} {W : WX} {xw : XW} {pos : Pos}
def dForM (j : Nat) (g : DG) (b : DS) : DS := fun D Γ => match Γ[j]? with
  | some (.d (.tup xs)) => forD g b D xs Γ
  | _ => False
theorem pdm_for {k j : Nat} {x : Str} {tg : Expr} {body : List Stmt} {g : TG} {tb : TS} {dg : DG} {b : DS} {p : Pos} (hp : PassesOwn (model X.prog X.w) X.A X.env X.xe) (hc : X.calm = true) (hg : PDG X tg g dg) (hb : PDms X k body tb b) (hj : X.N[j]? = some x := by rfl) (hv : Vis X.env.scope x := by first | exact Or.inl rfl | exact Or.inr (Or.inl rfl))
    (hd : (x == ("__debug__" : Str)) = false := by decide) (hcd : (x == ("__classdict__" : Str)) = false := by decide) (hs : ∀ y, foldedSetIterable (.Name x p) X.env y = pure y := by intro _; rfl) :
    PDm X k (.For tg (.Name x p) body [] pos) (tFor (iSeq X.K (tVar j)) g tb) (dForM j dg b) :=
  ⟨ps_for hp hc (pi_seq (pe_var hj hv hd hcd)) hg.pg hb.ps hs, fun c eK E D o a ha Γ σ H s hdd => by
    unfold dForM at hdd
    split at hdd
    · rename_i xs eΓ
      obtain ⟨o1, e1⟩ := slot_at s.len eΓ
      obtain ⟨v, ev, rv⟩ := s.at_ j _ _ e1 eΓ
      subst ev
      cases rv with
      | @tup q vs _ il ra =>
        refine ⟨_, e1, .inr ⟨q, rfl, ⟨vs, by rw [← eK]; exact il.sq⟩, ?_⟩⟩
        let c' := c.wth (fun H => InT c H q vs ∧ RpAll c H vs xs) (fun kk h => ⟨h.1.to rfl (fun _ z => z) (kk.le fun _ z => c.WF z), h.2.go (kk.le fun _ z => c.WF z)⟩)
        have lm : ∀ a (ha : ¬ c.F a), Le (c.mine k a ha) (c'.mine k a ha) := fun a ha => ⟨rfl, fun _ z => z, fun _ h => ⟨h.1.1, h.2⟩, fun _ z => z, fun _ _ z => z, fun _ z => z, rfl⟩
        have up : StOk (c'.mine k a ha) σ H Γ := ⟨⟨⟨s.inv.1, il.rem_in, ra.rem_in⟩, s.inv.2⟩, s.len, fun i o t e1 e2 => SlOk.to (c := c.mine k a ha) (c' := c'.mine k a ha) rfl (fun _ z => z) (fun _ z => z) Kp.self (fun _ _ _ _ w => ⟨w, fun _ _ e => e⟩) rfl (s.at_ i o t e1 e2)⟩
        refine ⟨fun n m σ H => m = xs.length - n ∧ n ≤ xs.length ∧ ∃ a ha Γ, StOk (c'.mine k a ha) σ H Γ ∧ forD dg b D (xs.drop n) Γ, ⟨xs.length, by simp, Nat.zero_le _, a, ha, Γ, up, hdd⟩, ?_⟩
        rintro n m σ2 H2 ⟨rfl, hn, a2, ha2, Γ2, s2, hd2⟩
        have il2 : InT (c'.mine k a2 ha2) H2 q vs := InT.rem_out (c := c') s2.inv.1.2.1
        have ra2 : RpAll (c'.mine k a2 ha2) H2 vs xs := RpAll.to (c := c.mine k a2 ha2) (c' := c'.mine k a2 ha2) rfl (fun _ z => z) Kp.self (RpAll.rem_out s2.inv.1.2.2)
        have w : WalkD (c'.mine k a2 ha2) (Itt X.K q) xs (fun H => InT (c'.mine k a2 ha2) H q vs ∧ RpAll (c'.mine k a2 ha2) H vs xs) := by
          rw [← eK]
          exact walk_t
        by_cases hlt : n < xs.length
        · refine .inr ⟨w.go n H2 ⟨il2, ra2⟩ s2.inv hlt, fun σ' H' => n + 1 ≤ xs.length ∧ ∃ a ha Γ', StOk (c'.mine k a ha) σ' H' Γ' ∧ forD dg b D (xs.drop (n + 1)) Γ', fun σ' H' z => ⟨xs.length - (n + 1), by omega, rfl, z⟩, fun y H' yl => ?_⟩
          have ex : xs[n]? = some xs[n] := List.getElem?_eq_some_iff.mpr ⟨hlt, rfl⟩
          obtain ⟨g2, rx⟩ := w.yld n H2 y H' xs[n] ⟨il2, ra2⟩ s2.inv ex yl
          rw [List.drop_eq_getElem_cons hlt, forD] at hd2
          refine hg.li (c'.mine k a2 ha2) eK y _ Γ2 σ2 H' _ (s2.go g2) rx hd2 _ fun σ4 Γ4 s4 h4 => ?_
          refine hb.li c' eK { E with nx := fun σ' H' => n + 1 ≤ xs.length ∧ ∃ a ha Γ', StOk (c'.mine k a ha) σ' H' Γ' ∧ forD dg b D (xs.drop (n + 1)) Γ', ct := fun σ' H' => n + 1 ≤ xs.length ∧ ∃ a ha Γ', StOk (c'.mine k a ha) σ' H' Γ' ∧ forD dg b D (xs.drop (n + 1)) Γ', bk := E.nx } { D with nx := forD dg b D (xs.drop (n + 1)), ct := forD dg b D (xs.drop (n + 1)), bk := D.nx } (fun a3 ha3 => ?_) a2 ha2 Γ4 σ4 H' s4 h4
          have o3 := (o a3 ha3).le (lm a3 ha3)
          exact ⟨fun Γ σ H s q => ⟨hlt, a3, ha3, Γ, s, q⟩, o3.rt, o3.nx, fun Γ σ H s q => ⟨hlt, a3, ha3, Γ, s, q⟩, o3.ro⟩
        · have en : n = xs.length := by omega
          subst en
          rw [List.drop_length] at hd2
          exact .inl ⟨w.stop _ H2 ⟨il2, ra2⟩ (Nat.le_refl _), (o a2 ha2).nx Γ2 σ2 H2 (s2.le (lm a2 ha2)) hd2⟩
    · exact hdd.elim⟩
theorem pdss_ownM {i k : Nat} {x : Str} {px lp spos : Pos} {rest : List Stmt} {tr : TS} {dr : DS} (hN : X.N.Nodup) (r : PDms X k rest tr dr) (hi : X.N[i]? = some x := by rfl) (hx : Loc X.env.scope x := by first | exact Or.inl rfl | exact Or.inr rfl)
    (hs : swapsWith (.List [] lp) (some (.Name x px)) spos.line X.env = pure false := by rfl) (hf : X.fn x = true ∨ X.env.scope.names.lookup x = some .local := by first | exact .inl rfl | exact .inr rfl | assumption) :
    PDSs X W xw (.Assign [.Name x px] (.List [] lp) spos :: rest) (tSeq (tAsg (tLst tNil) (gName i)) tr) (dOwn i k dr) :=
  ⟨fun tk => pss_cons (ps_set hN hi hx (pe_lst pa_nil) hs hf) r.ps, fun c eK hW E D o Γ σ H s hd => by
    refine ⟨Nat.zero_le _, fun p np => ?_⟩
    obtain ⟨ha, s2⟩ := mine_new (k := k) (i := i) s np
    exact r.li c eK E _ (fun a ha => o.mine) p ha _ _ _ s2 hd⟩
end
end Dv
namespace Dv
open PySem L2
section
variable {X : Cx} {W : WX} {xw : XW} {K : PySem.W.Frag} {pos : Pos}
/-! ### several clauses 'except x as n' -/
def dTries (K : PySem.W.Frag) (i : Nat) (xw : XW) (db : XW → DS) (m : List (Value × (Addr → Value → Option Addr → DS))) : DS := fun D Γ => db (xAll K i xw D m) D Γ
theorem pds_tries {n : Str} {i : Nat} {body : List Stmt} {h1 : ExceptHandler} {hs : List ExceptHandler} {l : List (Value × (Addr → Value → Option Addr → TS))} {m : List (Value × (Addr → Value → Option Addr → DS))} {tb : WX → List (Addr × Obj) → (Value → Shared → Prop) → TS} {db : XW → DS} (hN : X.N.Nodup)
    (hb : ∀ (W' : WX) (xw' : XW) (pn : List (Addr × Obj)) (xe : Value → Shared → Prop), PDSs (X.tr pn xe) W' xw' body (tb W' pn xe) (db xw'))
    (hk : AsD X n (h1 :: hs) l m)
    (hs' : X.stack = X.env :: X.outer := by rfl) (hf : X.env.frame = some X.env.locals := by rfl) (hi : X.N[i]? = some n := by rfl) (hln : X.env.kindOf n = some .local := by rfl)
    (htb : ∀ W' pn xe, tb W' pn xe = tb W' X.pn X.xe := by intros; rfl) :
    PDS X W xw (.Try body (h1 :: hs) [] [] pos) (fun D σ H => tb (wAll X.K i W D l) X.pn X.xe D σ H) (dTries X.K i xw db m) :=
  ⟨fun tk => ps_tries (tb := fun W' => tb W' X.pn X.xe) hs' hf hN hi hln tk (fun W' pn xe tk' _ => htb W' pn xe ▸ (hb W' xw0 pn xe).ps tk') hk.ok, fun c eK hW E D o Γ σ H s hd => by
    refine (hb (wAll X.K i W E l) (xAll X.K i xw D m) X.pn X.xe).li c eK ?_ E D o Γ σ H s hd
    intro σ1 H1 Γ1 A d p s1 x1 h1
    exact wAll_of hk.li eK hW o s1 x1 h1⟩
/-! ### a list, so many times -/
def gRepL : Sl → Sl → DK → Prop := fun s t k => match s, t with
  | .d (.lst xs), .d (.int n) => -(2 ^ 63) ≤ n ∧ n < 2 ^ 63 ∧ xs.length * n.toNat ≤ 100000 ∧ k (.d (.lst (List.replicate n.toNat xs).flatten))
  | _, _ => False
theorem o2_repL : O2 K rRep gRepL := fun c H x y s t k Q eK hi rs rt h q => by
  unfold gRepL at h
  split at h
  · obtain ⟨h1, h2, h3, hk⟩ := h
    obtain ⟨w, e, r⟩ := rs
    cases e
    have ey := sl_int rt
    cases r with
    | lst nf il ra => exact ⟨_, _, _, rfl, ey, il, h1, h2, by rw [ra.length]; exact sz h3, fun p np => q _ (.d (.lst _)) _ (Go.new hi np) ⟨_, rfl, rp_newL hi np (rp_rep ra _)⟩ hk⟩
  · exact h.elim
theorem pd_repL {a b : Expr} {ta tb : TE} {da db : DE} (x : PD X W xw a ta da) (y : PD X W xw b tb db) : PD X W xw (.BinOp a .Mult b pos) (tOp rRep ta tb) (dOp gRepL da db) := ⟨fun tk => pe_op op_rep (x.pe tk) (y.pe tk), li_op o2_repL x.li y.li⟩
end
end Dv
set_option Elab.async false
set_option linter.all false
set_option maxRecDepth 100000
set_option maxHeartbeats 4000000
/-! Ev: exceptions of own classes over ValueError, KeyError, RuntimeError, made and held as values. -/
namespace PySem
namespace EvX
open PySem.W PySem.Calls PyProof.Rows PySem.HandSPX
open Builtin Builtin.ObjectAttr
/-! ### the built-in base -/
/-- what the built-in __init__ i of the base B is -/
structure IniF (B i : String) : Prop where
  kxs : KxsFacts B i
  plain : plainId i = true
  entry : entryFor table i = some Builtin.«BaseException.__init__»
  kind : builtinKind i = some .slot
  row : Manifest.signature? i = some ⟨.positional, "*", B, .self, [⟨"args", .varPos, false⟩]⟩
  star : (B != "*") = true
theorem ini_VE : IniF "ValueError" "ValueError.__init__" := ⟨kxs_ValueError, F.excBase_ValueError.init.plain, F.excBase_ValueError.initEntry, F.excBase_ValueError.initKind, F.excBase_ValueError.initRow, F.excBase_ValueError.noStar⟩
theorem ini_RE : IniF "RuntimeError" "RuntimeError.__init__" := ⟨kxs_RuntimeError, F.excBase_RuntimeError.init.plain, F.excBase_RuntimeError.initEntry, F.excBase_RuntimeError.initKind, F.excBase_RuntimeError.initRow, F.excBase_RuntimeError.noStar⟩
theorem kxs_KE : KxsFacts "KeyError" "KeyError.__init__" := ⟨by show builtinType _ = _; rw [builtinType_eq_fast]; kernel_rfl, by first | kernel_rfl | rfl⟩
theorem ini_KE : IniF "KeyError" "KeyError.__init__" := ⟨kxs_KE, PyProof.Rows.excClass_KeyError.init.plain, PyProof.Rows.excClass_KeyError.initEntry, PyProof.Rows.excClass_KeyError.initKind, PyProof.Rows.excClass_KeyError.initSig, PyProof.Rows.excClass_KeyError.notStar⟩
/-- what the built-in __new__ nw of the base's is, N the class that has it -/
structure NewF (N nw : String) : Prop where
  kind : builtinKind nw = some .builtinFn
  split : splitId nw = some (N, "__new__")
  row : Manifest.signature? nw = some ⟨.any, N, N, .cls, [⟨"args", .varPos, false⟩, ⟨"kwargs", .varKw, false⟩]⟩
  ends : nw.endsWith ".__new__" = true
  owner : nw.dropRight 8 = N
  entry : entryFor table nw = some Builtin.«BaseException.__new__»
  star : (N != "*") = true
  canon : Manifest.canonical nw = Manifest.canonical "BaseException.__new__"
  quiet : nw.startsWith "lifetime." = false
theorem newF_of {B newId initId : String} {bm : List Value} (F : ExcBaseFacts B newId initId bm) : NewF B newId := ⟨F.newKind, F.newSplit, F.newRow, F.ends, F.owner, F.entry, F.noStar, F.canon, F.quiet⟩
/-! ### the classes above -/
/-- own classes, then the tail tl -/
def refsT (tl : List Value) : List Value → Bool
  | .ref _ :: r => refsT tl r
  | l => l == tl
theorem refsT_cases (tl : List Value) : ∀ l : List Value, refsT tl l = true → (∃ c r, l = .ref c :: r ∧ refsT tl r = true) ∨ l = tl
  | [], e => .inr (beq_iff_eq.mp e)
  | .ref c :: r, e => .inl ⟨c, r, rfl, e⟩
  | .none :: _, e => .inr (beq_iff_eq.mp e)
  | .ellipsis :: _, e => .inr (beq_iff_eq.mp e)
  | .notImplemented :: _, e => .inr (beq_iff_eq.mp e)
  | .bool _ :: _, e => .inr (beq_iff_eq.mp e)
  | .int _ _ :: _, e => .inr (beq_iff_eq.mp e)
  | .float _ _ :: _, e => .inr (beq_iff_eq.mp e)
  | .str _ _ :: _, e => .inr (beq_iff_eq.mp e)
  | .bytes _ _ :: _, e => .inr (beq_iff_eq.mp e)
  | .type _ :: _, e => .inr (beq_iff_eq.mp e)
  | .builtin _ :: _, e => .inr (beq_iff_eq.mp e)
/-- what is asked of a tail: stores pass it, object is in it, what is in it and what not -/
structure TailF (tl : List Value) (N : String) : Prop where
  pass : ∀ self : Value, refuseLoop self "__setattr__" tl = pure ()
  ob : tl.contains (.type "object") = true
  hN : tl.contains (.type N) = true
  noA : tl.contains (.type "AttributeError") = false
  noN : tl.contains (.type "NameError") = false
  ne : tl.isEmpty = false
theorem refsT_pass {tl : List Value} {N : String} (T : TailF tl N) (self : Value) : ∀ l : List Value, refsT tl l = true → refuseLoop self "__setattr__" l = pure () := by
  intro l
  induction l with
  | nil =>
    intro e
    rcases refsT_cases tl [] e with ⟨_, _, q, _⟩ | q
    · cases q
    · rw [q]
      exact T.pass self
  | cons a r ih =>
    intro e
    rcases refsT_cases tl (a :: r) e with ⟨c, r', q, h⟩ | q
    · obtain ⟨rfl, rfl⟩ := List.cons.inj q
      rw [refuseLoop_ref]
      exact ih h
    · rw [q]
      exact T.pass self
theorem refsT_contains {tl : List Value} (Y : String) : ∀ l : List Value, refsT tl l = true → l.contains (.type Y) = tl.contains (.type Y) := by
  intro l
  induction l with
  | nil =>
    intro e
    rcases refsT_cases tl [] e with ⟨_, _, q, _⟩ | q
    · cases q
    · rw [q]
  | cons a r ih =>
    intro e
    rcases refsT_cases tl (a :: r) e with ⟨c, r', q, h⟩ | q
    · obtain ⟨rfl, rfl⟩ := List.cons.inj q
      rw [List.contains_cons, ih h]
      rfl
    · rw [q]
theorem refsT_ne {tl : List Value} {N : String} (T : TailF tl N) {l : List Value} (e : refsT tl l = true) : l.isEmpty = false := by
  cases l with
  | nil =>
    rcases refsT_cases tl [] e with ⟨_, _, q, _⟩ | q
    · cases q
    · have z := T.ne
      rw [← q] at z
      cases z
  | cons _ _ => rfl
abbrev keTail : List Value := [.type "KeyError", .type "LookupError", .type "Exception", .type "BaseException", .type "object"]
abbrev reTail : List Value := [.type "RuntimeError", .type "Exception", .type "BaseException", .type "object"]
theorem tail_VE : TailF veTail "ValueError" := ⟨F.store_ValueError.passes, by decide +kernel, by decide +kernel, by decide +kernel, by decide +kernel, rfl⟩
theorem tail_RE : TailF reTail "RuntimeError" := ⟨F.store_RuntimeError.passes, by decide +kernel, by decide +kernel, by decide +kernel, by decide +kernel, rfl⟩
theorem tail_KE : TailF keTail "LookupError" := ⟨fun self => by kernel_rfl, by decide +kernel, by decide +kernel, by decide +kernel, by decide +kernel, rfl⟩
/-! ### C(..): the built-in __new__, then the own __init__ -/
section
variable {M : Model} {A : Around} {E : Value → Shared → Prop} {h : Heap} {g : Array GenState} {d : Drawn} {t : Nat} {os : OsState}
variable {nm q : Str} {C N : Addr} {bs bm tl : List Value} {hdct : Bool} {sn : List Str} {sub : List Value} {ab : Bool} {col : Option Bool} {dd : Option Addr} {k0 k1 k2 k3 k5 : Option Value} {B nw : String}
theorem new_ok (F : NewF B nw) (hcB : (Value.ref C :: bm).contains (.type B) = true) {rest : List Value} {Q : Unit → Shared → Prop}
    (hC : h.get? C = some (excClassObj nm q C N bs bm hdct sn sub ab col dd k0 k1 k2 k3 k5 nw)) (hq : Q () ⟨h, g, d, t, os⟩) : wpAny M A (checkBuiltinCall nw ⟨.ref C :: rest, []⟩) Q E ⟨h, g, d, t, os⟩ := by
  have hstar := F.star
  simp only [checkBuiltinCall, F.kind, F.split, F.row]
  repeat (first | refine wpAny_loadPart_at hC ?_ | (refine wpAny_isSubtype_exc hC ?_; rw [hcB]) | refine wpAny_staticBase_exc hC ?_ | refine wpAny_madeBy_exc hC ?_ | simp only [bne_self_eq_false, Bool.false_eq_true, if_false] | wp_step)
  exact hq
end
section
variable {prog : Program} {w : World} {A : Around} {E : Value → Shared → Prop} {R : Result → Shared → Prop} {h : Heap} {g : Array GenState} {d : Drawn} {t : Nat} {os : OsState}
variable {nm q : Str} {C N : Addr} {bs bm tl : List Value} {hdct : Bool} {sn : List Str} {sub : List Value} {ab : Bool} {col : Option Bool} {dd : Option Addr} {k0 k1 k2 k3 k5 : Option Value} {B nw : String}
theorem new_run (F : NewF B nw) (T : TailF tl B) (hbm : refsT tl bm = true) {rest : List Value}
    (hC : h.get? C = some (excClassObj nm q C N bs bm hdct sn sub ab col dd k0 k1 k2 k3 k5 nw))
    (hq : R (.ok (.ret (.ref (h.objs.size + 1)))) ⟨(h.push (W.kdv_tup rest)).push (excO C h.objs.size), g, d, t, os⟩) (hrest : rest.length ≤ sizeLine) :
    codeAny (model prog w) A (.builtin nw ⟨.ref C :: rest, []⟩) R ⟨h, g, d, t, os⟩ := by
  have hends := F.ends
  have hcB : (Value.ref C :: bm).contains (.type B) = true := by rw [List.contains_cons, refsT_contains _ _ hbm, T.hN, Bool.or_true]
  have hcA : (Value.ref C :: bm).contains (.type "AttributeError") = false := by rw [List.contains_cons, refsT_contains _ _ hbm, T.noA]; rfl
  have hcN : (Value.ref C :: bm).contains (.type "NameError") = false := by rw [List.contains_cons, refsT_contains _ _ hbm, T.noN]; rfl
  refine codeAny_builtinAt F.entry ?_
  unfold Builtin.«BaseException.__new__»
  refine wpAt_bind ?_
  show wpAt _ _ _ (stack >>= _) _ _ _
  refine wpAt_bind (wpAt_stack fun p below => wpAt_of_wpAny ?_)
  wp_walk
  refine wpAt_of_wpAny ?_
  rw [F.owner]
  repeat (first | with_reducible refine wpAny_madeHere_exc F.canon hC ?_ | with_reducible refine wpAny_loadPart_at hC ?_ | (with_reducible refine wpAny_isSubtype_exc hC ?_; first | rw [hcB] | rw [hcA] | rw [hcN]) | wp_step)
  show R _ _
  rw [Heap.size_push]
  exact hq
theorem type_run (F : NewF B nw) (T : TailF tl B) (hbm : refsT tl bm = true) {rest : List Value} {fI : Addr} {Q : Fin → Shared → Prop}
    (hC : h.get? C = some (excClassObj nm q C N bs bm hdct sn sub ab col dd k0 k1 k2 k3 k5 nw))
    (hi : W.Looks (model prog w) h (typeLookup (.ref C) "__init__") (some (.ref fI))) (hb : ∀ self, W.Looks (model prog w) h (bindSpecial (.ref fI) self) (.ref fI, [self])) (hrest : rest.length ≤ sizeLine)
    (hq : codeAny (model prog w) A (.call (.ref fI) ⟨.ref (h.objs.size + 1) :: rest, []⟩)
      (fun r s' => match r with | .ok (.ret v) => v = .none ∧ Q (.done (.ret (.ref (h.objs.size + 1)))) s' | .ok _ => False | .error e => E e s')
      ⟨(h.push (W.kdv_tup rest)).push (excO C h.objs.size), g, d, t, os⟩) :
    wpAny (model prog w) A (Builtin.«type.__call__» ⟨.ref C :: rest, []⟩) Q E ⟨h, g, d, t, os⟩ := by
  have hcB : (Value.ref C :: bm).contains (.type B) = true := by rw [List.contains_cons, refsT_contains _ _ hbm, T.hN, Bool.or_true]
  repeat (first | with_reducible refine wpAny_loadPart_at hC ?_ | with_reducible refine wpAny_madeBy_exc hC ?_ | wp_step)
  refine codeAny_call_builtin_code (Code.quiet_builtin _ F.quiet) (new_ok F hcB hC ?_)
  refine new_run F T hbm hC ?_ hrest
  show wpAny _ _ _ _ _ _
  have k : ∀ b o, h.get? b = some o → ((h.push (W.kdv_tup rest)).push (excO C h.objs.size)).get? b = some o := fun b o e => Heap.get?_push_of_some _ (Heap.get?_push_of_some _ e)
  have hC₁ := k _ _ hC
  have hget : ((h.push (W.kdv_tup rest)).push (excO C h.objs.size)).get? (h.objs.size + 1) = some (excO C h.objs.size) := by heap_get
  have hcC : (Value.ref C :: bm).contains (.ref C) = true := by simp
  have i1 := hi.keeps k
  have b1 := (hb (.ref (h.objs.size + 1))).keeps k
  unfold isInstance
  repeat (first | with_reducible refine wpAny_loadPart_at hget ?_ | (with_reducible refine wpAny_isSubtype_exc hC₁ ?_; rw [hcC]) | wp_step)
  show wpAny _ _ (typeLookup (.ref C) _) _ _ _
  refine i1.at ?_
  refine wpAny_holding (wpAny_bind (b1.at ?_))
  refine wpAny_bind (wpAny_call (codeAny_mono hq fun r s' z => ?_))
  rcases r with e | (v | _ | _ | _) <;> first | exact z | exact z.elim | skip
  obtain ⟨rfl, z⟩ := z
  first
    | exact wpAny_pure (wpAny_pure z)
    | (wp_walk; exact z)
theorem call_run (F : NewF B nw) (T : TailF tl B) (hbm : refsT tl bm = true) {rest : List Value} {fI : Addr}
    (hC : h.get? C = some (excClassObj nm q C N bs bm hdct sn sub ab col dd k0 k1 k2 k3 k5 nw))
    (hi : W.Looks (model prog w) h (typeLookup (.ref C) "__init__") (some (.ref fI))) (hb : ∀ self, W.Looks (model prog w) h (bindSpecial (.ref fI) self) (.ref fI, [self])) (hrest : rest.length ≤ sizeLine)
    (hq : codeAny (model prog w) (A.under (.builtin "type.__call__" ⟨.ref C :: rest, []⟩)) (.call (.ref fI) ⟨.ref (h.objs.size + 1) :: rest, []⟩) (W.InitBack (h.objs.size + 1) R)
      ⟨(h.push (W.kdv_tup rest)).push (excO C h.objs.size), g, d, t, os⟩) :
    codeAny (model prog w) A (.call (.ref C) ⟨rest, []⟩) R ⟨h, g, d, t, os⟩ := by
  have f1 := tc_lookup
  have f2 := tc_bind (.ref C)
  have hTy : (⟨h, g, d, t, os⟩ : Shared).TypeIs (.ref C) "type" := ⟨_, hC, rfl⟩
  refine codeAny_of_tree ?_
  show wpAny _ _ (callAny (.ref C) _) _ _ _
  repeat (any_goals (first | assumption | with_reducible refine wpAny_loadPart_at hC ?_ | wp_step))
  refine ⟨rfl, ?_⟩
  refine codeAny_call_builtin_at (Code.quiet_builtin _ (by decide +kernel)) entry_typeCall (wpAny_check_type_call_sub hC (type_run F T hbm hC hi hb hrest ?_))
  refine codeAny_mono hq fun r s' z => ?_
  rcases r with e | (v | _ | _ | _) <;> exact z
/-- the bound built-in __init__ called: the args are laid anew -/
theorem call_mwT {i : String} (KF : IniF B i) {u e t0 : Addr} {rest : List Value} {Q : Value → Shared → Prop}
    (hC : h.get? C = some (excClassObj nm q C N bs bm hdct sn sub ab col dd k0 k1 k2 k3 k5 nw)) (he : h.get? e = some (excO C t0)) (hu : h.get? u = some (kxs_mw i e)) (hrest : rest.length ≤ sizeLine)
    (hq : ∀ h' t1, (∀ b o, b ≠ e → h.get? b = some o → h'.get? b = some o) → h'.get? e = some (excO C t1) → Q .none ⟨h', g, d, t, os⟩) :
    wpAny (model prog w) A (call (.ref u) rest) Q E ⟨h, g, d, t, os⟩ := by
  have hshort := KF.star
  refine wpAny_call (codeAny_of_tree ?_)
  show wpAny _ A.in1 (callAny (.ref u) ⟨rest, []⟩) _ _ _
  simp only [callAny]
  refine wpAny_bind (wpAny_load hu ?_)
  simp only [kxs_mw, show (Value.type "method-wrapper" == Value.type "method" || Value.type "method-wrapper" == Value.type "builtin_function_or_method" || Value.type "method-wrapper" == Value.type "method-wrapper") = true by decide, if_true]
  refine KFB.if_so (by decide) ?_
  refine wpAny_bind ?_
  have chk : ∀ {Q : Unit → Shared → Prop}, Q () ⟨h, g, d, t, os⟩ → wpAny (model prog w) A.in1 (checkBoundCall i ⟨.ref e :: rest, []⟩) Q E ⟨h, g, d, t, os⟩ := fun {Q} hq => by
    simp only [checkBoundCall, KF.kind, KF.row]
    repeat (first | (with_reducible refine wpAny_loadPart_at he ?_) | with_reducible refine wpAny_loadPart_at hC ?_ | wp_step)
    refine wpAny_onRaise ?_
    rw [show ∀ (a b : String) (n : Nat), Bind.check ⟨.positional, "*", B, .self, [⟨"args", .varPos, false⟩]⟩ a b n (List.map (fun x => x.fst) ({ pos := Value.ref e :: rest } : Args).kw) = pure () from
      fun a b n => check_star_args _ _ _ _ _ _]
    exact wpAny_pure hq
  refine chk ?_
  refine wpAny_bind (wpAny_pure (wpAny_pure ?_))
  refine ⟨plainId_quiet KF.plain _, codeAny_builtin KF.entry ?_⟩
  rw [Around.under_plainId KF.plain _]
  wp_walk
  refine hq _ h.objs.size (fun b o hb ho => ?_) ?_
  · rw [Heap.get?_update_other _ _ (Ne.symm hb)]
    exact Heap.get?_push_of_some _ ho
  · rw [Heap.get?_update_self _ (Heap.get?_push_of_some _ he) rfl]
    rfl
end
end EvX
end PySem
set_option Elab.async false
set_option linter.all false
set_option maxRecDepth 100000
set_option maxHeartbeats 4000000
/-! Ew: the __init__ of own exceptions, run: one value, or a word and a value. -/
namespace PySem
namespace EvX
open PySem.W PySem.Calls PyProof.Rows PySem.HandSPX
section
open Builtin Builtin.ObjectAttr
variable {prog : Program} {w : World} {A : Around} {E : Value → Shared → Prop} {R : Result → Shared → Prop} {hp : Heap} {g : Array GenState} {d : Drawn} {t : Nat} {os : OsState} {tl : List Value} {N : String}
/-- the first store -/
theorem osa_first (T : TailF tl N) {K : W.Frag} {name : Str} {tk : Tok} {v : Value} {x C : Addr} {fv : Array Value} {cd : ClassData}
    (X : K.In hp) (hx : hp.get? x = some { cls := .ref C, data := .fields fv }) (hcd : W.clsIn K C = some cd) (hm : refsT tl cd.mro = true) (hh : cd.hasDict = true) (ha : W.findIn K (.ref C) name = some none)
    (hq : ∀ h' tk' dx, (∀ b o, b ≠ x → hp.get? b = some o → h'.get? b = some o) → hp.objs.size ≤ dx → dx ≠ x → h'.get? x = some { cls := .ref C, dict := some dx, data := .fields fv } →
      h'.Ns1 dx (fun y => if y = name then some v else none) → R (.ok (.ret .none)) ⟨h', g, d, tk', os⟩) :
    codeAny (model prog w) A (.call (.builtin "object.__setattr__") ⟨[.ref x, .str name tk, v], []⟩) R ⟨hp, g, d, t, os⟩ := by
  have I : W.InstAt hp x { cls := .ref C, data := .fields fv } C none := ⟨hx, rfl, rfl, trivial⟩
  have SF := F.store_object
  have ne := refsT_ne T hm
  have hob : cd.mro.contains (.type "object") = true := (refsT_contains "object" _ hm).trans T.ob
  have hxs : x ≠ hp.objs.size := Nat.ne_of_lt (Heap.lt_size hx)
  have sub : W.Looks (model prog w) hp (isInstance (.ref x) (.type "object")) true := I.type.andThen (W.looks_mroIn X (by unfold W.mroIn; rw [hcd, Option.bind_some, if_neg (by rw [ne]; decide), hob]))
  refine codeAny_call_builtin SF.slot.plain SF.entry (@W.check_slot (model prog w) _ _ ⟨hp, g, d, t, os⟩ "object.__setattr__" "object" "__setattr__" (.ref x) [.str name tk, v] [] _ SF.kind SF.split sub (SF.args (.ref x) (.str name tk) v) ?_)
  have hmr : W.Looks (model prog w) hp (mroOf (.ref C)) cd.mro := (W.looks_clsIn X hcd).andThen .now
  have L3 : W.Looks (model prog w) hp (storeTaker? none) none := .now
  have hcls : W.Looks (model prog w) hp (classData C) cd := W.looks_clsIn X hcd
  rw [W.osa_eq, refuse_eq]
  refine wpAny_bind (wpAny_bind (I.type.at (wpAny_bind (hmr.at ?_))))
  rw [refsT_pass T _ _ hm]
  refine wpAny_pure (wpAny_bind (I.type.at (wpAny_bind ((W.looks_findIn X ha).at (wpAny_bind (L3.at ?_))))))
  show wpAny _ _ (storeInOwnDict (.ref x) (.ref C) (.str name tk) name v false) _ _ _
  obtain ⟨nm, bs, mro, ns, qn, hd, sn, sb, ab, col, del⟩ := cd
  dsimp only at hh
  subst hh
  unfold storeInOwnDict ownDictForStores
  repeat (first | with_reducible refine store_in_new ?_ ?_ | with_reducible refine wpAny_loadPart_at hx ?_ | with_reducible refine hcls.at ?_ | wp_step)
  · exact ⟨_, #[], _, (Heap.get?_update_ne _ _ _ _ hxs.symm).trans (Heap.get?_push_at rfl rfl), rfl, fun e he => absurd he (by simp), fun _ => rfl⟩
  · intro h' tk' hn' hs
    have hx₁ : (hp.push { cls := .type "dict", data := .dict #[] }).get? x = some { cls := .ref C, data := .fields fv } := Heap.get?_push_of_some _ hx
    refine hq h' tk' hp.objs.size (fun b o hb ho => ?_) (Nat.le_refl _) hxs.symm ?_ hn'
    · exact (hs.2 b (Nat.ne_of_lt (Heap.lt_size ho))).trans ((Heap.get?_update_ne _ _ _ _ hb).trans (Heap.get?_push_of_some _ ho))
    · exact (hs.2 x hxs).trans (Heap.get?_update_self _ hx₁ rfl)
/-- a further store -/
theorem osa_next (T : TailF tl N) {K : W.Frag} {name : Str} {tk : Tok} {v : Value} {x C dx : Addr} {fv : Array Value} {cd : ClassData} {m0 : Str → Option Value} {nl : List Str}
    (X : K.In hp) (hx : hp.get? x = some { cls := .ref C, dict := some dx, data := .fields fv }) (hns : hp.Ns1 dx m0) (hw : Within m0 nl) (hz : nl.length ≤ 1000) (hcd : W.clsIn K C = some cd) (hm : refsT tl cd.mro = true) (hh : cd.hasDict = true)
    (ha : W.findIn K (.ref C) name = some none)
    (hq : ∀ h' tk', (∀ b o, b ≠ dx → hp.get? b = some o → h'.get? b = some o) → h'.Ns1 dx (fun y => if y = name then some v else m0 y) → R (.ok (.ret .none)) ⟨h', g, d, tk', os⟩) :
    codeAny (model prog w) A (.call (.builtin "object.__setattr__") ⟨[.ref x, .str name tk, v], []⟩) R ⟨hp, g, d, t, os⟩ := by
  obtain ⟨oD, esD, epD, hoD, hdD, _⟩ := hns.count hw
  have I : W.InstAt hp x { cls := .ref C, dict := some dx, data := .fields fv } C (some oD) := ⟨hx, rfl, rfl, hoD⟩
  have SF := F.store_object
  have ne := refsT_ne T hm
  have hob : cd.mro.contains (.type "object") = true := (refsT_contains "object" _ hm).trans T.ob
  have sub : W.Looks (model prog w) hp (isInstance (.ref x) (.type "object")) true := I.type.andThen (W.looks_mroIn X (by unfold W.mroIn; rw [hcd, Option.bind_some, if_neg (by rw [ne]; decide), hob]))
  refine codeAny_call_builtin SF.slot.plain SF.entry (@W.check_slot (model prog w) _ _ ⟨hp, g, d, t, os⟩ "object.__setattr__" "object" "__setattr__" (.ref x) [.str name tk, v] [] _ SF.kind SF.split sub (SF.args (.ref x) (.str name tk) v) ?_)
  have hmr : W.Looks (model prog w) hp (mroOf (.ref C)) cd.mro := (W.looks_clsIn X hcd).andThen .now
  have L3 : W.Looks (model prog w) hp (storeTaker? none) none := .now
  have hcls : W.Looks (model prog w) hp (classData C) cd := W.looks_clsIn X hcd
  rw [W.osa_eq, refuse_eq]
  refine wpAny_bind (wpAny_bind (I.type.at (wpAny_bind (hmr.at ?_))))
  rw [refsT_pass T _ _ hm]
  refine wpAny_pure (wpAny_bind (I.type.at (wpAny_bind ((W.looks_findIn X ha).at (wpAny_bind (L3.at ?_))))))
  show wpAny _ _ (storeInOwnDict (.ref x) (.ref C) (.str name tk) name v false) _ _ _
  obtain ⟨nm, bs, mro, ns, qn, hd, sn, sb, ab, col, del⟩ := cd
  dsimp only at hh
  subst hh
  unfold storeInOwnDict ownDictForStores
  repeat (first | with_reducible refine PySem.OEX.store_in_old hns hw hz ?_ | with_reducible refine wpAny_loadPart_at hx ?_ | with_reducible refine hcls.at ?_ | wp_step)
  intro h' tk' hn' hs
  refine hq h' tk' (fun b o hb e => ?_) hn'
  rw [hs.2 b hb]
  exact e
end
/-! ### the texts -/
def iA2 (p1 p2 p3 : Pos) : Arguments := { posonlyargs := [], args := [{ arg := "self", annotation := none, pos := p1 }, { arg := "word", annotation := none, pos := p2 }, { arg := "value", annotation := none, pos := p3 }], vararg := none, kwonlyargs := [], kw_defaults := [], kwarg := none, defaults := [] }
def iB2 (q1 q2 q3 q4 q7 q5 q6 r1 r2 r3 r4 r5 r6 r7 r8 : Pos) : List Stmt :=
  [.Expr (.Call (.Attribute (.Call (.Name "super" q1) [] [] q2) "__init__" q3) [.Name "word" q4, .Name "value" q7] [] q5) q6,
   .Assign [.Attribute (.Name "self" r1) "word" r2] (.Name "word" r3) r4,
   .Assign [.Attribute (.Name "self" r5) "value" r6] (.Name "value" r7) r8]
def iS2 : Scope := { kind := .function, names := [(PySem.Str.ofString "self", .local), (PySem.Str.ofString "word", .local), (PySem.Str.ofString "value", .local), (PySem.Str.ofString "__class__", .free), (PySem.Str.ofString "super", .globalImplicit)], isGenerator := false, isCoroutine := false, more := [] }
/-- what the written part says of an __init__ at fI whose class is at D -/
structure IniAt (prog : Program) (K : Frag) (mg : Str → Option Value) (D cda cc : Addr) : Prop where
  code : ∃ ccl cdd vs ccs file tf, K.lookup cda = some ⟨ccl, cdd, .fields vs, ccs⟩ ∧ vs[2]? = some (.str file tf) ∧ ((prog.main.file : Str) == file) = true
  cell : ∃ cl cld csl, K.lookup cc = some ⟨cl, cld, .cell (some (.ref D)), csl⟩
structure IniTxt (prog : Program) (K : Frag) (mg : Str → Option Value) (qual : Str) (D fI : Addr) : Prop where
  fn : ∃ (oc : Value) (od : Option Addr) (doc pm : Value) (an : Option Addr) (cda cc : Addr) (ct : Value) (osl : Array (Option Value)) (p1 p2 q1 q2 q3 q4 q5 q6 r1 r2 r3 r4 : Pos),
    K.lookup fI = some ⟨oc, od, .func (ksFn "__init__" qual (PySem.RoomX.iA p1 p2) (PySem.RoomX.iB q1 q2 q3 q4 q5 q6 r1 r2 r3 r4) PySem.RoomX.iS .none .none doc pm an (.ref cda) ct cc), osl⟩ ∧ codeIn K (.ref cda) qual = true ∧ (q3.endLine == q5.line) = true ∧ IniAt prog K mg D cda cc
  cD : ∃ cd, clsIn K D = some cd
  msup : mg "super" = none
  mtop : (prog.main.scope.names.lookup ("super" : Str)).isSome = false
  tp : nsIn K cStatics "thirdparty.any" = some none
structure IniTxt2 (prog : Program) (K : Frag) (mg : Str → Option Value) (qual : Str) (D fI : Addr) : Prop where
  fn : ∃ (oc : Value) (od : Option Addr) (doc pm : Value) (an : Option Addr) (cda cc : Addr) (ct : Value) (osl : Array (Option Value)) (p1 p2 p3 q1 q2 q3 q4 q7 q5 q6 r1 r2 r3 r4 r5 r6 r7 r8 : Pos),
    K.lookup fI = some ⟨oc, od, .func (ksFn "__init__" qual (iA2 p1 p2 p3) (iB2 q1 q2 q3 q4 q7 q5 q6 r1 r2 r3 r4 r5 r6 r7 r8) iS2 .none .none doc pm an (.ref cda) ct cc), osl⟩ ∧ codeIn K (.ref cda) qual = true ∧ (q3.endLine == q5.line) = true ∧ IniAt prog K mg D cda cc
  cD : ∃ cd, clsIn K D = some cd
  msup : mg "super" = none
  mtop : (prog.main.scope.names.lookup ("super" : Str)).isSome = false
  tp : nsIn K cStatics "thirdparty.any" = some none
/-- .. of a class of exceptions, at C, called nm in the text, over B -/
structure ExCls (K : Frag) (mg : Str → Option Value) (B i nw : String) (tl : List Value) (nm : Str) (C D fI : Addr) : Prop where
  gC : mg nm = some (.ref C)
  cls : ∃ nm q N bs bm sn sub ab col dd k0 k1 k2 k3 k5, K.lookup C = some (excClassObj nm q C N bs bm true sn sub ab col dd k0 k1 k2 k3 k5 nw) ∧ refsT tl bm = true
  sa : findIn K (.ref C) "__setattr__" = some (some (.builtin "object.__setattr__"))
  noN : findIn K (.ref C) "value" = some none
  noW : findIn K (.ref C) "word" = some none
  iC : findIn K (.ref C) "__init__" = some (some (.ref fI))
  tC : typeIn K (.ref fI) = some (.type "function")
  kC : keepIn K (.ref C) = true
  bC : subIn K (.ref C) (.type B) = some true
  sup : ks_superIn K C D "__init__" = some (some (.builtin i))
  mro : mroIn K C (.ref D) = some true
theorem two_size (u v : Value) : [u, v].length ≤ sizeLine := by
  rw [sizeLine_eq]
  exact (by decide : 2 ≤ 16777216)
/-- what __init__ leaves of a fresh exception at x -/
structure IniEnd (h h' : Heap) (x C dx : Addr) (m : Str → Option Value) : Prop where
  keep : ∀ b o, b ≠ x → h.get? b = some o → h'.get? b = some o
  obj : ∃ t1 : Addr, h'.get? x = some { cls := .ref C, dict := some dx, data := .fields #[.ref t1, .none, .none, .none, .bool false, .none] }
  dbig : h.objs.size ≤ dx
  dne : dx ≠ x
  ns : h'.Ns1 dx m
/-- a made exception -/
structure MadeE (h h' : Heap) (e C d : Addr) (m : Str → Option Value) : Prop where
  keep : ∀ b o, h.get? b = some o → h'.get? b = some o
  new : h.objs.size ≤ e
  obj : ∃ oe vs, h'.get? e = some oe ∧ oe.cls = .ref C ∧ oe.dict = some d ∧ oe.data = .fields vs
  dbig : h.objs.size ≤ d
  dne : d ≠ e
  ns : h'.Ns1 d m
abbrev m1 (v : Value) : Str → Option Value := fun y => if y = "value" then some v else none
abbrev m2 (u v : Value) : Str → Option Value := fun y => if y = "value" then some v else if y = "word" then some u else none
section
variable {prog : Program} {w : World} {A : Around} {E : Value → Shared → Prop} {R : Result → Shared → Prop} {s : Shared} {K : Frag} {mg : Str → Option Value} {nm qual : Str} {C D fI : Addr} {B i nw NB : String} {tl : List Value}
theorem init_run1 (KF : IniF B i) (TF : TailF tl NB) (T : IniTxt prog K mg qual D fI) (U : ExCls K mg B i nw tl nm C D fI) {x t0 : Addr} {v : Value} (X : K.In s.heap) (hlim : s.heap.NoLimit) (hG : s.heap.Ns mainGlobals mg) (hB : ∃ mb, s.heap.Ns builtinsNs mb ∧ ∀ x : Str, x ≠ "__name__" → mb x = bootBuiltins x)
    (hx : s.heap.get? x = some (excO C t0)) (hnx : K.lookup x = none) (hroom : A.depth < recursionLimit)
    (hq : ∀ h' tk dx, IniEnd s.heap h' x C dx (m1 v) → R (.ok (.ret .none)) { s with heap := h', toks := tk }) :
    codeAny (model prog w) A (.call (.ref fI) ⟨[.ref x, v], []⟩) R s := by
  obtain ⟨oc, od, doc, pm, an, cda, cc, ct, osl, p1, p2, q1, q2, q3, q4, q5, q6, r1, r2, r3, r4, ho, hcd, hline, ⟨⟨ccl, cdd, cvs, ccs, file, tf, hcode, hvs, hfile⟩, ⟨cl, cld, csl, hcell⟩⟩⟩ := T.fn
  obtain ⟨cn, q, N, bs, bm, sn, sub, ab, col, dd, k0, k1, k2, k3, k5, hC, hbm⟩ := U.cls
  obtain ⟨cdD, hD⟩ := T.cD
  obtain ⟨mb, hBn, hBx⟩ := hB
  have hcl : clsIn K C = some { name := cn, bases := bs, mro := .ref C :: bm, ns := N, qualname := q, hasDict := true, slotNames := sn, subclasses := sub, abstract := ab, collection := col, hasDel := false } := by unfold clsIn; rw [hC] <;> rfl
  refine ks_codeAny_call_defAt (fd := ksFn "__init__" qual (PySem.RoomX.iA p1 p2) (PySem.RoomX.iB q1 q2 q3 q4 q5 q6 r1 r2 r3 r4) PySem.RoomX.iS .none .none doc pm an (.ref cda) ct cc) (body := PySem.RoomX.iB q1 q2 q3 q4 q5 q6 r1 r2 r3 r4) (binds := [("self", .ref x), ("value", v)]) hroom (X _ _ ho) rfl hlim (codeRec_of X hcd) rfl
    (BindsTo.of_eq (by first | rfl | with_unfolding_all rfl)) (show ∀ x ∈ PySem.RoomX.iS.names, x.2 ≠ NameKind.cell from by decide) (fun y hy => by
      rcases List.mem_cons.mp hy with rfl | hy
      · rfl
      rcases List.mem_cons.mp hy with rfl | hy
      · rfl
      · cases hy) (fun h₁ hn k => ?_) rfl rfl rfl
  have hxL : s.heap.objs.size ≠ x := Nat.ne_of_gt (Heap.lt_size hx)
  have X₁ : K.In h₁ := X.keeps k
  have hx₁ := k _ _ hx
  obtain ⟨hp, g, d, t, os⟩ := s
  show _root_.PySem.wpAt _ _ _ (execs (PySem.RoomX.iB q1 q2 q3 q4 q5 q6 r1 r2 r3 r4) (ksEnv qual PySem.RoomX.iS hp.objs.size fI (.ref cda) cc)) _ _ _
  have I₁ : InstAt h₁ x (excO C t0) C none := ⟨hx₁, rfl, rfl, trivial⟩
  obtain ⟨oD, hD1, hD2⟩ : ∃ oD, h₁.get? D = some oD ∧ oD.data = .cls cdD := by
    unfold clsIn at hD
    split at hD
    · rename_i c d cd' sl ho
      cases hD
      exact ⟨_, X₁ _ _ ho, rfl⟩
    · cases hD
  -- super().__init__(value)
  refine ks_wpAt_execs_cons (ks_wpAt_Expr_any (ks_wpAt_MethodCall (pl := (do return (← importBound (.Call (.Name "super" q1) [] [] q2) (ksEnv qual PySem.RoomX.iS hp.objs.size fI (.ref cda) cc)).getD true)) ?_ ?he))
  case he =>
    show (do
      let ov ← attributeBase (.Call (.Name "super" q1) [] [] q2) "__init__" (ksEnv qual PySem.RoomX.iS hp.objs.size fI (.ref cda) cc) (eval (.Call (.Name "super" q1) [] [] q2) (ksEnv qual PySem.RoomX.iS hp.objs.size fI (.ref cda) cc))
      standAt q3.atName
      methodCall (.Call (.Name "super" q1) [] [] q2) "__init__" q3 q5 (ksEnv qual PySem.RoomX.iS hp.objs.size fI (.ref cda) cc) ov 1 (backTo q5 (starEach [.Name "value" q4] (ksEnv qual PySem.RoomX.iS hp.objs.size fI (.ref cda) cc))) []) = _
    have e1 : methodCallForm 1 (backTo q5 (starEach [.Name "value" q4] (ksEnv qual PySem.RoomX.iS hp.objs.size fI (.ref cda) cc))) [] = true := rfl
    unfold methodCall methodCallPos calleeOf
    rw [e1]
    simp only [hline, if_true, Bool.not_true, Bool.or_true, pure_bind]
    try rfl
  refine ks_wpAt_super_base (env := ksEnv qual PySem.RoomX.iS hp.objs.size fI (.ref cda) cc) (by rfl) (by rfl) (by decide) rfl (X₁ _ _ ho) rfl (ar := { arg := "self", annotation := none, pos := p1 }) rfl rfl (X₁ _ _ hcode) rfl hvs hfile T.mtop ?_
  refine ks_loadName_global rfl (by rfl) (loadGlobal_builtin (env := ksEnv qual PySem.RoomX.iS hp.objs.size fI (.ref cda) cc) (hG.keeps k) T.msup (hBn.keeps k) ((hBx _ (by decide +kernel)).trans (by decide +kernel)) ⟨rfl, ?_⟩)
  refine wpAny_loadName_free rfl (by rfl) rfl ⟨_, X₁ _ _ hcell, rfl⟩ ?_
  refine wpAny_loadName_local rfl (by rfl) hn (by first | rfl | with_unfolding_all rfl | kernel_rfl) ?_
  refine ks_wpAny_isType_cls hD1 hD2 ⟨rfl, ?_⟩
  refine ks_wpAny_call_super hD1 hD2 I₁.at_ I₁.cls (fun c e => ?_) (looks_mroIn X₁ U.mro) (fun h₂ hso k₂ => ?_)
  · cases e
  have X₂ : K.In h₂ := X₁.keeps k₂
  have hx₂ := k₂ _ _ hx₁
  have I₂ : InstAt h₂ x (excO C t0) C none := ⟨hx₂, rfl, rfl, trivial⟩
  have hsup : alongIn K "__init__" (((.ref C :: bm : List Value).dropWhile (· != .ref D)).drop 1) = some (some (.builtin i)) := by
    have z := U.sup
    unfold ks_superIn at z
    rw [hcl] at z
    exact z
  refine kxs_getMethod KF.kxs hso (looks_opaque X₂ T.tp) (l₀ := .ref C :: bm) ?_ rfl X₂ hsup (I₂.type.andThen (looks_subIn X₂ U.bC)) (ks_ne X₂ I₂ hcl) (by decide) ?_
  · exact fun A Q E s k q => wpAny_bind ((looks_clsIn X₂ hcl) A _ E s k (wpAny_pure q))
  have k₃ : ∀ b o, h₂.get? b = some o → (h₂.push (kxs_mw i x)).get? b = some o := fun b o e => Heap.get?_push_of_some _ e
  have hn₃ : (h₂.push (kxs_mw i x)).Ns hp.objs.size (fun y => ([("self", .ref x), ("value", v)] : List (Str × Value)).reverse.lookup y) := (hn.keeps k₂).keeps k₃
  have hu₃ : (h₂.push (kxs_mw i x)).get? h₂.objs.size = some (kxs_mw i x) := Heap.get?_push_at rfl rfl
  dsimp only
  refine kxs_callWith (i := i) (x := x) rfl ?_
  rw [show starEach [Expr.Name "value" q4] (ksEnv qual PySem.RoomX.iS hp.objs.size fI (.ref cda) cc) = [(false, eval (.Name "value" q4) (ksEnv qual PySem.RoomX.iS hp.objs.size fI (.ref cda) cc))] from rfl]
  refine evalArgs_plain ?_
  refine Calls.spliced_cons (PySem.RoomX.ldX (v := v) hn₃ (by first | rfl | with_unfolding_all rfl | kernel_rfl) (Calls.spliced_nil ⟨hu₃, ?_⟩))
  refine call_mwT KF (e := x) (t0 := t0) (rest := [v]) (k₃ _ _ (X₂ _ _ hC)) (k₃ _ _ hx₂) hu₃ (PySem.RoomX.one_size v) (fun h₄ t1 k₄ hx₄ => ?_)
  -- self.value = value
  have hn₄ : h₄.Ns hp.objs.size (fun y => ([("self", .ref x), ("value", v)] : List (Str × Value)).reverse.lookup y) := by
    obtain ⟨oL, es, ep, hL, r⟩ := hn₃
    exact ⟨oL, es, ep, k₄ _ _ hxL hL, r⟩
  have X₄ : K.In h₄ := fun a o e => k₄ a o (fun z => by rw [z, hnx] at e; cases e) (k₃ _ _ (X₂ a o e))
  refine wpAt_of_wpAny ?_
  refine wpAny_execs_cons (plainObj_wpAny_Assign_Attribute ?_)
  refine PySem.RoomX.ldX (v := v) hn₄ (by first | rfl | with_unfolding_all rfl | kernel_rfl) (PySem.RoomX.ldX (v := .ref x) hn₄ (by first | rfl | with_unfolding_all rfl | kernel_rfl) ?_)
  refine set_plain X₄ (ox := excO C t1) (od := none) ⟨hx₄, rfl, rfl, trivial⟩ U.sa ?_
  refine osa_first TF X₄ hx₄ hcl (show refsT tl (.ref C :: bm) = true from hbm) rfl U.noN (fun h₅ tk₅ dx k₅ dn dne hx₅ hn₅ => ?_)
  show wpAny _ _ (execs _ _) _ _ _
  have all : ∀ b o, b ≠ x → hp.get? b = some o → h₄.get? b = some o := fun b o hb e => k₄ b o hb (k₃ _ _ (k₂ _ _ (k b o e)))
  have sz : hp.objs.size ≤ h₄.objs.size := Nat.le_of_lt hn₄.lt
  exact wpAny_execs_nil (hq h₅ tk₅ dx ⟨fun b o hb e => k₅ b o hb (all b o hb e), ⟨t1, hx₅⟩, Nat.le_trans sz dn, dne, hn₅⟩)
theorem init_run2 (KF : IniF B i) (TF : TailF tl NB) (T : IniTxt2 prog K mg qual D fI) (U : ExCls K mg B i nw tl nm C D fI) {x t0 : Addr} {u v : Value} (X : K.In s.heap) (hlim : s.heap.NoLimit) (hG : s.heap.Ns mainGlobals mg) (hB : ∃ mb, s.heap.Ns builtinsNs mb ∧ ∀ x : Str, x ≠ "__name__" → mb x = bootBuiltins x)
    (hx : s.heap.get? x = some (excO C t0)) (hnx : K.lookup x = none) (hroom : A.depth < recursionLimit)
    (hq : ∀ h' tk dx, IniEnd s.heap h' x C dx (m2 u v) → R (.ok (.ret .none)) { s with heap := h', toks := tk }) :
    codeAny (model prog w) A (.call (.ref fI) ⟨[.ref x, u, v], []⟩) R s := by
  obtain ⟨oc, od, doc, pm, an, cda, cc, ct, osl, p1, p2, p3, q1, q2, q3, q4, q7, q5, q6, r1, r2, r3, r4, r5, r6, r7, r8, ho, hcd, hline, ⟨⟨ccl, cdd, cvs, ccs, file, tf, hcode, hvs, hfile⟩, ⟨cl, cld, csl, hcell⟩⟩⟩ := T.fn
  obtain ⟨cn, q, N, bs, bm, sn, sub, ab, col, dd, k0, k1, k2, k3, k5, hC, hbm⟩ := U.cls
  obtain ⟨cdD, hD⟩ := T.cD
  obtain ⟨mb, hBn, hBx⟩ := hB
  have hcl : clsIn K C = some { name := cn, bases := bs, mro := .ref C :: bm, ns := N, qualname := q, hasDict := true, slotNames := sn, subclasses := sub, abstract := ab, collection := col, hasDel := false } := by unfold clsIn; rw [hC] <;> rfl
  refine ks_codeAny_call_defAt (fd := ksFn "__init__" qual (iA2 p1 p2 p3) (iB2 q1 q2 q3 q4 q7 q5 q6 r1 r2 r3 r4 r5 r6 r7 r8) iS2 .none .none doc pm an (.ref cda) ct cc) (body := iB2 q1 q2 q3 q4 q7 q5 q6 r1 r2 r3 r4 r5 r6 r7 r8) (binds := [("self", .ref x), ("word", u), ("value", v)]) hroom (X _ _ ho) rfl hlim (codeRec_of X hcd) rfl
    (BindsTo.of_eq (by first | rfl | with_unfolding_all rfl)) (show ∀ x ∈ iS2.names, x.2 ≠ NameKind.cell from by decide) (fun y hy => by
      rcases List.mem_cons.mp hy with rfl | hy
      · rfl
      rcases List.mem_cons.mp hy with rfl | hy
      · rfl
      rcases List.mem_cons.mp hy with rfl | hy
      · rfl
      · cases hy) (fun h₁ hn k => ?_) rfl rfl rfl
  have hxL : s.heap.objs.size ≠ x := Nat.ne_of_gt (Heap.lt_size hx)
  have X₁ : K.In h₁ := X.keeps k
  have hx₁ := k _ _ hx
  obtain ⟨hp, g, d, t, os⟩ := s
  show _root_.PySem.wpAt _ _ _ (execs (iB2 q1 q2 q3 q4 q7 q5 q6 r1 r2 r3 r4 r5 r6 r7 r8) (ksEnv qual iS2 hp.objs.size fI (.ref cda) cc)) _ _ _
  have I₁ : InstAt h₁ x (excO C t0) C none := ⟨hx₁, rfl, rfl, trivial⟩
  obtain ⟨oD, hD1, hD2⟩ : ∃ oD, h₁.get? D = some oD ∧ oD.data = .cls cdD := by
    unfold clsIn at hD
    split at hD
    · rename_i c d cd' sl ho
      cases hD
      exact ⟨_, X₁ _ _ ho, rfl⟩
    · cases hD
  -- super().__init__(value)
  refine ks_wpAt_execs_cons (ks_wpAt_Expr_any (ks_wpAt_MethodCall (pl := (do return (← importBound (.Call (.Name "super" q1) [] [] q2) (ksEnv qual iS2 hp.objs.size fI (.ref cda) cc)).getD true)) ?_ ?he))
  case he =>
    show (do
      let ov ← attributeBase (.Call (.Name "super" q1) [] [] q2) "__init__" (ksEnv qual iS2 hp.objs.size fI (.ref cda) cc) (eval (.Call (.Name "super" q1) [] [] q2) (ksEnv qual iS2 hp.objs.size fI (.ref cda) cc))
      standAt q3.atName
      methodCall (.Call (.Name "super" q1) [] [] q2) "__init__" q3 q5 (ksEnv qual iS2 hp.objs.size fI (.ref cda) cc) ov 2 (backTo q5 (starEach [.Name "word" q4, .Name "value" q7] (ksEnv qual iS2 hp.objs.size fI (.ref cda) cc))) []) = _
    have e1 : methodCallForm 2 (backTo q5 (starEach [.Name "word" q4, .Name "value" q7] (ksEnv qual iS2 hp.objs.size fI (.ref cda) cc))) [] = true := rfl
    unfold methodCall methodCallPos calleeOf
    rw [e1]
    simp only [hline, if_true, Bool.not_true, Bool.or_true, pure_bind]
    try rfl
  refine ks_wpAt_super_base (env := ksEnv qual iS2 hp.objs.size fI (.ref cda) cc) (by rfl) (by rfl) (by decide) rfl (X₁ _ _ ho) rfl (ar := { arg := "self", annotation := none, pos := p1 }) rfl rfl (X₁ _ _ hcode) rfl hvs hfile T.mtop ?_
  refine ks_loadName_global rfl (by rfl) (loadGlobal_builtin (env := ksEnv qual iS2 hp.objs.size fI (.ref cda) cc) (hG.keeps k) T.msup (hBn.keeps k) ((hBx _ (by decide +kernel)).trans (by decide +kernel)) ⟨rfl, ?_⟩)
  refine wpAny_loadName_free rfl (by rfl) rfl ⟨_, X₁ _ _ hcell, rfl⟩ ?_
  refine wpAny_loadName_local rfl (by rfl) hn (by first | rfl | with_unfolding_all rfl | kernel_rfl) ?_
  refine ks_wpAny_isType_cls hD1 hD2 ⟨rfl, ?_⟩
  refine ks_wpAny_call_super hD1 hD2 I₁.at_ I₁.cls (fun c e => ?_) (looks_mroIn X₁ U.mro) (fun h₂ hso k₂ => ?_)
  · cases e
  have X₂ : K.In h₂ := X₁.keeps k₂
  have hx₂ := k₂ _ _ hx₁
  have I₂ : InstAt h₂ x (excO C t0) C none := ⟨hx₂, rfl, rfl, trivial⟩
  have hsup : alongIn K "__init__" (((.ref C :: bm : List Value).dropWhile (· != .ref D)).drop 1) = some (some (.builtin i)) := by
    have z := U.sup
    unfold ks_superIn at z
    rw [hcl] at z
    exact z
  refine kxs_getMethod KF.kxs hso (looks_opaque X₂ T.tp) (l₀ := .ref C :: bm) ?_ rfl X₂ hsup (I₂.type.andThen (looks_subIn X₂ U.bC)) (ks_ne X₂ I₂ hcl) (by decide) ?_
  · exact fun A Q E s k q => wpAny_bind ((looks_clsIn X₂ hcl) A _ E s k (wpAny_pure q))
  have k₃ : ∀ b o, h₂.get? b = some o → (h₂.push (kxs_mw i x)).get? b = some o := fun b o e => Heap.get?_push_of_some _ e
  have hn₃ : (h₂.push (kxs_mw i x)).Ns hp.objs.size (fun y => ([("self", .ref x), ("word", u), ("value", v)] : List (Str × Value)).reverse.lookup y) := (hn.keeps k₂).keeps k₃
  have hu₃ : (h₂.push (kxs_mw i x)).get? h₂.objs.size = some (kxs_mw i x) := Heap.get?_push_at rfl rfl
  dsimp only
  refine kxs_callWith (i := i) (x := x) rfl ?_
  rw [show starEach [Expr.Name "word" q4, Expr.Name "value" q7] (ksEnv qual iS2 hp.objs.size fI (.ref cda) cc) = [(false, eval (.Name "word" q4) (ksEnv qual iS2 hp.objs.size fI (.ref cda) cc)), (false, eval (.Name "value" q7) (ksEnv qual iS2 hp.objs.size fI (.ref cda) cc))] from rfl]
  refine evalArgs_plain ?_
  refine Calls.spliced_cons (PySem.RoomX.ldX (v := u) hn₃ (by first | rfl | with_unfolding_all rfl | kernel_rfl) ?_)
  refine Calls.spliced_cons (PySem.RoomX.ldX (v := v) hn₃ (by first | rfl | with_unfolding_all rfl | kernel_rfl) (Calls.spliced_nil ⟨hu₃, ?_⟩))
  refine call_mwT KF (e := x) (t0 := t0) (rest := [u, v]) (k₃ _ _ (X₂ _ _ hC)) (k₃ _ _ hx₂) hu₃ (two_size u v) (fun h₄ t1 k₄ hx₄ => ?_)
  -- self.value = value
  have hn₄ : h₄.Ns hp.objs.size (fun y => ([("self", .ref x), ("word", u), ("value", v)] : List (Str × Value)).reverse.lookup y) := by
    obtain ⟨oL, es, ep, hL, r⟩ := hn₃
    exact ⟨oL, es, ep, k₄ _ _ hxL hL, r⟩
  have X₄ : K.In h₄ := fun a o e => k₄ a o (fun z => by rw [z, hnx] at e; cases e) (k₃ _ _ (X₂ a o e))
  refine wpAt_of_wpAny ?_
  refine wpAny_execs_cons (plainObj_wpAny_Assign_Attribute ?_)
  refine PySem.RoomX.ldX (v := u) hn₄ (by first | rfl | with_unfolding_all rfl | kernel_rfl) (PySem.RoomX.ldX (v := .ref x) hn₄ (by first | rfl | with_unfolding_all rfl | kernel_rfl) ?_)
  refine set_plain X₄ (ox := excO C t1) (od := none) ⟨hx₄, rfl, rfl, trivial⟩ U.sa ?_
  refine osa_first TF X₄ hx₄ hcl (show refsT tl (.ref C :: bm) = true from hbm) rfl U.noW (fun h₅ tk₅ dx k₅ dn dne hx₅ hn₅ => ?_)
  show wpAny _ _ (execs _ _) _ _ _
  have hnL : h₅.Ns hp.objs.size (fun y => ([("self", .ref x), ("word", u), ("value", v)] : List (Str × Value)).reverse.lookup y) := by
    obtain ⟨oL, es, ep, hL, r⟩ := hn₄
    exact ⟨oL, es, ep, k₅ _ _ hxL hL, r⟩
  have X₅ : K.In h₅ := fun a o e => k₅ a o (fun z => by rw [z, hnx] at e; cases e) (X₄ a o e)
  have hns := hn₅
  obtain ⟨oD, es, ep, hoD, _⟩ := hns
  refine wpAny_execs_cons (plainObj_wpAny_Assign_Attribute ?_)
  refine PySem.RoomX.ldX (v := v) hnL (by first | rfl | with_unfolding_all rfl | kernel_rfl) (PySem.RoomX.ldX (v := .ref x) hnL (by first | rfl | with_unfolding_all rfl | kernel_rfl) ?_)
  refine set_plain X₅ (od := some oD) ⟨hx₅, rfl, rfl, hoD⟩ U.sa ?_
  refine osa_next TF X₅ hx₅ hn₅ (Within.cons "word" u Within.nil) (by decide) hcl (show refsT tl (.ref C :: bm) = true from hbm) rfl U.noN (fun h₆ tk₆ k₆ hn₆ => ?_)
  show wpAny _ _ (execs _ _) _ _ _
  have all : ∀ b o, b ≠ x → hp.get? b = some o → h₄.get? b = some o := fun b o hb e => k₄ b o hb (k₃ _ _ (k₂ _ _ (k b o e)))
  have sz : hp.objs.size ≤ h₄.objs.size := Nat.le_of_lt hn₄.lt
  have dn' := Nat.le_trans sz dn
  exact wpAny_execs_nil (hq h₆ tk₆ dx ⟨fun b o hb e => k₆ b o (Nat.ne_of_lt (Nat.lt_of_lt_of_le (Heap.lt_size e) dn')) (k₅ b o hb (all b o hb e)), ⟨t1, k₆ x _ (Ne.symm dne) hx₅⟩, dn', dne, hn₆⟩)
theorem made_run1 (NF : NewF NB nw) (KF : IniF B i) (TF : TailF tl NB) (T : IniTxt prog K mg qual D fI) (U : ExCls K mg B i nw tl nm C D fI) {v : Value} (X : K.In s.heap) (hlim : s.heap.NoLimit) (hG : s.heap.Ns mainGlobals mg) (hB : ∃ mb, s.heap.Ns builtinsNs mb ∧ ∀ x : Str, x ≠ "__name__" → mb x = bootBuiltins x) (hroom : A.depth + 1 < recursionLimit)
    (hq : ∀ h' tk e d, MadeE s.heap h' e C d (m1 v) → R (.ok (.ret (.ref e))) { s with heap := h', toks := tk }) :
    codeAny (model prog w) A (.call (.ref C) ⟨[v], []⟩) R s := by
  obtain ⟨nm, q, N, bs, bm, sn, sub, ab, col, dd, k0, k1, k2, k3, k5, hC, hbm⟩ := U.cls
  obtain ⟨hp, g, dr, tk, os⟩ := s
  have k : ∀ b o, hp.get? b = some o → ((hp.push (kdv_tup [v])).push (excO C hp.objs.size)).get? b = some o := fun b o e => Heap.get?_push_of_some _ (Heap.get?_push_of_some _ e)
  have hget : ((hp.push (kdv_tup [v])).push (excO C hp.objs.size)).get? (hp.objs.size + 1) = some (excO C hp.objs.size) := by heap_get
  have hnx : K.lookup (hp.objs.size + 1) = none := by
    cases e : K.lookup (hp.objs.size + 1) with
    | none => rfl
    | some o =>
      have z : hp.get? (hp.objs.size + 1) = some o := X _ _ e
      exact absurd (Nat.lt_of_succ_lt (Heap.lt_size z)) (Nat.lt_irrefl _)
  obtain ⟨mb, hBn, hBx⟩ := hB
  refine call_run NF TF hbm (X _ _ hC) (looks_findIn X U.iC) (fun self => bind_fn X self U.tC) (PySem.RoomX.one_size v) ?_
  refine init_run1 KF TF (s := ⟨(hp.push (kdv_tup [v])).push (excO C hp.objs.size), g, dr, tk, os⟩) T U (X.keeps k) (hlim.keeps k) (hG.keeps k) ⟨mb, hBn.keeps k, hBx⟩ hget hnx ?_ fun h' tk' dx ⟨k', ⟨t1, hx⟩, dn, dne, hns⟩ => ?_
  · show A.depth + 1 < recursionLimit
    exact hroom
  · have old : ∀ b o, hp.get? b = some o → h'.get? b = some o := fun b o e => k' b o (Nat.ne_of_lt (Nat.lt_succ_of_lt (Heap.lt_size e))) (k b o e)
    have z : hp.objs.size + 1 + 1 ≤ dx := by
      first
        | (simpa only [Heap.size_push] using dn)
        | exact dn
        | (have q := dn; rw [Heap.size_push, Heap.size_push] at q; exact q)
    exact ⟨rfl, hq h' tk' (hp.objs.size + 1) dx ⟨old, Nat.le_succ _, ⟨_, _, hx, rfl, rfl, rfl⟩, Nat.le_trans (Nat.le_trans (Nat.le_succ _) (Nat.le_succ _)) z, dne, hns⟩⟩
theorem made_run2 (NF : NewF NB nw) (KF : IniF B i) (TF : TailF tl NB) (T : IniTxt2 prog K mg qual D fI) (U : ExCls K mg B i nw tl nm C D fI) {u v : Value} (X : K.In s.heap) (hlim : s.heap.NoLimit) (hG : s.heap.Ns mainGlobals mg) (hB : ∃ mb, s.heap.Ns builtinsNs mb ∧ ∀ x : Str, x ≠ "__name__" → mb x = bootBuiltins x) (hroom : A.depth + 1 < recursionLimit)
    (hq : ∀ h' tk e d, MadeE s.heap h' e C d (m2 u v) → R (.ok (.ret (.ref e))) { s with heap := h', toks := tk }) :
    codeAny (model prog w) A (.call (.ref C) ⟨[u, v], []⟩) R s := by
  obtain ⟨nm, q, N, bs, bm, sn, sub, ab, col, dd, k0, k1, k2, k3, k5, hC, hbm⟩ := U.cls
  obtain ⟨hp, g, dr, tk, os⟩ := s
  have k : ∀ b o, hp.get? b = some o → ((hp.push (kdv_tup [u, v])).push (excO C hp.objs.size)).get? b = some o := fun b o e => Heap.get?_push_of_some _ (Heap.get?_push_of_some _ e)
  have hget : ((hp.push (kdv_tup [u, v])).push (excO C hp.objs.size)).get? (hp.objs.size + 1) = some (excO C hp.objs.size) := by heap_get
  have hnx : K.lookup (hp.objs.size + 1) = none := by
    cases e : K.lookup (hp.objs.size + 1) with
    | none => rfl
    | some o =>
      have z : hp.get? (hp.objs.size + 1) = some o := X _ _ e
      exact absurd (Nat.lt_of_succ_lt (Heap.lt_size z)) (Nat.lt_irrefl _)
  obtain ⟨mb, hBn, hBx⟩ := hB
  refine call_run NF TF hbm (X _ _ hC) (looks_findIn X U.iC) (fun self => bind_fn X self U.tC) (two_size u v) ?_
  refine init_run2 KF TF (s := ⟨(hp.push (kdv_tup [u, v])).push (excO C hp.objs.size), g, dr, tk, os⟩) T U (X.keeps k) (hlim.keeps k) (hG.keeps k) ⟨mb, hBn.keeps k, hBx⟩ hget hnx ?_ fun h' tk' dx ⟨k', ⟨t1, hx⟩, dn, dne, hns⟩ => ?_
  · show A.depth + 1 < recursionLimit
    exact hroom
  · have old : ∀ b o, hp.get? b = some o → h'.get? b = some o := fun b o e => k' b o (Nat.ne_of_lt (Nat.lt_succ_of_lt (Heap.lt_size e))) (k b o e)
    have z : hp.objs.size + 1 + 1 ≤ dx := by
      first
        | (simpa only [Heap.size_push] using dn)
        | exact dn
        | (have q := dn; rw [Heap.size_push, Heap.size_push] at q; exact q)
    exact ⟨rfl, hq h' tk' (hp.objs.size + 1) dx ⟨old, Nat.le_succ _, ⟨_, _, hx, rfl, rfl, rfl⟩, Nat.le_trans (Nat.le_trans (Nat.le_succ _) (Nat.le_succ _)) z, dne, hns⟩⟩
end
end EvX
end PySem
set_option Elab.async false
set_option linter.all false
set_option maxRecDepth 100000
set_option maxHeartbeats 4000000
/-! Ez: exceptions as data: made, asked for their class, read. -/
namespace L2
open PySem PySem.Spec PyProof.Rows
theorem relO_two {u v : V} {u' v' : Value} (ru : RelV u u') (rv : RelV v v') (f : Str) : RelO (List.lookup f [(("value" : Str), v), ("word", u)]) (PySem.EvX.m2 u' v' f) := by
  show RelO _ (if f = "value" then some v' else if f = "word" then some u' else none)
  by_cases h1 : f = "value"
  · subst h1
    rw [if_pos rfl]
    have q : List.lookup ("value" : Str) [(("value" : Str), v), ("word", u)] = some v := by simp [List.lookup]
    rw [q]
    exact rv
  · rw [if_neg h1]
    have q1 : (f == ("value" : Str)) = false := by simpa using h1
    by_cases h2 : f = "word"
    · subst h2
      rw [if_pos rfl]
      have q : List.lookup ("word" : Str) [(("value" : Str), v), ("word", u)] = some u := by simp [List.lookup, q1]
      rw [q]
      exact ru
    · rw [if_neg h2]
      have q2 : (f == ("word" : Str)) = false := by simpa using h2
      have q : List.lookup f [(("value" : Str), v), ("word", u)] = none := by simp [List.lookup, q1, q2]
      rw [q]
      trivial
section
variable {X : Cx} {nm qual : Str} {C D fI : Addr} {pins : List (Addr × Obj)} {σ : St} {H1 : Hp} {Q : VK}
/-- an exception that was just made is a value -/
theorem ep_made {hp h' : Heap} {g : Array GenState} {dr : Drawn} {tk tk' : Nat} {os : OsState} {e d : Addr} {m : Str → Option Value} {fs : List (Str × V)} (I1 : Inv X pins σ H1 ⟨hp, g, dr, tk, os⟩) (M : PySem.EvX.MadeE hp h' e C d m) (r : ∀ f, RelO (fs.lookup f) (m f))
    (q : ∀ oe, Dv.ExcIs oe C (some d) → H1 e = none → H1 d = none → e ≠ d → Q (.ref e) (upd (upd H1 d (.xd fs)) e (.frz oe (.own e)))) : EP X pins σ Q (.ref e) ⟨h', g, dr, tk', os⟩ := by
  obtain ⟨oe, fv, hoe, hc, hd, hdat⟩ := M.obj
  have hns := M.ns
  obtain ⟨G', g1, g2⟩ := restrict h' fun b => decide (b ≠ e)
  have gk : ∀ b, b ≠ e → G'.get? b = h'.get? b := fun b hb => g1 b (decide_eq_true hb)
  have ge : G'.get? e = none := g2 e (by simp)
  have old : ∀ b o, hp.get? b = some o → G'.get? b = some o := fun b o q => (gk b (Nat.ne_of_lt (Nat.lt_of_lt_of_le (Heap.lt_size q) M.new))).trans (M.keep b o q)
  have ob : ObjOk X.prog X.w (upd H1 d (.xd fs)) G' d (.xd fs) := ⟨m, hns.at (fun o q => (gk d M.dne).trans q), r⟩
  have J : Inv X pins σ (upd H1 d (.xd fs)) ⟨G', g, dr, tk', os⟩ := I1.laid (t' := tk') old M.dbig ob
  have ne : (upd H1 d (.xd fs)) e = none := by
    rw [upd_ne (Ne.symm M.dne)]
    exact I1.hok.fresh M.new
  have J2 : Inv X pins σ (upd (upd H1 d (.xd fs)) e (.frz oe (.own e))) ⟨h', g, dr, tk', os⟩ := J.laidN (h' := h') (a := e) (o := .frz oe (.own e)) (t' := tk') (fun b o q => by
    have q' : G'.get? b = some o := q
    by_cases hb : b = e
    · rw [hb, ge] at q'
      cases q'
    · exact (gk b hb).symm.trans q') ge ne ⟨hoe, oe, hoe⟩
  exact ⟨.ref e, _, J2, rfl, q oe ⟨hc, hd, fv, hdat⟩ (I1.hok.fresh M.new) (I1.hok.fresh M.dbig) (Ne.symm M.dne)⟩
/-- what is laid for a new exception -/
def newE (C : Addr) (fs : List (Str × V)) (H1 : Hp) (Q : VK) : Prop := ∀ e d oe, H1 e = none → H1 d = none → e ≠ d → Dv.ExcIs oe C (some d) → Q (.ref e) (upd (upd H1 d (.xd fs)) e (.frz oe (.own e)))
def tMkE1 (C : Addr) (ta : TA) : TE := fun σ H Q => ta σ H fun vs H1 => ∃ v, vs = [v] ∧ newE C [("value", v)] H1 Q
def tMkE2 (C : Addr) (ta : TA) : TE := fun σ H Q => ta σ H fun vs H1 => ∃ u v, vs = [u, v] ∧ newE C [("value", v), ("word", u)] H1 Q
variable {B i nw NB : String} {tl : List Value}
theorem pe_mkE1 {a : Expr} {ta : TA} {p pos : Pos} {k : Nat} (NF : PySem.EvX.NewF NB nw) (KF : PySem.EvX.IniF B i) (TF : PySem.EvX.TailF tl NB) (T : PySem.EvX.IniTxt X.prog X.K X.mg qual D fI) (U : PySem.EvX.ExCls X.K X.mg B i nw tl nm C D fI) (hr : Room k X.A) (ha : PA X [a] ta) (hg : Gl X nm := by rfl)
    (he : starEach (a :: []) X.env = (false, eval a X.env) :: starEach [] X.env := by rfl) (hpl : (backTo pos (starEach [] X.env)).any (·.1) = false := by rfl) (hdb : (nm == ("__debug__" : Str)) = false := by decide) :
    PE X (.Call (.Name nm p) [a] [] pos) (tMkE1 C ta) := by
  refine ⟨fun pins s σ H Q I h => ?_⟩
  refine wpAny_Call_Name_kw (ld_glob I hg U.gC ?_ hdb)
  refine PySem.W.callWith_K (h₀ := X.base) I.ok.mod.kin U.kC (thn (ha.run pos pins s σ H _ I h) fun us s1 hh => ?_) he hpl
  obtain ⟨vs, H1, I1, r1, v, ev, q1⟩ := hh
  subst ev
  refine ⟨I1.kIn, ?_⟩
  cases r1 with
  | cons rv rn =>
    rename_i v' us'
    cases rn
    show wpAny _ _ (call (.ref C) [v']) _ _ _
    have hlim := I1.nolimit
    have hG := I1.mod.glob.keeps I1.bk
    obtain ⟨mb, hBn, hBx⟩ := I1.mod.blt
    have hBn' := hBn.keeps I1.bk
    obtain ⟨hp, g, dr, tk, os⟩ := s1
    refine wpAny_call (PySem.EvX.made_run1 NF KF TF T U I1.kIn hlim hG ⟨mb, hBn', hBx⟩ (by have := hr.dp; omega) fun h' tk' e d M => ?_)
    exact ep_made I1 M (fun f => relO_one rv f) fun oe x1 x2 x3 x4 => q1 e d oe x2 x3 x4 x1
theorem pe_mkE2 {a b : Expr} {ta : TA} {p pos : Pos} {k : Nat} (NF : PySem.EvX.NewF NB nw) (KF : PySem.EvX.IniF B i) (TF : PySem.EvX.TailF tl NB) (T : PySem.EvX.IniTxt2 X.prog X.K X.mg qual D fI) (U : PySem.EvX.ExCls X.K X.mg B i nw tl nm C D fI) (hr : Room k X.A) (ha : PA X [a, b] ta) (hg : Gl X nm := by rfl)
    (he : starEach (a :: [b]) X.env = (false, eval a X.env) :: starEach [b] X.env := by rfl) (hpl : (backTo pos (starEach [b] X.env)).any (·.1) = false := by rfl) (hdb : (nm == ("__debug__" : Str)) = false := by decide) :
    PE X (.Call (.Name nm p) [a, b] [] pos) (tMkE2 C ta) := by
  refine ⟨fun pins s σ H Q I h => ?_⟩
  refine wpAny_Call_Name_kw (ld_glob I hg U.gC ?_ hdb)
  refine PySem.W.callWith_K (h₀ := X.base) I.ok.mod.kin U.kC (thn (ha.run pos pins s σ H _ I h) fun us s1 hh => ?_) he hpl
  obtain ⟨vs, H1, I1, r1, u, v, ev, q1⟩ := hh
  subst ev
  refine ⟨I1.kIn, ?_⟩
  cases r1 with
  | cons ru rn =>
    rename_i u' us'
    cases rn with
    | cons rv rn =>
      rename_i v' us'
      cases rn
      show wpAny _ _ (call (.ref C) [u', v']) _ _ _
      have hlim := I1.nolimit
      have hG := I1.mod.glob.keeps I1.bk
      obtain ⟨mb, hBn, hBx⟩ := I1.mod.blt
      have hBn' := hBn.keeps I1.bk
      obtain ⟨hp, g, dr, tk, os⟩ := s1
      refine wpAny_call (PySem.EvX.made_run2 NF KF TF T U I1.kIn hlim hG ⟨mb, hBn', hBx⟩ (by have := hr.dp; omega) fun h' tk' e d M => ?_)
      exact ep_made I1 M (fun f => relO_two ru rv f) fun oe x1 x2 x3 x4 => q1 e d oe x2 x3 x4 x1
/-- C(), a class without an own __init__ -/
def tMkE0 (C : Addr) : TE := fun _ H Q => ∀ e oe, H e = none → Dv.ExcIs oe C none → Q (.ref e) (upd H e (.frz oe (.own e)))
theorem pe_mkE0 {bmB : List Value} {newId initId : String} {p pos : Pos} (F : ExcBaseFacts B newId initId bmB) (q : PySem.W.excIn X.K C bmB newId = true) (gC : X.mg nm = some (.ref C)) (kC : PySem.W.keepIn X.K (.ref C) = true) (hg : Gl X nm := by rfl) (hdb : (nm == ("__debug__" : Str)) = false := by decide) :
    PE X (.Call (.Name nm p) [] [] pos) (tMkE0 C) := by
  refine ⟨fun pins s σ H Q I h => ?_⟩
  refine wpAny_Call_Name_kw (ld_glob I hg gC ?_ hdb)
  obtain ⟨bm, N, nm', qn, bs, hdct, sn, sub, ab, col, dd, k0, k1, k2, k3, k5, mN, hC, hN, hni, T⟩ := exc_obj I.kIn q
  have run : wpAny (model X.prog X.w) X.A (call (.ref C) []) (EP X pins σ Q) X.xe s := by
    refine wpAny_call_exc_subT F T hC hN hni (fun h' a hm => ?_) (Nat.zero_le _)
    have hn : H a = none := I.hok.gone hm.new
    obtain ⟨t, ht, _, _⟩ := hm.there
    have z : Dv.ExcIs (PySem.HandSPX.excO C t) C none := ⟨rfl, rfl, _, rfl⟩
    exact ⟨.ref a, upd H a (.frz (PySem.HandSPX.excO C t) (.own a)), I.laidN hm.keeps hm.new hn ⟨ht, _, ht⟩, rfl, h a _ hn z⟩
  exact PySem.W.callWith_K0 I.kIn kC run
/-- isinstance(x, c), x an exception -/
def rIsX (K : PySem.W.Frag) : List V → Hp → VK → Prop := fun xs H Q => ∃ (a C : Addr) (oe : Obj) (d : Option Addr) (c : V) (cv : Value) (b : Bool), xs = [.ref a, c] ∧ H a = some (.frz oe (.own a)) ∧ Dv.ExcIs oe C d ∧ (∀ dx, d = some dx → ∃ vs, H dx = some (.xd vs)) ∧
  (∀ u, RelV c u → u = cv) ∧ ExcC K C ∧ PySem.W.kitOne K (.ref C) cv = some b ∧ Q (.bl b) H
theorem call_isX : CallR X (.builtin "isinstance") (rIsX X.K) := by
  intro pins s σ H xs us Q I r h
  obtain ⟨a, C, oe, d, c, cv, b, rfl, ha, ⟨z1, z2, fv, z3⟩, hd, hcv, Y, e, q⟩ := h
  cases r with
  | cons rx rr =>
    cases rr with
    | cons rt rr =>
      cases rr
      cases rx
      have ec := hcv _ rt
      subst ec
      obtain ⟨hget, _⟩ := I.hok a _ ha
      have hcl : (PySem.W.clsIn X.K C).isSome = true := by
        obtain ⟨cd, hc, _⟩ := PySem.W.any_some Y.hd
        rw [hc]
        rfl
      have J : ∃ od, PySem.W.InstAt s.heap a oe C od := by
        cases d with
        | none => exact ⟨none, hget, z1, by unfold PySem.W.notCls; rw [z3] <;> rfl, by rw [z2]; trivial⟩
        | some dx =>
          obtain ⟨vs, hx⟩ := hd dx rfl
          obtain ⟨mA, ⟨od, es, ep, ho, _⟩, _⟩ := I.hok dx _ hx
          exact ⟨some od, hget, z1, by unfold PySem.W.notCls; rw [z3] <;> rfl, by rw [z2]; exact ho⟩
      obtain ⟨od, J⟩ := J
      exact PySem.W.kia_one (PySem.W.kitx_exc hcl Y.hg Y.hk Y.hs Y.ha Y.hn Y.ht Y.hm) I.kIn J e (fun z => nomatch z) fun tk => ⟨.bl b, H, I.kept (t' := tk) fun _ _ z => z, rfl, q⟩
/-- x.f, x an exception -/
def tFldE (K : PySem.W.Frag) (f : Str) (te : TE) : TE := fun σ H Q => te σ H fun x H1 => ∃ (a C dx : Addr) (oe : Obj) (vs : List (Str × V)) (v : V), x = .ref a ∧ H1 a = some (.frz oe (.own a)) ∧ Dv.ExcIs oe C (some dx) ∧ H1 dx = some (.xd vs) ∧ List.lookup f vs = some v ∧ ExcC K C ∧ PySem.W.findIn K (.ref C) f = some none ∧ Q v H1
theorem pe_fldE {f : Str} {e : Expr} {te : TE} {pos : Pos} (he : PE X e te) (hb : attributeBase e f X.env (eval e X.env) = eval e X.env := by rfl) : PE X (.Attribute e f pos) (tFldE X.K f te) := by
  refine ⟨fun pins s σ H Q I h => ?_⟩
  refine attr_of hb (thn (he.run pins s σ H _ I h) fun u s1 hh => ?_)
  obtain ⟨x, H1, I1, rx, a, C, dx, oe, vs, v, ex, ha, ⟨z1, z2, fv, z3⟩, hx, hl, Y, hno, q⟩ := hh
  subst ex
  obtain rfl : u = Value.ref a := rx
  obtain ⟨hget, _⟩ := I1.hok a _ ha
  obtain ⟨mA, hns, hr⟩ : ObjOk X.prog X.w H1 s1.heap dx (.xd vs) := I1.hok dx _ hx
  obtain ⟨od, ho, hl2⟩ := lookIn_ns hns
  obtain ⟨u, hu, ru⟩ := RelO.some_of (v := v) (o := mA f) (by rw [← hl]; exact hr f)
  have J : PySem.W.InstAt s1.heap a oe C (some od) := ⟨hget, z1, by unfold PySem.W.notCls; rw [z3] <;> rfl, by rw [z2]; exact ho⟩
  exact HandSPX.exc_get I1.kIn J Y.hg Y.hk Y.hs (PySem.W.findObj_own Y.hd hno rfl (by rw [hl2, hu])) (handed_of ru) ⟨v, H1, I1.tok _, ru, q⟩
end
end L2
namespace Dv
open PySem L2
theorem exn_new {c : Cfg} {H1 : Hp} {e d C : Addr} {oe : Obj} {fs : List (Str × V)} {ds : List (Str × D)} (hi : c.I H1) (ne : H1 e = none) (nd : H1 d = none) (n : e ≠ d) (z : ExcIs oe C (some d)) (r : RpFs c H1 fs ds) :
    Go c H1 (upd (upd H1 d (.xd fs)) e (.frz oe (.own e))) ∧ Rp c (upd (upd H1 d (.xd fs)) e (.frz oe (.own e))) (.ref e) (.exn C ds) := by
  have g1 : Go c H1 (upd H1 d (.xd fs)) := Go.new hi nd
  have ne1 : (upd H1 d (.xd fs)) e = none := by
    rw [upd_ne n]
    exact ne
  have g2 : Go c (upd H1 d (.xd fs)) (upd (upd H1 d (.xd fs)) e (.frz oe (.own e))) := Go.new g1.inv ne1
  have g := g1.trans g2
  refine ⟨g, .exn (d := some d) (c.fresh hi ne) upd_same z ⟨c.fresh hi nd, ?_⟩ (r.to rfl (fun _ z => z) g.kF)⟩
  rw [upd_ne (Ne.symm n)]
  exact upd_same
/-! ### C(e), C(e1, e2), C() -/
def dMkE1 (C : Addr) (a : DA) : DE := fun Γ k => a Γ fun ss => match ss with
  | [.d v] => k (.d (.exn C [("value", v)]))
  | _ => False
def dMkE2 (C : Addr) (a : DA) : DE := fun Γ k => a Γ fun ss => match ss with
  | [.d u, .d v] => k (.d (.exn C [("value", v), ("word", u)]))
  | _ => False
def dMkE0 (C : Addr) : DE := fun _ k => k (.d (.exn C []))
section
variable {X : Cx} {W : WX} {xw : XW} {pos : Pos} {nm qual : Str} {C D' fI : Addr} {B i nw NB : String} {tl : List Value}
theorem pd_mkE1 {a : Expr} {ta : TA} {da : DA} {p : Pos} {k : Nat} (NF : PySem.EvX.NewF NB nw) (KF : PySem.EvX.IniF B i) (TF : PySem.EvX.TailF tl NB) (T : PySem.EvX.IniTxt X.prog X.K X.mg qual D' fI) (U : PySem.EvX.ExCls X.K X.mg B i nw tl nm C D' fI) (hr : Room k X.A) (ha : PDA X W xw [a] ta da) (hg : Gl X nm := by rfl)
    (he : starEach (a :: []) X.env = (false, eval a X.env) :: starEach [] X.env := by rfl) (hpl : (backTo pos (starEach [] X.env)).any (·.1) = false := by rfl) (hdb : (nm == ("__debug__" : Str)) = false := by decide) :
    PD X W xw (.Call (.Name nm p) [a] [] pos) (tMkE1 C ta) (dMkE1 C da) :=
  ⟨fun tk => pe_mkE1 NF KF TF T U hr (ha.pa tk) hg he hpl hdb, fun c eK hW Γ k hk σ H st Q q => ha.li c eK hW Γ _ hk σ H st _ fun vs ss H1 g r h => by
    try dsimp only at h
    split at h
    · rename_i v
      cases r with
      | cons r0 rn =>
        cases rn
        obtain ⟨x, ex, rx⟩ := r0
        cases ex
        refine ⟨_, rfl, fun e d oe ne nd n z => ?_⟩
        obtain ⟨g2, rr⟩ := exn_new (fs := [("value", _)]) (ds := [("value", v)]) g.inv ne nd n z (.cons rx .nil)
        exact q _ (.d (.exn C _)) _ (g.trans g2) ⟨_, rfl, rr⟩ h
    · exact h.elim⟩
theorem pd_mkE2 {a b : Expr} {ta : TA} {da : DA} {p : Pos} {k : Nat} (NF : PySem.EvX.NewF NB nw) (KF : PySem.EvX.IniF B i) (TF : PySem.EvX.TailF tl NB) (T : PySem.EvX.IniTxt2 X.prog X.K X.mg qual D' fI) (U : PySem.EvX.ExCls X.K X.mg B i nw tl nm C D' fI) (hr : Room k X.A) (ha : PDA X W xw [a, b] ta da) (hg : Gl X nm := by rfl)
    (he : starEach (a :: [b]) X.env = (false, eval a X.env) :: starEach [b] X.env := by rfl) (hpl : (backTo pos (starEach [b] X.env)).any (·.1) = false := by rfl) (hdb : (nm == ("__debug__" : Str)) = false := by decide) :
    PD X W xw (.Call (.Name nm p) [a, b] [] pos) (tMkE2 C ta) (dMkE2 C da) :=
  ⟨fun tk => pe_mkE2 NF KF TF T U hr (ha.pa tk) hg he hpl hdb, fun c eK hW Γ k hk σ H st Q q => ha.li c eK hW Γ _ hk σ H st _ fun vs ss H1 g r h => by
    try dsimp only at h
    split at h
    · rename_i u v
      cases r with
      | cons r0 rn =>
        cases rn with
        | cons r1 rn =>
          cases rn
          obtain ⟨x, ex, rx⟩ := r0
          cases ex
          obtain ⟨y, ey, ry⟩ := r1
          cases ey
          refine ⟨_, _, rfl, fun e d oe ne nd n z => ?_⟩
          obtain ⟨g2, rr⟩ := exn_new (fs := [("value", _), ("word", _)]) (ds := [("value", v), ("word", u)]) g.inv ne nd n z (.cons ry (.cons rx .nil))
          exact q _ (.d (.exn C _)) _ (g.trans g2) ⟨_, rfl, rr⟩ h
    · exact h.elim⟩
theorem pd_mkE0 {bmB : List Value} {newId initId : String} {p : Pos} (F : ExcBaseFacts B newId initId bmB) (qe : PySem.W.excIn X.K C bmB newId = true) (gC : X.mg nm = some (.ref C)) (kC : PySem.W.keepIn X.K (.ref C) = true) (hg : Gl X nm := by rfl) (hdb : (nm == ("__debug__" : Str)) = false := by decide) :
    PD X W xw (.Call (.Name nm p) [] [] pos) (tMkE0 C) (dMkE0 C) :=
  ⟨fun tk => pe_mkE0 F qe gC kC hg hdb, fun c eK hW Γ k hk σ H st Q q => fun e oe ne z =>
    q _ (.d (.exn C [])) _ (Go.new st.inv ne) ⟨_, rfl, .exn (d := none) (vs := []) (c.fresh st.inv ne) upd_same z rfl .nil⟩ hk⟩
end
/-! ### isinstance(x, c) by a table -/
def gIsTab (tab : Addr → V → Bool → Prop) : List Sl → DK → Prop := fun ss k => match ss with
  | [.d (.exn C _), .v c] => ∃ b, tab C c b ∧ k (.d (.bl b))
  | _ => False
def TabOk (K : PySem.W.Frag) (tab : Addr → V → Bool → Prop) : Prop := ∀ C c b, tab C c b → ExcC K C ∧ ∃ cv, (∀ u, RelV c u → u = cv) ∧ PySem.W.kitOne K (.ref C) cv = some b
theorem oc_isTab {K : PySem.W.Frag} {tab : Addr → V → Bool → Prop} (t : TabOk K tab) : OC K (rIsX K) (gIsTab tab) := fun c H vs ss k Q eK hi r hg q => by
  unfold gIsTab at hg
  split at hg
  · rename_i C fs cc
    obtain ⟨b, et, hk⟩ := hg
    obtain ⟨v, w, rfl, ⟨z, ez, rr⟩, r2⟩ := paired2 r
    cases ez
    have ew : cc = w := (Option.some.inj r2).symm
    subst ew
    obtain ⟨Y, cv, hcv, hkit⟩ := t C _ b et
    cases rr with
    | @exn a C oe d xs ds nf hh z xx rf =>
      refine ⟨a, C, oe, d, _, cv, b, rfl, hh, z, fun dx ed => ?_, hcv, Y, hkit, q _ (.d (.bl b)) H (Go.self hi) ⟨_, rfl, .bl _⟩ hk⟩
      subst ed
      exact ⟨_, xx.2⟩
  · exact hg.elim
/-! ### x.f, x an exception -/
def dFldE (cs : List Addr) (f : Str) (e : DE) : DE := fun Γ k => e Γ fun s => match s with
  | .d (.exn C fs) => C ∈ cs ∧ ∃ x, fs.lookup f = some x ∧ k (.d x)
  | _ => False
theorem pd_fldE {X : Cx} {W : WX} {xw : XW} {pos : Pos} {cs : List Addr} {f : Str} {e : Expr} {te : TE} {de : DE} (hc : ∀ C ∈ cs, ExcC X.K C ∧ PySem.W.findIn X.K (.ref C) f = some none) (h : PD X W xw e te de) (hb : attributeBase e f X.env (eval e X.env) = eval e X.env := by rfl) :
    PD X W xw (.Attribute e f pos) (tFldE X.K f te) (dFldE cs f de) :=
  ⟨fun tk => pe_fldE (h.pe tk) hb, fun c eK hW Γ k hk σ H st Q q => h.li c eK hW Γ _ hk σ H st _ fun v s H1 g r h1 => by
    try dsimp only at h1
    split at h1
    · obtain ⟨hC, x, e1, kx⟩ := h1
      obtain ⟨w, e, rr⟩ := r
      cases e
      obtain ⟨Y, hno⟩ := hc _ hC
      cases rr with
      | @exn a C oe d xs ds nf hh z xx rf =>
        cases d with
        | none =>
          cases (show xs = [] from xx)
          cases rf
          cases e1
        | some dx =>
          obtain ⟨u, e2, ru⟩ := rf.look e1
          exact ⟨a, _, dx, oe, xs, u, rfl, hh, z, xx.2, e2, Y, hno, q _ (.d x) H1 g ⟨_, rfl, ru⟩ kx⟩
    · exact h1.elim⟩
end Dv
set_option Elab.async false
set_option linter.all false
set_option maxRecDepth 100000
set_option maxHeartbeats 4000000
/-! Eb: what the written part says of classes of exceptions, asked by one look each. -/
namespace PySem
namespace EvX
open PySem.W PySem.Calls PyProof.Rows PySem.HandSPX
def exObjB (K : Frag) (C : Addr) (nw : String) (tl : List Value) : Bool := match K.lookup C with
  | some ⟨.type "type", _, .cls cd, sl⟩ => (match cd.mro, sl.toList with
    | .ref C' :: bm, [_, _, _, _, some (.builtin n), _] => C' == C && n == nw && !cd.hasDel && cd.hasDict && refsT tl bm
    | _, _ => false)
  | _ => false
theorem exObjB_of {K : Frag} {C : Addr} {nw : String} {tl : List Value} (q : exObjB K C nw tl = true) : ∃ nm q N bs bm sn sub ab col dd k0 k1 k2 k3 k5, K.lookup C = some (excClassObj nm q C N bs bm true sn sub ab col dd k0 k1 k2 k3 k5 nw) ∧ refsT tl bm = true := by
  unfold exObjB at q
  split at q
  · rename_i dd cd sl ho
    split at q
    · rename_i C' bm k0 k1 k2 k3 n k5 hm hs
      simp only [Bool.and_eq_true, beq_iff_eq, Bool.not_eq_true'] at q
      obtain ⟨⟨⟨⟨rfl, rfl⟩, hdel⟩, hdict⟩, hr⟩ := q
      obtain ⟨nm, bs, mro, ns, qn, hd, sn, sub, ab, col, del⟩ := cd
      dsimp only at hm hdel hdict
      subst hm hdel hdict
      have hsl : sl = #[k0, k1, k2, k3, some (.builtin n), k5] := by
        rw [← hs]
      subst hsl
      exact ⟨nm, qn, ns, bs, bm, sn, sub, ab, col, dd, k0, k1, k2, k3, k5, ho, hr⟩
    · cases q
  · cases q
def exB (K : Frag) (B i nw : String) (tl : List Value) (C D fI : Addr) : Bool :=
  exObjB K C nw tl && findIn K (.ref C) "__setattr__" == some (some (.builtin "object.__setattr__")) && findIn K (.ref C) "value" == some none && findIn K (.ref C) "word" == some none &&
  findIn K (.ref C) "__init__" == some (some (.ref fI)) && typeIn K (.ref fI) == some (.type "function") && keepIn K (.ref C) && subIn K (.ref C) (.type B) == some true &&
  ks_superIn K C D "__init__" == some (some (.builtin i)) && mroIn K C (.ref D) == some true
theorem exB_of {K : Frag} {mg : Str → Option Value} {B i nw : String} {tl : List Value} {nm : Str} {C D fI : Addr} (h : exB K B i nw tl C D fI = true) (g : mg nm = some (.ref C)) : ExCls K mg B i nw tl nm C D fI := by
  unfold exB at h
  simp only [Bool.and_eq_true, beq_iff_eq] at h
  obtain ⟨⟨⟨⟨⟨⟨⟨⟨⟨h1, h2⟩, h3⟩, h4⟩, h5⟩, h6⟩, h7⟩, h8⟩, h9⟩, h10⟩ := h
  exact ⟨g, exObjB_of h1, h2, h3, h4, h5, h6, h7, h8, h9, h10⟩
def excB (K : Frag) (C : Addr) : Bool :=
  findIn K (.ref C) "__getattribute__" == some (some (.builtin "BaseException.__getattribute__")) && findIn K (.ref C) "__getattr__" == some none && subIn K (.ref C) (.type "BaseException") == some true && hasDictIn K C &&
  findIn K (.ref C) "__class__" == some (some (.builtin "object.__class__")) && specialIn K (.builtin "object.__class__") "__get__" == some (some (.builtin "getset_descriptor.__get__")) && takesIn K (.builtin "object.__class__") == some true && mroIn K C (.type "object") == some true
theorem excB_of {K : Frag} {C : Addr} (h : excB K C = true) : L2.ExcC K C := by
  unfold excB at h
  simp only [Bool.and_eq_true, beq_iff_eq] at h
  obtain ⟨⟨⟨⟨⟨⟨⟨h1, h2⟩, h3⟩, h4⟩, h5⟩, h6⟩, h7⟩, h8⟩ := h
  exact ⟨h1, h2, h3, h4, h5, h6, h7, h8⟩
end EvX
end PySem
namespace Dv
open PySem L2
def vv : V → Value
  | .ref a => .ref a
  | .ty n => .type n
  | _ => .none
def isT : V → Bool
  | .ref _ => true
  | .ty _ => true
  | _ => false
theorem vv_rel : ∀ {t : V}, isT t = true → ∀ u, RelV t u → u = vv t := fun {t} h u r => by
  cases t <;> first | exact r | cases h
def rowB (K : PySem.W.Frag) (C : Addr) (ex : Nat → Bool) : Nat → List V → Bool
  | _, [] => true
  | j, t :: r => isT t && PySem.W.kitOne K (.ref C) (vv t) == some (ex j) && rowB K C ex (j + 1) r
def tabB (K : PySem.W.Frag) (ts : List V) (ex : Nat → Nat → Bool) : Nat → List Addr → Bool
  | _, [] => true
  | i, C :: r => PySem.EvX.excB K C && rowB K C (ex i) 0 ts && tabB K ts ex (i + 1) r
theorem rowB_of {K : PySem.W.Frag} {C : Addr} {ex : Nat → Bool} : ∀ {ts : List V} {n j : Nat} {t : V}, rowB K C ex n ts = true → ts[j]? = some t → isT t = true ∧ PySem.W.kitOne K (.ref C) (vv t) = some (ex (n + j))
  | [], _, _, _, _, e => by simp at e
  | x :: r, n, 0, t, h, e => by
    unfold rowB at h
    simp only [Bool.and_eq_true, beq_iff_eq] at h
    cases (show x = t by simpa using e)
    exact ⟨h.1.1, h.1.2⟩
  | x :: r, n, j + 1, t, h, e => by
    unfold rowB at h
    simp only [Bool.and_eq_true, beq_iff_eq] at h
    obtain ⟨z1, z2⟩ := rowB_of (j := j) h.2 (by simpa using e)
    refine ⟨z1, ?_⟩
    rw [z2]
    congr 2
    omega
theorem tabB_of {K : PySem.W.Frag} {ts : List V} {ex : Nat → Nat → Bool} : ∀ {cs : List Addr} {n i : Nat} {C : Addr}, tabB K ts ex n cs = true → cs[i]? = some C → PySem.EvX.excB K C = true ∧ rowB K C (ex (n + i)) 0 ts = true
  | [], _, _, _, _, e => by simp at e
  | x :: r, n, 0, C, h, e => by
    unfold tabB at h
    simp only [Bool.and_eq_true] at h
    cases (show x = C by simpa using e)
    exact ⟨h.1.1, h.1.2⟩
  | x :: r, n, i + 1, C, h, e => by
    unfold tabB at h
    simp only [Bool.and_eq_true] at h
    obtain ⟨z1, z2⟩ := tabB_of (i := i) h.2 (by simpa using e)
    refine ⟨z1, ?_⟩
    rw [show n + (i + 1) = n + 1 + i by omega]
    exact z2
/-- the i-th class and the j-th: as ex says -/
def tabR (cs : List Addr) (ts : List V) (ex : Nat → Nat → Bool) : Addr → V → Bool → Prop := fun C c b => ∃ i j, cs[i]? = some C ∧ ts[j]? = some c ∧ b = ex i j
theorem tab_ok {K : PySem.W.Frag} {cs : List Addr} {ts : List V} {ex : Nat → Nat → Bool} (h : tabB K ts ex 0 cs = true) : TabOk K (tabR cs ts ex) := by
  rintro C c b ⟨i, j, e1, e2, rfl⟩
  obtain ⟨z1, z2⟩ := tabB_of h e1
  obtain ⟨y1, y2⟩ := rowB_of z2 e2
  refine ⟨PySem.EvX.excB_of z1, vv c, vv_rel y1, ?_⟩
  rw [y2, Nat.zero_add, Nat.zero_add]
end Dv
namespace Dv
open PySem L2
theorem fld_of {K : PySem.W.Frag} {l : List Addr} {f : Str} (h : (l.all fun C => PySem.EvX.excB K C && PySem.W.findIn K (.ref C) f == some none) = true) : ∀ C ∈ l, L2.ExcC K C ∧ PySem.W.findIn K (.ref C) f = some none := by
  intro C hC
  have z := List.all_eq_true.mp h C hC
  simp only [Bool.and_eq_true, beq_iff_eq] at z
  exact ⟨PySem.EvX.excB_of z.1, z.2⟩
end Dv
set_option Elab.async false
set_option linter.all false
set_option maxRecDepth 100000
set_option maxHeartbeats 4000000
namespace G
open TX
open PySem L2 Dv
/-- is what the i-th class makes one of the j-th? -/
def exE (i j : Nat) : Bool := if j < 37 then i == j else if j == 37 || j == 40 then decide (i < 30) else if j == 38 || j == 41 then (decide (30 ≤ i) && decide (i < 33)) else if j == 39 then decide (33 ≤ i) else true
def top (i : Nat) : Stmt := PySem.Challenge.pw_leastrooms_k05_exceptions_apart.main.body.getD i (.Pass ⟨0, 0, 0, 0⟩)
abbrev s__law_pool : Stmt := top 41
abbrev s__law_take : Stmt := top 42
abbrev s__law_kinds : Stmt := top 43
abbrev s__law_roots : Stmt := top 44
abbrev s__law_values : Stmt := top 45
abbrev s_law : Stmt := top 46
theorem sc__law_pool : FnScope ["_law_script", "_law_k", "_law_cell", "_law_seed"] ["_law_script", "_law_k"] (defScope s__law_pool) := ⟨rfl, rfl, rfl, by decide +kernel, rfl, by decide +kernel, by decide +kernel⟩
theorem sc__law_take : FnScope ["_law_pool_here", "_law_many", "_law_found"] ["_law_pool_here", "_law_many"] (defScope s__law_take) := ⟨rfl, rfl, rfl, by decide +kernel, rfl, by decide +kernel, by decide +kernel⟩
theorem sc__law_kinds : FnScope ["_law_e", "_law_found"] ["_law_e"] (defScope s__law_kinds) := ⟨rfl, rfl, rfl, by decide +kernel, rfl, by decide +kernel, by decide +kernel⟩
theorem sc__law_roots : FnScope ["_law_e", "_law_found"] ["_law_e"] (defScope s__law_roots) := ⟨rfl, rfl, rfl, by decide +kernel, rfl, by decide +kernel, by decide +kernel⟩
theorem sc__law_values : FnScope ["_law_value", "_law_found"] ["_law_value"] (defScope s__law_values) := ⟨rfl, rfl, rfl, by decide +kernel, rfl, by decide +kernel, by decide +kernel⟩
theorem sc_law : FnScope ["_law_script", "_law_k", "_law_pool_here", "_law_value", "_law_made", "_law_at", "_law_kinds_here", "_law_roots_here", "_law_to"] ["_law_script"] (defScope s_law) := ⟨rfl, rfl, rfl, by decide +kernel, rfl, by decide +kernel, by decide +kernel⟩
structure Ad where
  f__law_pool : Addr
  d__law_pool : FuncData
  f__law_take : Addr
  d__law_take : FuncData
  f__law_kinds : Addr
  d__law_kinds : FuncData
  f__law_roots : Addr
  d__law_roots : FuncData
  f__law_values : Addr
  d__law_values : FuncData
  f_law : Addr
  d_law : FuncData
  C_RoomError : Addr
  C_BadText : Addr
  C_BadCount : Addr
  C_BadRow : Addr
  C_BadNumber : Addr
  C_BadNet : Addr
  C_BadRooms : Addr
  C_Small : Addr
  C_BadGroup : Addr
  C_NoKnot : Addr
  C_BadCourse : Addr
  C_BadPrices : Addr
  C_BadList : Addr
  C_NotRight : Addr
  C_NoEntry : Addr
  C_NoProcess : Addr
  C_NoChannel : Addr
  C_NoStore : Addr
  C_Refused : Addr
  C_TooLong : Addr
  C_TooMany : Addr
  C_BadVector : Addr
  C_NotSo : Addr
  C_BadLine : Addr
  C_BadPaper : Addr
  C_BadPolicy : Addr
  C_NoBeat : Addr
  C_BadPace : Addr
  C_BadBeats : Addr
  C_BadChange : Addr
  C_BadSeeds : Addr
  C_BadValue : Addr
  C_BadEntries : Addr
  C_BadJournal : Addr
  C_BadEvent : Addr
  C_BadEvents : Addr
  C_BadPlan : Addr
  C_BadQuestion : Addr
  C_NotStraight : Addr
  i_NoEntry : Addr
  i_Refused : Addr
  i_RoomError : Addr
def csE (a : Ad) : List Addr := [a.C_BadText, a.C_BadCount, a.C_BadRow, a.C_BadNumber, a.C_BadNet, a.C_BadRooms, a.C_Small, a.C_BadGroup, a.C_NoKnot, a.C_BadCourse, a.C_NotRight, a.C_BadPrices, a.C_BadList, a.C_BadVector, a.C_NotSo, a.C_BadLine, a.C_BadPaper, a.C_BadPolicy, a.C_NoBeat, a.C_BadPace, a.C_BadBeats, a.C_BadChange, a.C_BadSeeds, a.C_BadValue, a.C_BadEntries, a.C_BadJournal, a.C_BadEvent, a.C_BadEvents, a.C_BadPlan, a.C_BadQuestion, a.C_NoProcess, a.C_NoChannel, a.C_NoStore, a.C_Refused, a.C_TooLong, a.C_TooMany, a.C_NotStraight]
def tsE (a : Ad) : List V := [.ref a.C_BadText, .ref a.C_BadCount, .ref a.C_BadRow, .ref a.C_BadNumber, .ref a.C_BadNet, .ref a.C_BadRooms, .ref a.C_Small, .ref a.C_BadGroup, .ref a.C_NoKnot, .ref a.C_BadCourse, .ref a.C_NotRight, .ref a.C_BadPrices, .ref a.C_BadList, .ref a.C_BadVector, .ref a.C_NotSo, .ref a.C_BadLine, .ref a.C_BadPaper, .ref a.C_BadPolicy, .ref a.C_NoBeat, .ref a.C_BadPace, .ref a.C_BadBeats, .ref a.C_BadChange, .ref a.C_BadSeeds, .ref a.C_BadValue, .ref a.C_BadEntries, .ref a.C_BadJournal, .ref a.C_BadEvent, .ref a.C_BadEvents, .ref a.C_BadPlan, .ref a.C_BadQuestion, .ref a.C_NoProcess, .ref a.C_NoChannel, .ref a.C_NoStore, .ref a.C_Refused, .ref a.C_TooLong, .ref a.C_TooMany, .ref a.C_NotStraight, .ty "ValueError", .ty "KeyError", .ty "RuntimeError", .ref a.C_RoomError, .ref a.C_NoEntry, .ty "Exception"]
def csE_value (a : Ad) : List Addr := [a.C_RoomError, a.C_BadText, a.C_BadCount, a.C_BadRow, a.C_BadNumber, a.C_BadNet, a.C_BadRooms, a.C_Small, a.C_BadGroup, a.C_NoKnot, a.C_BadCourse, a.C_BadPrices, a.C_BadList, a.C_NotRight, a.C_NoEntry, a.C_NoProcess, a.C_NoChannel, a.C_NoStore, a.C_Refused, a.C_BadVector, a.C_NotSo, a.C_BadLine, a.C_BadPaper, a.C_BadPolicy, a.C_NoBeat, a.C_BadPace, a.C_BadBeats, a.C_BadChange, a.C_BadSeeds, a.C_BadValue, a.C_BadEntries, a.C_BadJournal, a.C_BadEvent, a.C_BadEvents, a.C_BadPlan, a.C_BadQuestion]
def csE_word (a : Ad) : List Addr := [a.C_Refused]
structure Txt (P : Program) (K : PySem.W.Frag) (mg : Str → Option Value) (a : Ad) : Prop where
  f__law_pool : FnAt K mg "_law_pool" "_law_pool" s__law_pool ["_law_script", "_law_k"] a.f__law_pool a.d__law_pool
  f__law_take : FnAt K mg "_law_take" "_law_take" s__law_take ["_law_pool_here", "_law_many"] a.f__law_take a.d__law_take
  f__law_kinds : FnAt K mg "_law_kinds" "_law_kinds" s__law_kinds ["_law_e"] a.f__law_kinds a.d__law_kinds
  f__law_roots : FnAt K mg "_law_roots" "_law_roots" s__law_roots ["_law_e"] a.f__law_roots a.d__law_roots
  f__law_values : FnAt K mg "_law_values" "_law_values" s__law_values ["_law_value"] a.f__law_values a.d__law_values
  f_law : FnAt K mg "law" "law" s_law ["_law_script"] a.f_law a.d_law
  n_Exception : mg "Exception" = none
  n_KeyError : mg "KeyError" = none
  n_RuntimeError : mg "RuntimeError" = none
  n_ValueError : mg "ValueError" = none
  n_isinstance : mg "isinstance" = none
  n_len : mg "len" = none
  n_max : mg "max" = none
  n_min : mg "min" = none
  n_range : mg "range" = none
  ini_NoEntry : PySem.EvX.IniTxt P K mg "NoEntry.__init__" a.C_NoEntry a.i_NoEntry
  ini_Refused : PySem.EvX.IniTxt2 P K mg "Refused.__init__" a.C_Refused a.i_Refused
  ini_RoomError : PySem.EvX.IniTxt P K mg "RoomError.__init__" a.C_RoomError a.i_RoomError
  x_RoomError : PySem.EvX.ExCls K mg "ValueError" "ValueError.__init__" "ValueError.__new__" PySem.HandSPX.veTail "RoomError" a.C_RoomError a.C_RoomError a.i_RoomError
  x_BadText : PySem.EvX.ExCls K mg "ValueError" "ValueError.__init__" "ValueError.__new__" PySem.HandSPX.veTail "BadText" a.C_BadText a.C_RoomError a.i_RoomError
  x_BadCount : PySem.EvX.ExCls K mg "ValueError" "ValueError.__init__" "ValueError.__new__" PySem.HandSPX.veTail "BadCount" a.C_BadCount a.C_RoomError a.i_RoomError
  x_BadRow : PySem.EvX.ExCls K mg "ValueError" "ValueError.__init__" "ValueError.__new__" PySem.HandSPX.veTail "BadRow" a.C_BadRow a.C_RoomError a.i_RoomError
  x_BadNumber : PySem.EvX.ExCls K mg "ValueError" "ValueError.__init__" "ValueError.__new__" PySem.HandSPX.veTail "BadNumber" a.C_BadNumber a.C_RoomError a.i_RoomError
  x_BadNet : PySem.EvX.ExCls K mg "ValueError" "ValueError.__init__" "ValueError.__new__" PySem.HandSPX.veTail "BadNet" a.C_BadNet a.C_RoomError a.i_RoomError
  x_BadRooms : PySem.EvX.ExCls K mg "ValueError" "ValueError.__init__" "ValueError.__new__" PySem.HandSPX.veTail "BadRooms" a.C_BadRooms a.C_RoomError a.i_RoomError
  x_Small : PySem.EvX.ExCls K mg "ValueError" "ValueError.__init__" "ValueError.__new__" PySem.HandSPX.veTail "Small" a.C_Small a.C_RoomError a.i_RoomError
  x_BadGroup : PySem.EvX.ExCls K mg "ValueError" "ValueError.__init__" "ValueError.__new__" PySem.HandSPX.veTail "BadGroup" a.C_BadGroup a.C_RoomError a.i_RoomError
  x_NoKnot : PySem.EvX.ExCls K mg "ValueError" "ValueError.__init__" "ValueError.__new__" PySem.HandSPX.veTail "NoKnot" a.C_NoKnot a.C_RoomError a.i_RoomError
  x_BadCourse : PySem.EvX.ExCls K mg "ValueError" "ValueError.__init__" "ValueError.__new__" PySem.HandSPX.veTail "BadCourse" a.C_BadCourse a.C_RoomError a.i_RoomError
  x_BadPrices : PySem.EvX.ExCls K mg "ValueError" "ValueError.__init__" "ValueError.__new__" PySem.HandSPX.veTail "BadPrices" a.C_BadPrices a.C_RoomError a.i_RoomError
  x_BadList : PySem.EvX.ExCls K mg "ValueError" "ValueError.__init__" "ValueError.__new__" PySem.HandSPX.veTail "BadList" a.C_BadList a.C_RoomError a.i_RoomError
  x_NotRight : PySem.EvX.ExCls K mg "ValueError" "ValueError.__init__" "ValueError.__new__" PySem.HandSPX.veTail "NotRight" a.C_NotRight a.C_RoomError a.i_RoomError
  x_NoEntry : PySem.EvX.ExCls K mg "KeyError" "KeyError.__init__" "LookupError.__new__" PySem.EvX.keTail "NoEntry" a.C_NoEntry a.C_NoEntry a.i_NoEntry
  x_NoProcess : PySem.EvX.ExCls K mg "KeyError" "KeyError.__init__" "LookupError.__new__" PySem.EvX.keTail "NoProcess" a.C_NoProcess a.C_NoEntry a.i_NoEntry
  x_NoChannel : PySem.EvX.ExCls K mg "KeyError" "KeyError.__init__" "LookupError.__new__" PySem.EvX.keTail "NoChannel" a.C_NoChannel a.C_NoEntry a.i_NoEntry
  x_NoStore : PySem.EvX.ExCls K mg "KeyError" "KeyError.__init__" "LookupError.__new__" PySem.EvX.keTail "NoStore" a.C_NoStore a.C_NoEntry a.i_NoEntry
  x_Refused : PySem.EvX.ExCls K mg "RuntimeError" "RuntimeError.__init__" "RuntimeError.__new__" PySem.EvX.reTail "Refused" a.C_Refused a.C_Refused a.i_Refused
  z_TooLong : mg "TooLong" = some (.ref a.C_TooLong) ∧ PySem.W.excIn K a.C_TooLong PySem.EvX.reTail "RuntimeError.__new__" = true ∧ PySem.W.keepIn K (.ref a.C_TooLong) = true
  z_TooMany : mg "TooMany" = some (.ref a.C_TooMany) ∧ PySem.W.excIn K a.C_TooMany PySem.EvX.reTail "RuntimeError.__new__" = true ∧ PySem.W.keepIn K (.ref a.C_TooMany) = true
  x_BadVector : PySem.EvX.ExCls K mg "ValueError" "ValueError.__init__" "ValueError.__new__" PySem.HandSPX.veTail "BadVector" a.C_BadVector a.C_RoomError a.i_RoomError
  x_NotSo : PySem.EvX.ExCls K mg "ValueError" "ValueError.__init__" "ValueError.__new__" PySem.HandSPX.veTail "NotSo" a.C_NotSo a.C_RoomError a.i_RoomError
  x_BadLine : PySem.EvX.ExCls K mg "ValueError" "ValueError.__init__" "ValueError.__new__" PySem.HandSPX.veTail "BadLine" a.C_BadLine a.C_RoomError a.i_RoomError
  x_BadPaper : PySem.EvX.ExCls K mg "ValueError" "ValueError.__init__" "ValueError.__new__" PySem.HandSPX.veTail "BadPaper" a.C_BadPaper a.C_RoomError a.i_RoomError
  x_BadPolicy : PySem.EvX.ExCls K mg "ValueError" "ValueError.__init__" "ValueError.__new__" PySem.HandSPX.veTail "BadPolicy" a.C_BadPolicy a.C_RoomError a.i_RoomError
  x_NoBeat : PySem.EvX.ExCls K mg "ValueError" "ValueError.__init__" "ValueError.__new__" PySem.HandSPX.veTail "NoBeat" a.C_NoBeat a.C_RoomError a.i_RoomError
  x_BadPace : PySem.EvX.ExCls K mg "ValueError" "ValueError.__init__" "ValueError.__new__" PySem.HandSPX.veTail "BadPace" a.C_BadPace a.C_RoomError a.i_RoomError
  x_BadBeats : PySem.EvX.ExCls K mg "ValueError" "ValueError.__init__" "ValueError.__new__" PySem.HandSPX.veTail "BadBeats" a.C_BadBeats a.C_RoomError a.i_RoomError
  x_BadChange : PySem.EvX.ExCls K mg "ValueError" "ValueError.__init__" "ValueError.__new__" PySem.HandSPX.veTail "BadChange" a.C_BadChange a.C_RoomError a.i_RoomError
  x_BadSeeds : PySem.EvX.ExCls K mg "ValueError" "ValueError.__init__" "ValueError.__new__" PySem.HandSPX.veTail "BadSeeds" a.C_BadSeeds a.C_RoomError a.i_RoomError
  x_BadValue : PySem.EvX.ExCls K mg "ValueError" "ValueError.__init__" "ValueError.__new__" PySem.HandSPX.veTail "BadValue" a.C_BadValue a.C_RoomError a.i_RoomError
  x_BadEntries : PySem.EvX.ExCls K mg "ValueError" "ValueError.__init__" "ValueError.__new__" PySem.HandSPX.veTail "BadEntries" a.C_BadEntries a.C_RoomError a.i_RoomError
  x_BadJournal : PySem.EvX.ExCls K mg "ValueError" "ValueError.__init__" "ValueError.__new__" PySem.HandSPX.veTail "BadJournal" a.C_BadJournal a.C_RoomError a.i_RoomError
  x_BadEvent : PySem.EvX.ExCls K mg "ValueError" "ValueError.__init__" "ValueError.__new__" PySem.HandSPX.veTail "BadEvent" a.C_BadEvent a.C_RoomError a.i_RoomError
  x_BadEvents : PySem.EvX.ExCls K mg "ValueError" "ValueError.__init__" "ValueError.__new__" PySem.HandSPX.veTail "BadEvents" a.C_BadEvents a.C_RoomError a.i_RoomError
  x_BadPlan : PySem.EvX.ExCls K mg "ValueError" "ValueError.__init__" "ValueError.__new__" PySem.HandSPX.veTail "BadPlan" a.C_BadPlan a.C_RoomError a.i_RoomError
  x_BadQuestion : PySem.EvX.ExCls K mg "ValueError" "ValueError.__init__" "ValueError.__new__" PySem.HandSPX.veTail "BadQuestion" a.C_BadQuestion a.C_RoomError a.i_RoomError
  z_NotStraight : mg "NotStraight" = some (.ref a.C_NotStraight) ∧ PySem.W.excIn K a.C_NotStraight PySem.EvX.reTail "RuntimeError.__new__" = true ∧ PySem.W.keepIn K (.ref a.C_NotStraight) = true
  tab : TabOk K (tabR (csE a) (tsE a) exE)
  fld_value : ∀ C ∈ csE_value a, L2.ExcC K C ∧ PySem.W.findIn K (.ref C) "value" = some none
  fld_word : ∀ C ∈ csE_word a, L2.ExcC K C ∧ PySem.W.findIn K (.ref C) "word" = some none
section
variable {P : Program} {w : World} {K : PySem.W.Frag} {mg : Str → Option Value} {a : Ad} {base : Heap}
def rt (i : Nat) : List D := [.bl (decide (i < 30)), .bl (decide (30 ≤ i) && decide (i < 33)), .bl (decide (33 ≤ i)), .bl (decide (i < 30)), .bl (decide (30 ≤ i) && decide (i < 33))]
def c_kinds (a : Ad) : Ctr where
  n := 1
  f := fun ss k _ => match ss with
    | [.d (.exn C _)] => ∃ i, i < 37 ∧ (csE a)[i]? = some C ∧ k (.d (.lst ((List.range 37).map fun j => .bl (i == j))))
    | _ => False
  mono := fun {ss k k' x x'} hk _ h => by
    split at h
    · obtain ⟨i, h1, h2, h3⟩ := h
      exact ⟨i, h1, h2, hk _ h3⟩
    · exact h.elim
def c_roots (a : Ad) : Ctr where
  n := 1
  f := fun ss k _ => match ss with
    | [.d (.exn C _)] => ∃ i, i < 37 ∧ (csE a)[i]? = some C ∧ k (.d (.lst (rt i)))
    | _ => False
  mono := fun {ss k k' x x'} hk _ h => by
    split at h
    · obtain ⟨i, h1, h2, h3⟩ := h
      exact ⟨i, h1, h2, hk _ h3⟩
    · exact h.elim
def c_values (a : Ad) : Ctr where
  n := 1
  f := fun ss k _ => match ss with
    | [.d v] => k (.d (.lst (((csE a).take 30).map fun C => .exn C [("value", v)])))
    | _ => False
  mono := fun {ss k k' x x'} hk _ h => by
    split at h
    · exact hk _ h
    · exact h.elim
theorem tab_at {a : Ad} {i j : Nat} {C : Addr} {c : V} (e1 : (csE a)[i]? = some C) (e2 : (tsE a)[j]? = some c) {b : Bool} (e : b = exE i j) {k : DK} (h : k (.d (.bl b))) : ∃ b, tabR (csE a) (tsE a) exE C c b ∧ k (.d (.bl b)) := ⟨b, ⟨i, j, e1, e2, e⟩, h⟩
theorem ok__law_kinds (T : Txt P K mg a) : FnOk P w K mg base (L2.CX P w) 1 a.f__law_kinds a.d__law_kinds ["_law_e"] ((c_kinds a).sp K) := by
  refine fn_ok (c_kinds a) T.f__law_kinds.F sc__law_kinds rfl (fun cdv A outer s H E xw hr po => ⟨_, _, (pdss_cons (pds_set (i := 1) (pd_lst (pda_cons (pd_callB call_isX (oc_isTab T.tab) T.n_isinstance (by decide +kernel) (pda_cons (pd_v 0) (pda_cons (pd_cls T.x_BadText.gC) pda_nil))) (pda_cons (pd_callB call_isX (oc_isTab T.tab) T.n_isinstance (by decide +kernel) (pda_cons (pd_v 0) (pda_cons (pd_cls T.x_BadCount.gC) pda_nil))) (pda_cons (pd_callB call_isX (oc_isTab T.tab) T.n_isinstance (by decide +kernel) (pda_cons (pd_v 0) (pda_cons (pd_cls T.x_BadRow.gC) pda_nil))) (pda_cons (pd_callB call_isX (oc_isTab T.tab) T.n_isinstance (by decide +kernel) (pda_cons (pd_v 0) (pda_cons (pd_cls T.x_BadNumber.gC) pda_nil))) pda_nil))))) sc__law_kinds.nd)
  (pdss_cons (pds_set (i := 1) (pd_add (pd_v 1) (pd_lst (pda_cons (pd_callB call_isX (oc_isTab T.tab) T.n_isinstance (by decide +kernel) (pda_cons (pd_v 0) (pda_cons (pd_cls T.x_BadNet.gC) pda_nil))) (pda_cons (pd_callB call_isX (oc_isTab T.tab) T.n_isinstance (by decide +kernel) (pda_cons (pd_v 0) (pda_cons (pd_cls T.x_BadRooms.gC) pda_nil))) (pda_cons (pd_callB call_isX (oc_isTab T.tab) T.n_isinstance (by decide +kernel) (pda_cons (pd_v 0) (pda_cons (pd_cls T.x_Small.gC) pda_nil))) (pda_cons (pd_callB call_isX (oc_isTab T.tab) T.n_isinstance (by decide +kernel) (pda_cons (pd_v 0) (pda_cons (pd_cls T.x_BadGroup.gC) pda_nil))) pda_nil)))))) sc__law_kinds.nd)
  (pdss_cons (pds_set (i := 1) (pd_add (pd_v 1) (pd_lst (pda_cons (pd_callB call_isX (oc_isTab T.tab) T.n_isinstance (by decide +kernel) (pda_cons (pd_v 0) (pda_cons (pd_cls T.x_NoKnot.gC) pda_nil))) (pda_cons (pd_callB call_isX (oc_isTab T.tab) T.n_isinstance (by decide +kernel) (pda_cons (pd_v 0) (pda_cons (pd_cls T.x_BadCourse.gC) pda_nil))) (pda_cons (pd_callB call_isX (oc_isTab T.tab) T.n_isinstance (by decide +kernel) (pda_cons (pd_v 0) (pda_cons (pd_cls T.x_NotRight.gC) pda_nil))) (pda_cons (pd_callB call_isX (oc_isTab T.tab) T.n_isinstance (by decide +kernel) (pda_cons (pd_v 0) (pda_cons (pd_cls T.x_BadPrices.gC) pda_nil))) pda_nil)))))) sc__law_kinds.nd)
  (pdss_cons (pds_set (i := 1) (pd_add (pd_v 1) (pd_lst (pda_cons (pd_callB call_isX (oc_isTab T.tab) T.n_isinstance (by decide +kernel) (pda_cons (pd_v 0) (pda_cons (pd_cls T.x_BadList.gC) pda_nil))) (pda_cons (pd_callB call_isX (oc_isTab T.tab) T.n_isinstance (by decide +kernel) (pda_cons (pd_v 0) (pda_cons (pd_cls T.x_BadVector.gC) pda_nil))) (pda_cons (pd_callB call_isX (oc_isTab T.tab) T.n_isinstance (by decide +kernel) (pda_cons (pd_v 0) (pda_cons (pd_cls T.x_NotSo.gC) pda_nil))) (pda_cons (pd_callB call_isX (oc_isTab T.tab) T.n_isinstance (by decide +kernel) (pda_cons (pd_v 0) (pda_cons (pd_cls T.x_BadLine.gC) pda_nil))) pda_nil)))))) sc__law_kinds.nd)
  (pdss_cons (pds_set (i := 1) (pd_add (pd_v 1) (pd_lst (pda_cons (pd_callB call_isX (oc_isTab T.tab) T.n_isinstance (by decide +kernel) (pda_cons (pd_v 0) (pda_cons (pd_cls T.x_BadPaper.gC) pda_nil))) (pda_cons (pd_callB call_isX (oc_isTab T.tab) T.n_isinstance (by decide +kernel) (pda_cons (pd_v 0) (pda_cons (pd_cls T.x_BadPolicy.gC) pda_nil))) (pda_cons (pd_callB call_isX (oc_isTab T.tab) T.n_isinstance (by decide +kernel) (pda_cons (pd_v 0) (pda_cons (pd_cls T.x_NoBeat.gC) pda_nil))) (pda_cons (pd_callB call_isX (oc_isTab T.tab) T.n_isinstance (by decide +kernel) (pda_cons (pd_v 0) (pda_cons (pd_cls T.x_BadPace.gC) pda_nil))) pda_nil)))))) sc__law_kinds.nd)
  (pdss_cons (pds_set (i := 1) (pd_add (pd_v 1) (pd_lst (pda_cons (pd_callB call_isX (oc_isTab T.tab) T.n_isinstance (by decide +kernel) (pda_cons (pd_v 0) (pda_cons (pd_cls T.x_BadBeats.gC) pda_nil))) (pda_cons (pd_callB call_isX (oc_isTab T.tab) T.n_isinstance (by decide +kernel) (pda_cons (pd_v 0) (pda_cons (pd_cls T.x_BadChange.gC) pda_nil))) (pda_cons (pd_callB call_isX (oc_isTab T.tab) T.n_isinstance (by decide +kernel) (pda_cons (pd_v 0) (pda_cons (pd_cls T.x_BadSeeds.gC) pda_nil))) (pda_cons (pd_callB call_isX (oc_isTab T.tab) T.n_isinstance (by decide +kernel) (pda_cons (pd_v 0) (pda_cons (pd_cls T.x_BadValue.gC) pda_nil))) pda_nil)))))) sc__law_kinds.nd)
  (pdss_cons (pds_set (i := 1) (pd_add (pd_v 1) (pd_lst (pda_cons (pd_callB call_isX (oc_isTab T.tab) T.n_isinstance (by decide +kernel) (pda_cons (pd_v 0) (pda_cons (pd_cls T.x_BadEntries.gC) pda_nil))) (pda_cons (pd_callB call_isX (oc_isTab T.tab) T.n_isinstance (by decide +kernel) (pda_cons (pd_v 0) (pda_cons (pd_cls T.x_BadJournal.gC) pda_nil))) (pda_cons (pd_callB call_isX (oc_isTab T.tab) T.n_isinstance (by decide +kernel) (pda_cons (pd_v 0) (pda_cons (pd_cls T.x_BadEvent.gC) pda_nil))) pda_nil))))) sc__law_kinds.nd)
  (pdss_cons (pds_set (i := 1) (pd_add (pd_v 1) (pd_lst (pda_cons (pd_callB call_isX (oc_isTab T.tab) T.n_isinstance (by decide +kernel) (pda_cons (pd_v 0) (pda_cons (pd_cls T.x_BadEvents.gC) pda_nil))) (pda_cons (pd_callB call_isX (oc_isTab T.tab) T.n_isinstance (by decide +kernel) (pda_cons (pd_v 0) (pda_cons (pd_cls T.x_BadPlan.gC) pda_nil))) (pda_cons (pd_callB call_isX (oc_isTab T.tab) T.n_isinstance (by decide +kernel) (pda_cons (pd_v 0) (pda_cons (pd_cls T.x_BadQuestion.gC) pda_nil))) pda_nil))))) sc__law_kinds.nd)
  (pdss_cons (pds_set (i := 1) (pd_add (pd_v 1) (pd_lst (pda_cons (pd_callB call_isX (oc_isTab T.tab) T.n_isinstance (by decide +kernel) (pda_cons (pd_v 0) (pda_cons (pd_cls T.x_NoProcess.gC) pda_nil))) (pda_cons (pd_callB call_isX (oc_isTab T.tab) T.n_isinstance (by decide +kernel) (pda_cons (pd_v 0) (pda_cons (pd_cls T.x_NoChannel.gC) pda_nil))) (pda_cons (pd_callB call_isX (oc_isTab T.tab) T.n_isinstance (by decide +kernel) (pda_cons (pd_v 0) (pda_cons (pd_cls T.x_NoStore.gC) pda_nil))) pda_nil))))) sc__law_kinds.nd)
  (pdss_one (pds_ret (pd_add (pd_v 1) (pd_lst (pda_cons (pd_callB call_isX (oc_isTab T.tab) T.n_isinstance (by decide +kernel) (pda_cons (pd_v 0) (pda_cons (pd_cls T.x_Refused.gC) pda_nil))) (pda_cons (pd_callB call_isX (oc_isTab T.tab) T.n_isinstance (by decide +kernel) (pda_cons (pd_v 0) (pda_cons (pd_cls T.z_TooLong.1) pda_nil))) (pda_cons (pd_callB call_isX (oc_isTab T.tab) T.n_isinstance (by decide +kernel) (pda_cons (pd_v 0) (pda_cons (pd_cls T.z_TooMany.1) pda_nil))) (pda_cons (pd_callB call_isX (oc_isTab T.tab) T.n_isinstance (by decide +kernel) (pda_cons (pd_v 0) (pda_cons (pd_cls T.z_NotStraight.1) pda_nil))) pda_nil))))))))))))))))), ?_⟩)
  intro ss kk xx hl h _
  unfold c_kinds at h
  dsimp only at h
  split at h
  · rename_i C fs
    obtain ⟨i, hi, e, h⟩ := h
    have st : ∀ j, j < 37 → exE i j = (i == j) := fun j hj => if_pos hj
    refine ⟨(i == 0), ⟨i, 0, e, rfl, (st 0 (by decide)).symm⟩, ?_⟩
    refine ⟨(i == 1), ⟨i, 1, e, rfl, (st 1 (by decide)).symm⟩, ?_⟩
    refine ⟨(i == 2), ⟨i, 2, e, rfl, (st 2 (by decide)).symm⟩, ?_⟩
    refine ⟨(i == 3), ⟨i, 3, e, rfl, (st 3 (by decide)).symm⟩, ?_⟩
    refine ⟨Nat.le_of_ble_eq_true rfl, ?_⟩
    refine ⟨(i == 4), ⟨i, 4, e, rfl, (st 4 (by decide)).symm⟩, ?_⟩
    refine ⟨(i == 5), ⟨i, 5, e, rfl, (st 5 (by decide)).symm⟩, ?_⟩
    refine ⟨(i == 6), ⟨i, 6, e, rfl, (st 6 (by decide)).symm⟩, ?_⟩
    refine ⟨(i == 7), ⟨i, 7, e, rfl, (st 7 (by decide)).symm⟩, ?_⟩
    refine ⟨Nat.le_of_ble_eq_true rfl, ?_⟩
    refine ⟨Nat.le_of_ble_eq_true rfl, ?_⟩
    refine ⟨(i == 8), ⟨i, 8, e, rfl, (st 8 (by decide)).symm⟩, ?_⟩
    refine ⟨(i == 9), ⟨i, 9, e, rfl, (st 9 (by decide)).symm⟩, ?_⟩
    refine ⟨(i == 10), ⟨i, 10, e, rfl, (st 10 (by decide)).symm⟩, ?_⟩
    refine ⟨(i == 11), ⟨i, 11, e, rfl, (st 11 (by decide)).symm⟩, ?_⟩
    refine ⟨Nat.le_of_ble_eq_true rfl, ?_⟩
    refine ⟨Nat.le_of_ble_eq_true rfl, ?_⟩
    refine ⟨(i == 12), ⟨i, 12, e, rfl, (st 12 (by decide)).symm⟩, ?_⟩
    refine ⟨(i == 13), ⟨i, 13, e, rfl, (st 13 (by decide)).symm⟩, ?_⟩
    refine ⟨(i == 14), ⟨i, 14, e, rfl, (st 14 (by decide)).symm⟩, ?_⟩
    refine ⟨(i == 15), ⟨i, 15, e, rfl, (st 15 (by decide)).symm⟩, ?_⟩
    refine ⟨Nat.le_of_ble_eq_true rfl, ?_⟩
    refine ⟨Nat.le_of_ble_eq_true rfl, ?_⟩
    refine ⟨(i == 16), ⟨i, 16, e, rfl, (st 16 (by decide)).symm⟩, ?_⟩
    refine ⟨(i == 17), ⟨i, 17, e, rfl, (st 17 (by decide)).symm⟩, ?_⟩
    refine ⟨(i == 18), ⟨i, 18, e, rfl, (st 18 (by decide)).symm⟩, ?_⟩
    refine ⟨(i == 19), ⟨i, 19, e, rfl, (st 19 (by decide)).symm⟩, ?_⟩
    refine ⟨Nat.le_of_ble_eq_true rfl, ?_⟩
    refine ⟨Nat.le_of_ble_eq_true rfl, ?_⟩
    refine ⟨(i == 20), ⟨i, 20, e, rfl, (st 20 (by decide)).symm⟩, ?_⟩
    refine ⟨(i == 21), ⟨i, 21, e, rfl, (st 21 (by decide)).symm⟩, ?_⟩
    refine ⟨(i == 22), ⟨i, 22, e, rfl, (st 22 (by decide)).symm⟩, ?_⟩
    refine ⟨(i == 23), ⟨i, 23, e, rfl, (st 23 (by decide)).symm⟩, ?_⟩
    refine ⟨Nat.le_of_ble_eq_true rfl, ?_⟩
    refine ⟨Nat.le_of_ble_eq_true rfl, ?_⟩
    refine ⟨(i == 24), ⟨i, 24, e, rfl, (st 24 (by decide)).symm⟩, ?_⟩
    refine ⟨(i == 25), ⟨i, 25, e, rfl, (st 25 (by decide)).symm⟩, ?_⟩
    refine ⟨(i == 26), ⟨i, 26, e, rfl, (st 26 (by decide)).symm⟩, ?_⟩
    refine ⟨Nat.le_of_ble_eq_true rfl, ?_⟩
    refine ⟨Nat.le_of_ble_eq_true rfl, ?_⟩
    refine ⟨(i == 27), ⟨i, 27, e, rfl, (st 27 (by decide)).symm⟩, ?_⟩
    refine ⟨(i == 28), ⟨i, 28, e, rfl, (st 28 (by decide)).symm⟩, ?_⟩
    refine ⟨(i == 29), ⟨i, 29, e, rfl, (st 29 (by decide)).symm⟩, ?_⟩
    refine ⟨Nat.le_of_ble_eq_true rfl, ?_⟩
    refine ⟨Nat.le_of_ble_eq_true rfl, ?_⟩
    refine ⟨(i == 30), ⟨i, 30, e, rfl, (st 30 (by decide)).symm⟩, ?_⟩
    refine ⟨(i == 31), ⟨i, 31, e, rfl, (st 31 (by decide)).symm⟩, ?_⟩
    refine ⟨(i == 32), ⟨i, 32, e, rfl, (st 32 (by decide)).symm⟩, ?_⟩
    refine ⟨Nat.le_of_ble_eq_true rfl, ?_⟩
    refine ⟨Nat.le_of_ble_eq_true rfl, ?_⟩
    refine ⟨(i == 33), ⟨i, 33, e, rfl, (st 33 (by decide)).symm⟩, ?_⟩
    refine ⟨(i == 34), ⟨i, 34, e, rfl, (st 34 (by decide)).symm⟩, ?_⟩
    refine ⟨(i == 35), ⟨i, 35, e, rfl, (st 35 (by decide)).symm⟩, ?_⟩
    refine ⟨(i == 36), ⟨i, 36, e, rfl, (st 36 (by decide)).symm⟩, ?_⟩
    refine ⟨Nat.le_of_ble_eq_true rfl, ?_⟩
    refine ⟨Nat.le_of_ble_eq_true rfl, ?_⟩
    exact h
  · exact h.elim
theorem ok__law_roots (T : Txt P K mg a) : FnOk P w K mg base (L2.CX P w) 1 a.f__law_roots a.d__law_roots ["_law_e"] ((c_roots a).sp K) := by
  refine fn_ok (c_roots a) T.f__law_roots.F sc__law_roots rfl (fun cdv A outer s H E xw hr po => ⟨_, _, (pdss_cons (pds_set (i := 1) (pd_lst (pda_cons (pd_callB call_isX (oc_isTab T.tab) T.n_isinstance (by decide +kernel) (pda_cons (pd_v 0) (pda_cons (pd_ty (T := "ValueError") T.n_ValueError (by decide +kernel)) pda_nil))) (pda_cons (pd_callB call_isX (oc_isTab T.tab) T.n_isinstance (by decide +kernel) (pda_cons (pd_v 0) (pda_cons (pd_ty (T := "KeyError") T.n_KeyError (by decide +kernel)) pda_nil))) (pda_cons (pd_callB call_isX (oc_isTab T.tab) T.n_isinstance (by decide +kernel) (pda_cons (pd_v 0) (pda_cons (pd_ty (T := "RuntimeError") T.n_RuntimeError (by decide +kernel)) pda_nil))) pda_nil)))) sc__law_roots.nd)
  (pdss_one (pds_ret (pd_add (pd_v 1) (pd_lst (pda_cons (pd_callB call_isX (oc_isTab T.tab) T.n_isinstance (by decide +kernel) (pda_cons (pd_v 0) (pda_cons (pd_cls T.x_RoomError.gC) pda_nil))) (pda_cons (pd_callB call_isX (oc_isTab T.tab) T.n_isinstance (by decide +kernel) (pda_cons (pd_v 0) (pda_cons (pd_cls T.x_NoEntry.gC) pda_nil))) pda_nil))))))), ?_⟩)
  intro ss kk xx hl h _
  unfold c_roots at h
  dsimp only at h
  split at h
  · rename_i C fs
    obtain ⟨i, hi, e, h⟩ := h
    refine ⟨_, ⟨i, 37, e, rfl, rfl⟩, ?_⟩
    refine ⟨_, ⟨i, 38, e, rfl, rfl⟩, ?_⟩
    refine ⟨_, ⟨i, 39, e, rfl, rfl⟩, ?_⟩
    refine ⟨Nat.le_of_ble_eq_true rfl, ?_⟩
    refine ⟨_, ⟨i, 40, e, rfl, rfl⟩, ?_⟩
    refine ⟨_, ⟨i, 41, e, rfl, rfl⟩, ?_⟩
    refine ⟨Nat.le_of_ble_eq_true rfl, ?_⟩
    refine ⟨Nat.le_of_ble_eq_true rfl, ?_⟩
    exact h
  · exact h.elim
theorem ok__law_values (T : Txt P K mg a) : FnOk P w K mg base (L2.CX P w) 2 a.f__law_values a.d__law_values ["_law_value"] ((c_values a).sp K) := by
  refine fn_ok (c_values a) T.f__law_values.F sc__law_values rfl (fun cdv A outer s H E xw hr po => ⟨_, _, (pdss_cons (pds_set (i := 1) (pd_lst (pda_cons (pd_mkE1 (PySem.EvX.newF_of PySem.F.excBase_ValueError) PySem.EvX.ini_VE PySem.EvX.tail_VE T.ini_RoomError T.x_BadText hr (pda_cons (pd_v 0) pda_nil)) (pda_cons (pd_mkE1 (PySem.EvX.newF_of PySem.F.excBase_ValueError) PySem.EvX.ini_VE PySem.EvX.tail_VE T.ini_RoomError T.x_BadCount hr (pda_cons (pd_v 0) pda_nil)) (pda_cons (pd_mkE1 (PySem.EvX.newF_of PySem.F.excBase_ValueError) PySem.EvX.ini_VE PySem.EvX.tail_VE T.ini_RoomError T.x_BadRow hr (pda_cons (pd_v 0) pda_nil)) (pda_cons (pd_mkE1 (PySem.EvX.newF_of PySem.F.excBase_ValueError) PySem.EvX.ini_VE PySem.EvX.tail_VE T.ini_RoomError T.x_BadNumber hr (pda_cons (pd_v 0) pda_nil)) (pda_cons (pd_mkE1 (PySem.EvX.newF_of PySem.F.excBase_ValueError) PySem.EvX.ini_VE PySem.EvX.tail_VE T.ini_RoomError T.x_BadNet hr (pda_cons (pd_v 0) pda_nil)) (pda_cons (pd_mkE1 (PySem.EvX.newF_of PySem.F.excBase_ValueError) PySem.EvX.ini_VE PySem.EvX.tail_VE T.ini_RoomError T.x_BadRooms hr (pda_cons (pd_v 0) pda_nil)) pda_nil))))))) sc__law_values.nd)
  (pdss_cons (pds_set (i := 1) (pd_add (pd_v 1) (pd_lst (pda_cons (pd_mkE1 (PySem.EvX.newF_of PySem.F.excBase_ValueError) PySem.EvX.ini_VE PySem.EvX.tail_VE T.ini_RoomError T.x_Small hr (pda_cons (pd_v 0) pda_nil)) (pda_cons (pd_mkE1 (PySem.EvX.newF_of PySem.F.excBase_ValueError) PySem.EvX.ini_VE PySem.EvX.tail_VE T.ini_RoomError T.x_BadGroup hr (pda_cons (pd_v 0) pda_nil)) (pda_cons (pd_mkE1 (PySem.EvX.newF_of PySem.F.excBase_ValueError) PySem.EvX.ini_VE PySem.EvX.tail_VE T.ini_RoomError T.x_NoKnot hr (pda_cons (pd_v 0) pda_nil)) (pda_cons (pd_mkE1 (PySem.EvX.newF_of PySem.F.excBase_ValueError) PySem.EvX.ini_VE PySem.EvX.tail_VE T.ini_RoomError T.x_BadCourse hr (pda_cons (pd_v 0) pda_nil)) (pda_cons (pd_mkE1 (PySem.EvX.newF_of PySem.F.excBase_ValueError) PySem.EvX.ini_VE PySem.EvX.tail_VE T.ini_RoomError T.x_NotRight hr (pda_cons (pd_v 0) pda_nil)) (pda_cons (pd_mkE1 (PySem.EvX.newF_of PySem.F.excBase_ValueError) PySem.EvX.ini_VE PySem.EvX.tail_VE T.ini_RoomError T.x_BadPrices hr (pda_cons (pd_v 0) pda_nil)) pda_nil)))))))) sc__law_values.nd)
  (pdss_cons (pds_set (i := 1) (pd_add (pd_v 1) (pd_lst (pda_cons (pd_mkE1 (PySem.EvX.newF_of PySem.F.excBase_ValueError) PySem.EvX.ini_VE PySem.EvX.tail_VE T.ini_RoomError T.x_BadList hr (pda_cons (pd_v 0) pda_nil)) (pda_cons (pd_mkE1 (PySem.EvX.newF_of PySem.F.excBase_ValueError) PySem.EvX.ini_VE PySem.EvX.tail_VE T.ini_RoomError T.x_BadVector hr (pda_cons (pd_v 0) pda_nil)) (pda_cons (pd_mkE1 (PySem.EvX.newF_of PySem.F.excBase_ValueError) PySem.EvX.ini_VE PySem.EvX.tail_VE T.ini_RoomError T.x_NotSo hr (pda_cons (pd_v 0) pda_nil)) (pda_cons (pd_mkE1 (PySem.EvX.newF_of PySem.F.excBase_ValueError) PySem.EvX.ini_VE PySem.EvX.tail_VE T.ini_RoomError T.x_BadLine hr (pda_cons (pd_v 0) pda_nil)) (pda_cons (pd_mkE1 (PySem.EvX.newF_of PySem.F.excBase_ValueError) PySem.EvX.ini_VE PySem.EvX.tail_VE T.ini_RoomError T.x_BadPaper hr (pda_cons (pd_v 0) pda_nil)) (pda_cons (pd_mkE1 (PySem.EvX.newF_of PySem.F.excBase_ValueError) PySem.EvX.ini_VE PySem.EvX.tail_VE T.ini_RoomError T.x_BadPolicy hr (pda_cons (pd_v 0) pda_nil)) pda_nil)))))))) sc__law_values.nd)
  (pdss_cons (pds_set (i := 1) (pd_add (pd_v 1) (pd_lst (pda_cons (pd_mkE1 (PySem.EvX.newF_of PySem.F.excBase_ValueError) PySem.EvX.ini_VE PySem.EvX.tail_VE T.ini_RoomError T.x_NoBeat hr (pda_cons (pd_v 0) pda_nil)) (pda_cons (pd_mkE1 (PySem.EvX.newF_of PySem.F.excBase_ValueError) PySem.EvX.ini_VE PySem.EvX.tail_VE T.ini_RoomError T.x_BadPace hr (pda_cons (pd_v 0) pda_nil)) (pda_cons (pd_mkE1 (PySem.EvX.newF_of PySem.F.excBase_ValueError) PySem.EvX.ini_VE PySem.EvX.tail_VE T.ini_RoomError T.x_BadBeats hr (pda_cons (pd_v 0) pda_nil)) (pda_cons (pd_mkE1 (PySem.EvX.newF_of PySem.F.excBase_ValueError) PySem.EvX.ini_VE PySem.EvX.tail_VE T.ini_RoomError T.x_BadChange hr (pda_cons (pd_v 0) pda_nil)) (pda_cons (pd_mkE1 (PySem.EvX.newF_of PySem.F.excBase_ValueError) PySem.EvX.ini_VE PySem.EvX.tail_VE T.ini_RoomError T.x_BadSeeds hr (pda_cons (pd_v 0) pda_nil)) (pda_cons (pd_mkE1 (PySem.EvX.newF_of PySem.F.excBase_ValueError) PySem.EvX.ini_VE PySem.EvX.tail_VE T.ini_RoomError T.x_BadValue hr (pda_cons (pd_v 0) pda_nil)) pda_nil)))))))) sc__law_values.nd)
  (pdss_one (pds_ret (pd_add (pd_v 1) (pd_lst (pda_cons (pd_mkE1 (PySem.EvX.newF_of PySem.F.excBase_ValueError) PySem.EvX.ini_VE PySem.EvX.tail_VE T.ini_RoomError T.x_BadEntries hr (pda_cons (pd_v 0) pda_nil)) (pda_cons (pd_mkE1 (PySem.EvX.newF_of PySem.F.excBase_ValueError) PySem.EvX.ini_VE PySem.EvX.tail_VE T.ini_RoomError T.x_BadJournal hr (pda_cons (pd_v 0) pda_nil)) (pda_cons (pd_mkE1 (PySem.EvX.newF_of PySem.F.excBase_ValueError) PySem.EvX.ini_VE PySem.EvX.tail_VE T.ini_RoomError T.x_BadEvent hr (pda_cons (pd_v 0) pda_nil)) (pda_cons (pd_mkE1 (PySem.EvX.newF_of PySem.F.excBase_ValueError) PySem.EvX.ini_VE PySem.EvX.tail_VE T.ini_RoomError T.x_BadEvents hr (pda_cons (pd_v 0) pda_nil)) (pda_cons (pd_mkE1 (PySem.EvX.newF_of PySem.F.excBase_ValueError) PySem.EvX.ini_VE PySem.EvX.tail_VE T.ini_RoomError T.x_BadPlan hr (pda_cons (pd_v 0) pda_nil)) (pda_cons (pd_mkE1 (PySem.EvX.newF_of PySem.F.excBase_ValueError) PySem.EvX.ini_VE PySem.EvX.tail_VE T.ini_RoomError T.x_BadQuestion hr (pda_cons (pd_v 0) pda_nil)) pda_nil)))))))))))))), ?_⟩)
  intro ss kk xx hl h _
  unfold c_values at h
  dsimp only at h
  split at h
  · rename_i v
    refine ⟨Nat.le_of_ble_eq_true rfl, ?_⟩
    refine ⟨Nat.le_of_ble_eq_true rfl, ?_⟩
    refine ⟨Nat.le_of_ble_eq_true rfl, ?_⟩
    refine ⟨Nat.le_of_ble_eq_true rfl, ?_⟩
    refine ⟨Nat.le_of_ble_eq_true rfl, ?_⟩
    refine ⟨Nat.le_of_ble_eq_true rfl, ?_⟩
    refine ⟨Nat.le_of_ble_eq_true rfl, ?_⟩
    refine ⟨Nat.le_of_ble_eq_true rfl, ?_⟩
    refine ⟨Nat.le_of_ble_eq_true rfl, ?_⟩
    exact h
  · exact h.elim
-- SPLIT
theorem ok__law_pool (T : Txt P K mg a) : FnOk P w K mg base (L2.CX P w) 1 a.f__law_pool a.d__law_pool ["_law_script", "_law_k"] (spPool K) := by
  refine T.f__law_pool.F.okX sc__law_pool (fun vs H Q E h => ?_) (fun cdv A outer s H vs Q E hr h => ?_)
  · obtain ⟨_, _, _, _, _, _, rfl, _⟩ := h
    rfl
  · obtain ⟨c, ad, ns, j, eK, hi, rfl, hS, hl, h0, h1, k⟩ := h
    refine ⟨_, pss_cons (ps_set (i := 2) sc__law_pool.nd rfl (.inl rfl) pe_int)
      (pss_cons (ps_if (pt_cmpR op_lt (pv 1) (pe_callB call_len_seq (by rfl) T.n_len PySem.boot_len (pa_cons (pv 0) pa_nil)) (nomark _)) (pss_one (ps_set (i := 2) sc__law_pool.nd rfl (.inl rfl) (pe_ix ix_list (pv 0) (pv 1) (fun _ _ => rfl)))) pss_nil)
      (pss_cons (ps_set (i := 3) sc__law_pool.nd rfl (.inl rfl) (pe_op op_mod (pe_op op_mulW (pe_op op_add (pe_op op_add (pe_op op_mod (pv 2) pe_int) (pe_op op_mulW (pe_op op_mulW pe_int (pv 1)) (pv 1))) pe_int) pe_int) pe_int))
      (pss_cons (ps_if (pt_cmpR op_lt (pv 2) (pe_op op_pow pe_int pe_int) (nomark _)) (pss_one (ps_set (i := 2) sc__law_pool.nd rfl (.inl rfl) pe_int)) pss_nil)
      (pss_one (ps_ret (pe_lst (pa_cons (pv 2) (pa_cons (pe_op op_add (pe_op op_mod (pe_op op_mulW (pv 3) (pv 3)) pe_int) pe_int) pa_nil)))))))), ?_⟩
    have b1 : (j.natAbs : Int) < 100 := by omega
    have j7 : j.natAbs < 2 ^ 7 := by omega
    have e1 : CMulW 7919 j := mulW_of (a := 13) (b := 7) (by decide) j7 (by decide) (by decide) (by decide)
    have e2 : CMulW (7919 * j) j := mulW_of (a := 20) (b := 7) (by omega) j7 (by decide) (by decide) (by decide)
    have s0 : 0 ≤ 7919 * j * j := Int.mul_nonneg (by omega) h0
    have s1 : 7919 * j * j ≤ 7919 * 100 * 100 := Int.mul_le_mul (by omega) (by omega) h0 (by decide)
    have e3 : ∀ cell : Int, CMulW (cell % 2147483629 + 7919 * j * j + 13) 48271 := fun cell => by
      have n0 : 0 ≤ cell % 2147483629 := Int.emod_nonneg _ (by decide)
      have n1 : cell % 2147483629 < 2147483629 := Int.emod_lt_of_pos _ (by decide)
      exact mulW_of (a := 33) (b := 16) (by omega) (by decide) (by decide) (by decide) (by decide)
    have mm : ∀ x m : Int, 0 < m → 0 ≤ x % m ∧ x % m < m := fun x m hm => ⟨Int.emod_nonneg _ (by omega), Int.emod_lt_of_pos _ hm⟩
    have e4 : ∀ x : Int, CMulW (x % 2147483647) (x % 2147483647) := fun x => by
      obtain ⟨m0, m1⟩ := mm x 2147483647 (by decide)
      exact mulW_of (a := 33) (b := 33) (by omega) (by omega) (by decide) (by decide) (by decide)
    have fin : ∀ (p : Addr) (cell x : Int), H p = none → Q (.ref p) (upd H p (.lst [.int cell, .int (x % 2147483587 + 1)])) := fun p cell x np => by
      obtain ⟨m0, m1⟩ := mm x 2147483587 (by decide)
      exact k p _ _ np (by omega) (by omega)
    refine ⟨_, rfl, _, rfl, ad, _, rfl, .inl hS, _, _, rfl, rfl, _, rfl, ?_⟩
    refine ite2 (fun hlt => ?_) (fun _ => ?_)
    · have lt : j < (ns.length : Int) := by simpa using hlt
      have lj : j.toNat < ns.length := by omega
      have at_ : atI (ns.map V.int) j = some (V.int ns[j.toNat]) := by
        have z := atI_nat (xs := ns.map V.int) (j := j.toNat) (v := V.int ns[j.toNat]) (by rw [List.getElem?_map, List.getElem?_eq_getElem lj]; rfl)
        rwa [Int.toNat_of_nonneg h0] at z
      refine ⟨_, rfl, _, rfl, ad, _, j, _, rfl, rfl, hS, at_, ?_⟩
      refine ⟨_, rfl, _, _, rfl, rfl, (by show (0 : Int) < 2147483629; decide), _, rfl, _, _, rfl, rfl, e1, _, rfl, _, _, rfl, rfl, e2, _, _, rfl, rfl, _, _, rfl, rfl, _, _, rfl, rfl, e3 _, _, _, rfl, rfl, (by show (0 : Int) < 2147483647; decide), ?_⟩
      refine ⟨_, rfl, _, _, rfl, rfl, ⟨by decide, by decide, by decide⟩, _, _, rfl, rfl, _, rfl, ?_⟩
      refine ite2 (fun _ => ?_) (fun _ => ?_)
      · exact ⟨_, rfl, _, rfl, _, rfl, _, _, rfl, rfl, e4 _, _, _, rfl, rfl, (by show (0 : Int) < 2147483587; decide), _, _, rfl, rfl, (by show 2 ≤ sizeLine; decide), fun p np => fin p _ _ np⟩
      · exact ⟨_, rfl, _, rfl, _, rfl, _, _, rfl, rfl, e4 _, _, _, rfl, rfl, (by show (0 : Int) < 2147483587; decide), _, _, rfl, rfl, (by show 2 ≤ sizeLine; decide), fun p np => fin p _ _ np⟩
    · refine ⟨_, rfl, _, _, rfl, rfl, (by show (0 : Int) < 2147483629; decide), _, rfl, _, _, rfl, rfl, e1, _, rfl, _, _, rfl, rfl, e2, _, _, rfl, rfl, _, _, rfl, rfl, _, _, rfl, rfl, e3 _, _, _, rfl, rfl, (by show (0 : Int) < 2147483647; decide), ?_⟩
      refine ⟨_, rfl, _, _, rfl, rfl, ⟨by decide, by decide, by decide⟩, _, _, rfl, rfl, _, rfl, ?_⟩
      refine ite2 (fun _ => ?_) (fun _ => ?_)
      · exact ⟨_, rfl, _, rfl, _, rfl, _, _, rfl, rfl, e4 _, _, _, rfl, rfl, (by show (0 : Int) < 2147483587; decide), _, _, rfl, rfl, (by show 2 ≤ sizeLine; decide), fun p np => fin p _ _ np⟩
      · exact ⟨_, rfl, _, rfl, _, rfl, _, _, rfl, rfl, e4 _, _, _, rfl, rfl, (by show (0 : Int) < 2147483587; decide), _, _, rfl, rfl, (by show 2 ≤ sizeLine; decide), fun p np => fin p _ _ np⟩
theorem ok__law_take (T : Txt P K mg a) : FnOk P w K mg base (L2.CX P w) 1 a.f__law_take a.d__law_take ["_law_pool_here", "_law_many"] (cTake.sp K) := by
  refine T.f__law_take.F.okX sc__law_take (fun vs H Q E h => ?_) (fun cdv A outer s H vs Q E hr h => ?_)
  · obtain ⟨_, ss, _, _, r, hl, _⟩ := h
    rw [paired_len r, hl]
    rfl
  · obtain ⟨c, ss, eK, hi, r, hl, hf⟩ := h
    unfold cTake at hf
    dsimp only at hf
    split at hf
    · rename_i m
      obtain ⟨m0, m9, k⟩ := hf
      obtain ⟨v, w', rfl, ⟨p, ep, hp⟩, r2⟩ := paired2 r
      cases ep
      have e2 := sl_int r2
      subst e2
      obtain ⟨l, hH, x, y, rfl, y0, y1⟩ := c.plAt hi hp
      have sq : ∀ {H' : Hp} {x y : Int}, H' p = some (.lst [.int x, .int y]) → SqL K H' p [.int x, .int y] := fun h => .inl (.inl h)
      have div9 : CDivW x m := ⟨m0, m9⟩
      refine ⟨_, pss_cons (ps_if (pt_cmpR op_gt (pe_ix ix_list (pv 0) pe_int (fun _ _ => rfl)) pe_int (nomark _))
          (pss_cons (ps_set (i := 2) sc__law_take.nd rfl (.inl rfl) (pe_op op_mod (pe_ix ix_list (pv 0) pe_int (fun _ _ => rfl)) (pv 1)))
            (pss_cons (ps_asg (pe_op op_fdivW (pe_ix ix_list (pv 0) pe_int (fun _ _ => rfl)) (pv 1)) (pg_sub (pv 0) pe_int set_list)) (pss_one (ps_ret (pv 2))))) pss_nil)
        (pss_cons (ps_asg (pe_op op_mod (pe_op op_add (pe_op op_mulW (pe_ix ix_list (pv 0) pe_int (fun _ _ => rfl)) pe_int) pe_int) pe_int) (pg_sub (pv 0) pe_int set_list))
          (pss_one (ps_ret (pe_op op_mod (pe_op op_fdivW (pe_op op_mod (pe_op op_mulW (pe_ix ix_list (pv 0) pe_int (fun _ _ => rfl)) (pe_ix ix_list (pv 0) pe_int (fun _ _ => rfl))) pe_int) pe_int) (pv 1))))), ?_⟩
      refine ⟨_, rfl, p, _, 0, _, rfl, rfl, sq hH, rfl, _, _, rfl, rfl, _, rfl, ?_⟩
      refine ite2 (fun _ => ?_) (fun _ => ?_)
      · refine ⟨_, rfl, p, _, 0, _, rfl, rfl, sq hH, rfl, _, rfl, _, _, rfl, rfl, m0, _, rfl, p, _, 0, _, rfl, rfl, sq hH, rfl, _, rfl, _, _, rfl, rfl, div9, _, rfl, p, _, 0, 0, rfl, rfl, hH, rfl, ?_⟩
        refine ⟨_, rfl, ?_⟩
        exact k _ (Int.emod_nonneg _ (by omega)) (Int.emod_lt_of_pos _ m0) _ _ ⟨fun b o nb _ eb => by
          rw [upd_ne (fun z => nb (by rw [z]; exact c.plG hp))]
          exact eb, c.plPut hi hp ⟨_, y, rfl, y0, y1⟩⟩ ⟨_, rfl, .int _⟩
      · have q0 := Int.emod_nonneg (y * 48271 + 11) (b := 2147483647) (by decide)
        have q1 := Int.emod_lt_of_pos (y * 48271 + 11) (b := 2147483647) (by decide)
        refine ⟨_, rfl, p, _, 1, _, rfl, rfl, sq hH, rfl, _, _, rfl, rfl, mulW_of (a := 33) (b := 16) (by omega) (by decide) (by decide) (by decide) (by decide), _, _, rfl, rfl, _, _, rfl, rfl, (by show (0 : Int) < 2147483647; decide), _, rfl, p, _, 1, 1, rfl, rfl, hH, rfl, ?_⟩
        have hH2 : upd H p (.lst [.int x, .int ((y * 48271 + 11) % 2147483647)]) p = some (.lst [.int x, .int ((y * 48271 + 11) % 2147483647)]) := upd_same
        refine ⟨_, rfl, p, _, 1, _, rfl, rfl, sq hH2, rfl, _, rfl, p, _, 1, _, rfl, rfl, sq hH2, rfl, _, _, rfl, rfl, mulW_of (a := 33) (b := 33) (by omega) (by omega) (by decide) (by decide) (by decide), _, _, rfl, rfl, (by show (0 : Int) < 2147483629; decide), _, _, rfl, rfl, ⟨by decide, by decide⟩, _, rfl, _, _, rfl, rfl, m0, ?_⟩
        exact k _ (Int.emod_nonneg _ (by omega)) (Int.emod_lt_of_pos _ m0) _ _ ⟨fun b o nb _ eb => by
          rw [upd_ne (fun z => nb (by rw [z]; exact c.plG hp))]
          exact eb, c.plPut hi hp ⟨x, _, rfl, q0, by omega⟩⟩ ⟨_, rfl, .int _⟩
    · exact hf.elim
-- SPLIT
/-- what the law makes of a value -/
def made (a : Ad) (v : D) : List D := (((csE a).take 30).map fun C => .exn C [("value", v)]) ++ [.exn a.C_NoProcess [("value", v)], .exn a.C_NoChannel [("value", v)], .exn a.C_NoStore [("value", v)]] ++ [.exn a.C_Refused [("value", v), ("word", .str "full")], .exn a.C_TooLong [], .exn a.C_TooMany [], .exn a.C_NotStraight []]
theorem made_at (a : Ad) (v : D) (n : Nat) (h : n < 37) : ∃ C fs, (made a v)[n]? = some (.exn C fs) ∧ (csE a)[n]? = some C ∧ (n < 34 → C ∈ csE_value a ∧ List.lookup ("value" : Str) fs = some v) := by
  match n, h with
  | 0, _ => exact ⟨_, _, rfl, rfl, fun _ => ⟨List.mem_of_getElem? (i := 1) rfl, rfl⟩⟩
  | 1, _ => exact ⟨_, _, rfl, rfl, fun _ => ⟨List.mem_of_getElem? (i := 2) rfl, rfl⟩⟩
  | 2, _ => exact ⟨_, _, rfl, rfl, fun _ => ⟨List.mem_of_getElem? (i := 3) rfl, rfl⟩⟩
  | 3, _ => exact ⟨_, _, rfl, rfl, fun _ => ⟨List.mem_of_getElem? (i := 4) rfl, rfl⟩⟩
  | 4, _ => exact ⟨_, _, rfl, rfl, fun _ => ⟨List.mem_of_getElem? (i := 5) rfl, rfl⟩⟩
  | 5, _ => exact ⟨_, _, rfl, rfl, fun _ => ⟨List.mem_of_getElem? (i := 6) rfl, rfl⟩⟩
  | 6, _ => exact ⟨_, _, rfl, rfl, fun _ => ⟨List.mem_of_getElem? (i := 7) rfl, rfl⟩⟩
  | 7, _ => exact ⟨_, _, rfl, rfl, fun _ => ⟨List.mem_of_getElem? (i := 8) rfl, rfl⟩⟩
  | 8, _ => exact ⟨_, _, rfl, rfl, fun _ => ⟨List.mem_of_getElem? (i := 9) rfl, rfl⟩⟩
  | 9, _ => exact ⟨_, _, rfl, rfl, fun _ => ⟨List.mem_of_getElem? (i := 10) rfl, rfl⟩⟩
  | 10, _ => exact ⟨_, _, rfl, rfl, fun _ => ⟨List.mem_of_getElem? (i := 13) rfl, rfl⟩⟩
  | 11, _ => exact ⟨_, _, rfl, rfl, fun _ => ⟨List.mem_of_getElem? (i := 11) rfl, rfl⟩⟩
  | 12, _ => exact ⟨_, _, rfl, rfl, fun _ => ⟨List.mem_of_getElem? (i := 12) rfl, rfl⟩⟩
  | 13, _ => exact ⟨_, _, rfl, rfl, fun _ => ⟨List.mem_of_getElem? (i := 19) rfl, rfl⟩⟩
  | 14, _ => exact ⟨_, _, rfl, rfl, fun _ => ⟨List.mem_of_getElem? (i := 20) rfl, rfl⟩⟩
  | 15, _ => exact ⟨_, _, rfl, rfl, fun _ => ⟨List.mem_of_getElem? (i := 21) rfl, rfl⟩⟩
  | 16, _ => exact ⟨_, _, rfl, rfl, fun _ => ⟨List.mem_of_getElem? (i := 22) rfl, rfl⟩⟩
  | 17, _ => exact ⟨_, _, rfl, rfl, fun _ => ⟨List.mem_of_getElem? (i := 23) rfl, rfl⟩⟩
  | 18, _ => exact ⟨_, _, rfl, rfl, fun _ => ⟨List.mem_of_getElem? (i := 24) rfl, rfl⟩⟩
  | 19, _ => exact ⟨_, _, rfl, rfl, fun _ => ⟨List.mem_of_getElem? (i := 25) rfl, rfl⟩⟩
  | 20, _ => exact ⟨_, _, rfl, rfl, fun _ => ⟨List.mem_of_getElem? (i := 26) rfl, rfl⟩⟩
  | 21, _ => exact ⟨_, _, rfl, rfl, fun _ => ⟨List.mem_of_getElem? (i := 27) rfl, rfl⟩⟩
  | 22, _ => exact ⟨_, _, rfl, rfl, fun _ => ⟨List.mem_of_getElem? (i := 28) rfl, rfl⟩⟩
  | 23, _ => exact ⟨_, _, rfl, rfl, fun _ => ⟨List.mem_of_getElem? (i := 29) rfl, rfl⟩⟩
  | 24, _ => exact ⟨_, _, rfl, rfl, fun _ => ⟨List.mem_of_getElem? (i := 30) rfl, rfl⟩⟩
  | 25, _ => exact ⟨_, _, rfl, rfl, fun _ => ⟨List.mem_of_getElem? (i := 31) rfl, rfl⟩⟩
  | 26, _ => exact ⟨_, _, rfl, rfl, fun _ => ⟨List.mem_of_getElem? (i := 32) rfl, rfl⟩⟩
  | 27, _ => exact ⟨_, _, rfl, rfl, fun _ => ⟨List.mem_of_getElem? (i := 33) rfl, rfl⟩⟩
  | 28, _ => exact ⟨_, _, rfl, rfl, fun _ => ⟨List.mem_of_getElem? (i := 34) rfl, rfl⟩⟩
  | 29, _ => exact ⟨_, _, rfl, rfl, fun _ => ⟨List.mem_of_getElem? (i := 35) rfl, rfl⟩⟩
  | 30, _ => exact ⟨_, _, rfl, rfl, fun _ => ⟨List.mem_of_getElem? (i := 15) rfl, rfl⟩⟩
  | 31, _ => exact ⟨_, _, rfl, rfl, fun _ => ⟨List.mem_of_getElem? (i := 16) rfl, rfl⟩⟩
  | 32, _ => exact ⟨_, _, rfl, rfl, fun _ => ⟨List.mem_of_getElem? (i := 17) rfl, rfl⟩⟩
  | 33, _ => exact ⟨_, _, rfl, rfl, fun _ => ⟨List.mem_of_getElem? (i := 18) rfl, rfl⟩⟩
  | 34, _ => exact ⟨_, _, rfl, rfl, fun h => absurd h (by decide)⟩
  | 35, _ => exact ⟨_, _, rfl, rfl, fun h => absurd h (by decide)⟩
  | 36, _ => exact ⟨_, _, rfl, rfl, fun h => absurd h (by decide)⟩
  | m + 37, h => exact absurd h (by omega)
theorem ix_l {xs : List D} {n : Nat} {x : D} {k : DK} (e : xs[n]? = some x) (h : k (.d x)) : gIx (.d (.lst xs)) (.d (.int (n : Int))) k := by
  show (match atI xs (n : Int) with | some x => k (.d x) | none => False)
  rw [atI_nat e]
  exact h
theorem lc_filter {i : Nat} {ts : DT} {e : DE} {Γ : Gm} {p : D → Bool} : ∀ (xs : List D) (k : List D → Prop), (∀ x ∈ xs, ∀ k' : Bool → Prop, k' (p x) → ts (Γ.set i (.d x)) k') → (∀ x ∈ xs, ∀ k' : DK, k' (.d x) → e (Γ.set i (.d x)) k') → k (xs.filter p) → lcD i ts e Γ xs k
  | [], k, _, _, h => h
  | x :: r, k, ht, he, h => by
    refine ht x (List.mem_cons_self ..) _ ?_
    have ih := fun k' => lc_filter (p := p) r k' (fun y hy => ht y (List.mem_cons_of_mem _ hy)) (fun y hy => he y (List.mem_cons_of_mem _ hy))
    cases z : p x with
    | true =>
      rw [List.filter_cons_of_pos z] at h
      exact he x (List.mem_cons_self ..) _ (ih _ h)
    | false =>
      rw [List.filter_cons_of_neg (by rw [z]; exact Bool.false_ne_true)] at h
      exact ih _ h
def isAt (n : Nat) : D → Bool
  | .int j => n == j.toNat
  | _ => false
theorem one_at (n : Nat) (h : n < 37) : (intsFrom 0 37).filter (isAt n) = [.int n] := by
  match n, h with
  | 0, _ => rfl
  | 1, _ => rfl
  | 2, _ => rfl
  | 3, _ => rfl
  | 4, _ => rfl
  | 5, _ => rfl
  | 6, _ => rfl
  | 7, _ => rfl
  | 8, _ => rfl
  | 9, _ => rfl
  | 10, _ => rfl
  | 11, _ => rfl
  | 12, _ => rfl
  | 13, _ => rfl
  | 14, _ => rfl
  | 15, _ => rfl
  | 16, _ => rfl
  | 17, _ => rfl
  | 18, _ => rfl
  | 19, _ => rfl
  | 20, _ => rfl
  | 21, _ => rfl
  | 22, _ => rfl
  | 23, _ => rfl
  | 24, _ => rfl
  | 25, _ => rfl
  | 26, _ => rfl
  | 27, _ => rfl
  | 28, _ => rfl
  | 29, _ => rfl
  | 30, _ => rfl
  | 31, _ => rfl
  | 32, _ => rfl
  | 33, _ => rfl
  | 34, _ => rfl
  | 35, _ => rfl
  | 36, _ => rfl
  | m + 37, h => exact absurd h (by omega)
theorem rt_eq (n : Nat) : rt n = [.bl (decide ((n : Int) < 30)), .bl (decide ((30 : Int) ≤ n) && decide ((n : Int) < 33)), .bl (decide ((33 : Int) ≤ n)), .bl (decide ((n : Int) < 30)), .bl (decide ((30 : Int) ≤ n) && decide ((n : Int) < 33))] := by
  unfold rt
  have e1 : decide (n < 30) = decide ((n : Int) < 30) := decide_eq_decide.mpr (by omega)
  have e2 : decide (30 ≤ n) = decide ((30 : Int) ≤ n) := decide_eq_decide.mpr (by omega)
  have e3 : decide (n < 33) = decide ((n : Int) < 33) := decide_eq_decide.mpr (by omega)
  have e4 : decide (33 ≤ n) = decide ((33 : Int) ≤ n) := decide_eq_decide.mpr (by omega)
  rw [e1, e2, e3, e4]
-- SPLIT
theorem ne_no {x : D} {k : Bool → Prop} (o : okD x = true) (h : k false) : okD x = true ∧ okD x = true ∧ k (!deq x x) := by
  refine ⟨o, o, ?_⟩
  rw [deq_self o]
  exact h
theorem e_ix {i j n : Nat} {Γ : Gm} {xs : List D} {x : D} {k : DK} (hi : Γ[i]? = some (.d (.lst xs))) (hj : Γ[j]? = some (.d (.int (n : Int)))) (e : xs[n]? = some x) (h : k (.d x)) : dOp gIx (dVar i) (dVar j) Γ k := by
  unfold dOp dVar
  rw [hi]
  dsimp only
  rw [hj]
  exact ix_l e h
theorem e_ixC {i n : Nat} {Γ : Gm} {xs : List D} {x : D} {k : DK} (hi : Γ[i]? = some (.d (.lst xs))) (e : xs[n]? = some x) (h : k (.d x)) : dOp gIx (dVar i) (dC (.int (n : Int))) Γ k := by
  unfold dOp dVar
  rw [hi]
  exact ix_l e h
theorem s_ix {Ct : Ctr} {t i j n : Nat} {Γ : Gm} {E : DEnds} {rest : DS} {xs : List D} {x : D} (hi : Γ[i]? = some (.d (.lst xs))) (hj : Γ[j]? = some (.d (.int (n : Int)))) (e : xs[n]? = some x)
    (h : [Sl.d x].length = Ct.n ∧ Ct.f [.d x] (fun s => rest E (Γ.set t s)) fun A p => xw0 A p Γ) : dSeq (dAsg t (dCall Ct xw0 (dCons (dOp gIx (dVar i) (dVar j)) dNil))) rest E Γ := e_ix (k := fun s => [s].length = Ct.n ∧ Ct.f [s] (fun s => rest E (Γ.set t s)) fun A p => xw0 A p Γ) hi hj e h
theorem s_r7 {s0 s1 s2 s3 s4 s6 s7 s8 : Sl} {E : DEnds} {rest : DS} (n : Nat) (hn : n < 37) (h : rest E [s0, s1, s2, s3, s4, .d (.int n), s6, .d (.lst (rt n)), s8]) :
    dSeq (dAsg 7 (dLst (dCons (dOp (gI0 fun i j => D.bl (decide (i < j))) (dVar 5) (dC (D.int 30))) (dCons (dChain gLe gLt (dC (D.int 30)) (dVar 5) (dC (D.int 33))) (dCons (dOp (gI0 fun i j => D.bl (decide (j ≤ i))) (dVar 5) (dC (D.int 33))) (dCons (dOp (gI0 fun i j => D.bl (decide (i < j))) (dVar 5) (dC (D.int 30))) (dCons (dChain gLe gLt (dC (D.int 30)) (dVar 5) (dC (D.int 33))) dNil))))))) rest E [s0, s1, s2, s3, s4, .d (.int n), s6, s7, s8] := by
  match n, hn with
  | 0, _ => exact ⟨Nat.le_of_ble_eq_true rfl, h⟩
  | 1, _ => exact ⟨Nat.le_of_ble_eq_true rfl, h⟩
  | 2, _ => exact ⟨Nat.le_of_ble_eq_true rfl, h⟩
  | 3, _ => exact ⟨Nat.le_of_ble_eq_true rfl, h⟩
  | 4, _ => exact ⟨Nat.le_of_ble_eq_true rfl, h⟩
  | 5, _ => exact ⟨Nat.le_of_ble_eq_true rfl, h⟩
  | 6, _ => exact ⟨Nat.le_of_ble_eq_true rfl, h⟩
  | 7, _ => exact ⟨Nat.le_of_ble_eq_true rfl, h⟩
  | 8, _ => exact ⟨Nat.le_of_ble_eq_true rfl, h⟩
  | 9, _ => exact ⟨Nat.le_of_ble_eq_true rfl, h⟩
  | 10, _ => exact ⟨Nat.le_of_ble_eq_true rfl, h⟩
  | 11, _ => exact ⟨Nat.le_of_ble_eq_true rfl, h⟩
  | 12, _ => exact ⟨Nat.le_of_ble_eq_true rfl, h⟩
  | 13, _ => exact ⟨Nat.le_of_ble_eq_true rfl, h⟩
  | 14, _ => exact ⟨Nat.le_of_ble_eq_true rfl, h⟩
  | 15, _ => exact ⟨Nat.le_of_ble_eq_true rfl, h⟩
  | 16, _ => exact ⟨Nat.le_of_ble_eq_true rfl, h⟩
  | 17, _ => exact ⟨Nat.le_of_ble_eq_true rfl, h⟩
  | 18, _ => exact ⟨Nat.le_of_ble_eq_true rfl, h⟩
  | 19, _ => exact ⟨Nat.le_of_ble_eq_true rfl, h⟩
  | 20, _ => exact ⟨Nat.le_of_ble_eq_true rfl, h⟩
  | 21, _ => exact ⟨Nat.le_of_ble_eq_true rfl, h⟩
  | 22, _ => exact ⟨Nat.le_of_ble_eq_true rfl, h⟩
  | 23, _ => exact ⟨Nat.le_of_ble_eq_true rfl, h⟩
  | 24, _ => exact ⟨Nat.le_of_ble_eq_true rfl, h⟩
  | 25, _ => exact ⟨Nat.le_of_ble_eq_true rfl, h⟩
  | 26, _ => exact ⟨Nat.le_of_ble_eq_true rfl, h⟩
  | 27, _ => exact ⟨Nat.le_of_ble_eq_true rfl, h⟩
  | 28, _ => exact ⟨Nat.le_of_ble_eq_true rfl, h⟩
  | 29, _ => exact ⟨Nat.le_of_ble_eq_true rfl, h⟩
  | 30, _ => exact ⟨Nat.le_of_ble_eq_true rfl, h⟩
  | 31, _ => exact ⟨Nat.le_of_ble_eq_true rfl, h⟩
  | 32, _ => exact ⟨Nat.le_of_ble_eq_true rfl, h⟩
  | 33, _ => exact ⟨Nat.le_of_ble_eq_true rfl, h⟩
  | 34, _ => exact ⟨Nat.le_of_ble_eq_true rfl, h⟩
  | 35, _ => exact ⟨Nat.le_of_ble_eq_true rfl, h⟩
  | 36, _ => exact ⟨Nat.le_of_ble_eq_true rfl, h⟩
  | m + 37, hn => exact absurd hn (by omega)
theorem s_i2 {Γ : Gm} {E : DEnds} {rest : DS} {xs : List D} {n : Nat} {C : Addr} {fs : List (Str × D)} (h4 : Γ[4]? = some (.d (.lst xs))) (h5 : Γ[5]? = some (.d (.int (n : Int)))) (h7 : Γ[7]? = some (.d (.lst (rt n)))) (e1 : xs[n]? = some (.exn C fs)) (e2 : (csE a)[n]? = some C) (hn : n < 37) (h : rest E Γ) :
    dSeq (dIfS (dOr (dB (dOp gNe (dCall (c_roots a) xw0 (dCons (dOp gIx (dVar 4) (dVar 5)) dNil)) (dVar 7))) (dNot (dB (dCB (gIsTab (tabR (csE a) (tsE a) exE)) (dCons (dOp gIx (dVar 4) (dVar 5)) (dCons (dR (V.ty "Exception")) dNil)))))) (dRet (dC (D.bl false))) dNext) rest E Γ := by
  have o : okD (.lst (rt n)) = true := rfl
  refine (show dOp gIx (dVar 4) (dVar 5) Γ _ from e_ix h4 h5 e1 ?_)
  refine ⟨rfl, n, hn, e2, ?_⟩
  have e7 : ∀ {k : DK}, k (.d (.lst (rt n))) → dVar 7 Γ k := fun {k} z => by
    unfold dVar
    rw [h7]
    exact z
  refine e7 ?_
  refine ⟨o, o, ?_⟩
  refine (show cond (!deq (.lst (rt n)) (.lst (rt n))) _ _ from ?_)
  rw [deq_self o]
  refine (show dOp gIx (dVar 4) (dVar 5) Γ _ from e_ix h4 h5 e1 ?_)
  exact ⟨_, ⟨n, 42, e2, rfl, rfl⟩, h⟩
theorem s_i3 {Γ : Gm} {E : DEnds} {v : D} {xs : List D} {n : Nat} {C : Addr} {fs : List (Str × D)} (okv : okD v = true) (h3 : Γ[3]? = some (.d v)) (h4 : Γ[4]? = some (.d (.lst xs))) (h5 : Γ[5]? = some (.d (.int (n : Int)))) (e1 : xs[n]? = some (.exn C fs)) (e3 : n < 34 → C ∈ csE_value a ∧ List.lookup ("value" : Str) fs = some v) (h : E.nx Γ) :
    (dIfS (dAnd (dB (dOp (gI0 fun i j => D.bl (decide (i < j))) (dVar 5) (dC (D.int 34)))) (dB (dOp gNe (dFldE (csE_value a) (Str.ofString "value") (dOp gIx (dVar 4) (dVar 5))) (dVar 3)))) (dRet (dC (D.bl false))) dNext) E Γ := by
  have e5 : ∀ {k : Bool → Prop}, k (decide ((n : Int) < 34)) → dB (dOp (gI0 fun i j => D.bl (decide (i < j))) (dVar 5) (dC (D.int 34))) Γ k := fun {k} z => by
    unfold dB dOp dVar
    rw [h5]
    exact z
  show dB (dOp (gI0 fun i j => D.bl (decide (i < j))) (dVar 5) (dC (D.int 34))) Γ (fun b => cond b (dB (dOp gNe (dFldE (csE_value a) (Str.ofString "value") (dOp gIx (dVar 4) (dVar 5))) (dVar 3)) Γ fun v => cond v (dRet (dC (.bl false)) E Γ) (E.nx Γ)) (cond false (dRet (dC (D.bl false)) E Γ) (E.nx Γ)))
  refine e5 ?_
  cases z : decide ((n : Int) < 34) with
  | false => exact h
  | true =>
    obtain ⟨m1, m2⟩ := e3 (by have := of_decide_eq_true z; omega)
    refine (show dOp gIx (dVar 4) (dVar 5) Γ _ from e_ix h4 h5 e1 ?_)
    refine ⟨m1, v, m2, ?_⟩
    have e3' : ∀ {k : DK}, k (.d v) → dVar 3 Γ k := fun {k} z => by
      unfold dVar
      rw [h3]
      exact z
    refine e3' ?_
    refine ⟨okv, okv, ?_⟩
    refine (show cond (!deq v v) _ _ from ?_)
    rw [deq_self okv]
    exact h
theorem law_v {v : D} (okv : okD v = true) (okvv : okD (.lst [v, v]) = true) {s0 s1 s2 s4 s5 s6 s7 s8 : Sl} {E : DEnds} (h : ∀ s4 s5 s6 s7 s8, E.nx [s0, s1, s2, .d v, s4, s5, s6, s7, s8]) : ((dSeq (dAsg 4 (dOp gAdd (dCall (c_values a) xw0 (dCons (dVar 3) dNil)) (dLst (dCons (dMkE1 a.C_NoProcess (dCons (dVar 3) dNil)) (dCons (dMkE1 a.C_NoChannel (dCons (dVar 3) dNil)) (dCons (dMkE1 a.C_NoStore (dCons (dVar 3) dNil)) dNil)))))) (dSeq (dAsg 4 (dOp gAdd (dVar 4) (dLst (dCons (dMkE2 a.C_Refused (dCons (dC (.str "full")) (dCons (dVar 3) dNil))) (dCons (dMkE0 a.C_TooLong) (dCons (dMkE0 a.C_TooMany) (dCons (dMkE0 a.C_NotStraight) dNil))))))) (dSeq (dFor (diRange1 (dCons (dC (.int 37)) dNil)) (dgName 5) (dSeq (dAsg 6 (dCall (c_kinds a) xw0 (dCons (dOp gIx (dVar 4) (dVar 5)) dNil))) (dSeq (dIfS (dB (dOp gNe (dLc 8 (diRange1 (dCons (dC (.int 37)) dNil)) (dB (dOp gIx (dVar 6) (dVar 8))) (dVar 8)) (dLst (dCons (dVar 5) dNil)))) (dRet (dC (.bl false))) dNext) (dSeq (dAsg 7 (dLst (dCons (dOp (gI0 fun i j => .bl (decide (i < j))) (dVar 5) (dC (.int 30))) (dCons (dChain gLe gLt (dC (.int 30)) (dVar 5) (dC (.int 33))) (dCons (dOp (gI0 fun i j => .bl (decide (j ≤ i))) (dVar 5) (dC (.int 33))) (dCons (dOp (gI0 fun i j => .bl (decide (i < j))) (dVar 5) (dC (.int 30))) (dCons (dChain gLe gLt (dC (.int 30)) (dVar 5) (dC (.int 33))) dNil))))))) (dSeq (dIfS (dOr (dB (dOp gNe (dCall (c_roots a) xw0 (dCons (dOp gIx (dVar 4) (dVar 5)) dNil)) (dVar 7))) (dNot (dB (dCB (gIsTab (tabR (csE a) (tsE a) exE)) (dCons (dOp gIx (dVar 4) (dVar 5)) (dCons (dR (.ty "Exception")) dNil)))))) (dRet (dC (.bl false))) dNext) (dIfS (dAnd (dB (dOp (gI0 fun i j => .bl (decide (i < j))) (dVar 5) (dC (.int 34)))) (dB (dOp gNe (dFldE (csE_value a) "value" (dOp gIx (dVar 4) (dVar 5))) (dVar 3)))) (dRet (dC (.bl false))) dNext)))))) (dIfS (dOr (dB (dOp gNe (dFldE (csE_word a) "word" (dOp gIx (dVar 4) (dC (.int 33)))) (dC (.str "full")))) (dB (dOp gNe (dLst (dCons (dFldE (csE_value a) "value" (dMkE1 a.C_NoEntry (dCons (dVar 3) dNil))) (dCons (dFldE (csE_value a) "value" (dMkE1 a.C_RoomError (dCons (dVar 3) dNil))) dNil))) (dLst (dCons (dVar 3) (dCons (dVar 3) dNil)))))) (dRet (dC (.bl false))) dNext)))) : DS) E [s0, s1, s2, .d v, s4, s5, s6, s7, s8] := by
  refine ⟨rfl, ?_⟩
  refine ⟨Nat.le_of_ble_eq_true rfl, ?_⟩
  refine ⟨Nat.le_of_ble_eq_true rfl, ?_⟩
  refine ⟨Nat.le_of_ble_eq_true rfl, ?_⟩
  refine ⟨Nat.le_of_ble_eq_true rfl, ?_⟩
  refine ⟨by decide, ?_⟩
  refine forD_inv (fun Γ => ∃ s5 s6 s7 s8, Γ = [s0, s1, s2, .d v, .d (.lst (made a v)), s5, s6, s7, s8]) ?_ _ ?_ _ ⟨_, _, _, _, rfl⟩
  · rintro Γ ⟨s5, s6, s7, s8, rfl⟩
    refine ⟨List.mem_of_getElem? (i := 0) rfl, _, rfl, ?_⟩
    have of : okD (.str "full") = true := by decide +kernel
    refine ⟨of, of, ?_⟩
    refine (show cond (!deq (.str "full") (.str "full")) _ _ from ?_)
    rw [deq_self of]
    refine ⟨List.mem_of_getElem? (i := 14) rfl, _, rfl, List.mem_of_getElem? (i := 0) rfl, _, rfl, Nat.le_of_ble_eq_true rfl, Nat.le_of_ble_eq_true rfl, okvv, okvv, ?_⟩
    refine (show cond (!deq (.lst [v, v]) (.lst [v, v])) _ _ from ?_)
    rw [deq_self okvv]
    exact h _ _ _ _ _
  · rintro x hx Γ ⟨s5, s6, s7, s8, rfl⟩ N hN
    obtain ⟨i, rfl, i0, i1⟩ := intsFrom_mem hx
    obtain ⟨n, rfl⟩ := Int.eq_ofNat_of_zero_le i0
    have hn : n < 37 := by
      have z : (Int.toNat 37 : Int) = 37 := rfl
      omega
    obtain ⟨C, fs, e1, e2, e3⟩ := made_at a v n hn
    unfold dgName
    refine s_ix (n := n) (xs := made a v) rfl rfl e1 ⟨rfl, n, hn, e2, ?_⟩
    refine ⟨by decide, ?_⟩
    refine ⟨Nat.le_of_ble_eq_true rfl, ?_⟩
    refine lc_filter (p := isAt n) _ _ ?_ ?_ ?_
    · rintro y hy k' h'
      obtain ⟨j, rfl, j0, j1⟩ := intsFrom_mem hy
      obtain ⟨m, rfl⟩ := Int.eq_ofNat_of_zero_le j0
      have hm : m < 37 := by
        have z : (Int.toNat 37 : Int) = 37 := rfl
        omega
      refine e_ix (i := 6) (j := 8) (n := m) (x := .bl (n == m)) (Γ := [s0, s1, s2, .d v, .d (.lst (made a v)), .d (.int n), .d (.lst ((List.range 37).map fun j => .bl (n == j))), s7, .d (.int m)]) (k := fun s => match s with | .d (.bl b) => k' b | _ => False) rfl rfl ?_ h'
      rw [List.getElem?_map, List.getElem?_range hm]
      rfl
    · intro y _ k' h'
      exact h'
    rw [show intsFrom 0 (Int.toNat 37) = intsFrom 0 37 from rfl, one_at n hn]
    refine ⟨Nat.le_of_ble_eq_true rfl, ?_⟩
    refine ⟨rfl, rfl, ?_⟩
    refine (show cond (!deq (.lst [.int n]) (.lst [.int n])) _ _ from ?_)
    rw [deq_self rfl]
    refine s_r7 n hn ?_
    refine s_i2 (n := n) rfl rfl rfl e1 e2 hn ?_
    exact s_i3 (n := n) okv rfl rfl rfl e1 e3 (hN _ ⟨_, _, _, _, rfl⟩)
-- SPLIT
theorem cp9 : CPow 10 9 := by first | exact cpow | (unfold CPow; decide) | decide
theorem ix_s {r : Int} {k : DK} (r0 : 0 ≤ r) (r1 : r < 4) (h : ∀ c : Nat, (c = 97 ∨ c = 98 ∨ c = 99 ∨ c = 100) → k (.d (.str ⟨#[c]⟩))) : gIx (.d (.str "abcd")) (.d (.int r)) k := by
  have z : r = 0 ∨ r = 1 ∨ r = 2 ∨ r = 3 := by omega
  rcases z with rfl | rfl | rfl | rfl <;> exact ⟨by decide, h _ (by decide)⟩
theorem ok_c {c : Nat} (h : c = 97 ∨ c = 98 ∨ c = 99 ∨ c = 100) : okD (.str ⟨#[c]⟩) = true ∧ okD (.lst [.str ⟨#[c]⟩, .str ⟨#[c]⟩]) = true := by
  rcases h with rfl | rfl | rfl | rfl <;> exact ⟨by decide +kernel, by decide +kernel⟩
theorem ok_i (m : Int) : okD (.int m) = true := rfl
theorem ok_ii (m : Int) : okD (.lst [.int m, .int m]) = true := rfl
theorem ok_law (T : Txt P K mg a) : FnOk P w K mg base (L2.CX P w) 6 a.f_law a.d_law ["_law_script"] (cLaw.sp K) := by
  refine fn_ok0 cLaw T.f_law.F sc_law rfl (fun cdv A outer s H E hr po => ⟨_, _, (pdss_cons (pds_for po rfl (pdi_range1 T.n_range (pda_cons (pd_callB (call_max2 rfl) oc_I2 T.n_max (by decide +kernel) (pda_cons pd_int (pda_cons (pd_callB (call_min2 rfl) oc_I2 T.n_min (by decide +kernel) (pda_cons (pd_callB call_len oc_len T.n_len (by decide +kernel) (pda_cons (pd_v 0) pda_nil)) (pda_cons pd_int pda_nil))) pda_nil))) pda_nil)) (pdg_name (i := 1) sc_law.nd)
  (pdss_pool (i := 2) (ok__law_pool T) (hr.mono (by decide)) T.f__law_pool.m T.f__law_pool.F.kp T.f__law_pool.b sc_law.nd (pda_cons (pd_v 0) (pda_cons (pd_v 1) pda_nil))
  (pdss_one (pds_for po rfl (pdi_seq (pd_lst (pda_cons (pd_call (ok__law_take T) (hr.mono (by decide)) T.f__law_take.m T.f__law_take.F.kp T.f__law_take.b (pda_cons (pd_v 2) (pda_cons (pd_pow pd_int pd_int) pda_nil))) (pda_cons (pd_ix pd_str (pd_call (ok__law_take T) (hr.mono (by decide)) T.f__law_take.m T.f__law_take.F.kp T.f__law_take.b (pda_cons (pd_v 2) (pda_cons pd_int pda_nil)))) (pda_cons pd_non pda_nil))))) (pdg_name (i := 3) sc_law.nd)
  (pdss_cons (pds_set (i := 4) (pd_add (pd_call (ok__law_values T) (hr.mono (by decide)) T.f__law_values.m T.f__law_values.F.kp T.f__law_values.b (pda_cons (pd_v 3) pda_nil)) (pd_lst (pda_cons (pd_mkE1 (PySem.EvX.newF_of PySem.F.excBase_LookupError) PySem.EvX.ini_KE PySem.EvX.tail_KE T.ini_NoEntry T.x_NoProcess hr (pda_cons (pd_v 3) pda_nil)) (pda_cons (pd_mkE1 (PySem.EvX.newF_of PySem.F.excBase_LookupError) PySem.EvX.ini_KE PySem.EvX.tail_KE T.ini_NoEntry T.x_NoChannel hr (pda_cons (pd_v 3) pda_nil)) (pda_cons (pd_mkE1 (PySem.EvX.newF_of PySem.F.excBase_LookupError) PySem.EvX.ini_KE PySem.EvX.tail_KE T.ini_NoEntry T.x_NoStore hr (pda_cons (pd_v 3) pda_nil)) pda_nil))))) sc_law.nd)
  (pdss_cons (pds_set (i := 4) (pd_add (pd_v 4) (pd_lst (pda_cons (pd_mkE2 (PySem.EvX.newF_of PySem.F.excBase_RuntimeError) PySem.EvX.ini_RE PySem.EvX.tail_RE T.ini_Refused T.x_Refused hr (pda_cons pd_str (pda_cons (pd_v 3) pda_nil))) (pda_cons (pd_mkE0 PySem.F.excBase_RuntimeError T.z_TooLong.2.1 T.z_TooLong.1 T.z_TooLong.2.2) (pda_cons (pd_mkE0 PySem.F.excBase_RuntimeError T.z_TooMany.2.1 T.z_TooMany.1 T.z_TooMany.2.2) (pda_cons (pd_mkE0 PySem.F.excBase_RuntimeError T.z_NotStraight.2.1 T.z_NotStraight.1 T.z_NotStraight.2.2) pda_nil)))))) sc_law.nd)
  (pdss_cons (pds_for po rfl (pdi_range1 T.n_range (pda_cons pd_int pda_nil)) (pdg_name (i := 5) sc_law.nd)
  (pdss_cons (pds_set (i := 6) (pd_call (ok__law_kinds T) (hr.mono (by decide)) T.f__law_kinds.m T.f__law_kinds.F.kp T.f__law_kinds.b (pda_cons (pd_ix (pd_v 4) (pd_v 5)) pda_nil)) sc_law.nd)
  (pdss_cons (pds_if (pdt_ne hr.units (pd_lc (i := 8) rfl sc_law.nd (pdi_range1 T.n_range (pda_cons pd_int pda_nil)) (blkOk_by (N := ["_law_script", "_law_k", "_law_pool_here", "_law_value", "_law_made", "_law_at", "_law_kinds_here", "_law_roots_here", "_law_to"]) (sc := defScope s_law) (own := [("_law_to", 8)]) (by decide +kernel)) (fun _ _ _ _ _ => pg_name (i := 8) sc_law.nd rfl (Or.inl rfl)) (fun _ _ _ _ _ => (pdts_one (pdt_val (pd_ix (pd_v 6) (pd_v 8))))) (fun _ _ _ _ _ => (pd_v 8))) (pd_lst (pda_cons (pd_v 5) pda_nil)))
  (pdss_one (pds_ret pd_bl))
  pdss_nil)
  (pdss_cons (pds_set (i := 7) (pd_lst (pda_cons (pd_lt (pd_v 5) pd_int) (pda_cons (pd_chLeLt pd_int (pd_v 5) pd_int) (pda_cons (pd_ge (pd_v 5) pd_int) (pda_cons (pd_lt (pd_v 5) pd_int) (pda_cons (pd_chLeLt pd_int (pd_v 5) pd_int) pda_nil)))))) sc_law.nd)
  (pdss_cons (pds_if (pdw_pt (pdw_or (pdt_ne hr.units (pd_call (ok__law_roots T) (hr.mono (by decide)) T.f__law_roots.m T.f__law_roots.F.kp T.f__law_roots.b (pda_cons (pd_ix (pd_v 4) (pd_v 5)) pda_nil)) (pd_v 7)) (pdw_or1 (pdt_not (pdt_val (pd_callB call_isX (oc_isTab T.tab) T.n_isinstance (by decide +kernel) (pda_cons (pd_ix (pd_v 4) (pd_v 5)) (pda_cons (pd_ty (T := "Exception") T.n_Exception (by decide +kernel)) pda_nil))))))))
  (pdss_one (pds_ret pd_bl))
  pdss_nil)
  (pdss_one (pds_if (pdw_pt (pdw_and (pdt_lt (pd_v 5) pd_int) (pdw_and1 (pdt_ne hr.units (pd_fldE T.fld_value (pd_ix (pd_v 4) (pd_v 5))) (pd_v 3)))))
  (pdss_one (pds_ret pd_bl))
  pdss_nil)))))))
  (pdss_one (pds_if (pdw_pt (pdw_or (pdt_ne hr.units (pd_fldE T.fld_word (pd_ix (pd_v 4) pd_int)) pd_str) (pdw_or1 (pdt_ne hr.units (pd_lst (pda_cons (pd_fldE T.fld_value (pd_mkE1 (PySem.EvX.newF_of PySem.F.excBase_LookupError) PySem.EvX.ini_KE PySem.EvX.tail_KE T.ini_NoEntry T.x_NoEntry hr (pda_cons (pd_v 3) pda_nil))) (pda_cons (pd_fldE T.fld_value (pd_mkE1 (PySem.EvX.newF_of PySem.F.excBase_ValueError) PySem.EvX.ini_VE PySem.EvX.tail_VE T.ini_RoomError T.x_RoomError hr (pda_cons (pd_v 3) pda_nil))) pda_nil))) (pd_lst (pda_cons (pd_v 3) (pda_cons (pd_v 3) pda_nil)))))))
  (pdss_one (pds_ret pd_bl))
  pdss_nil)))))))))
  (pdss_one (pds_ret pd_bl))), ?_⟩)
  intro ss kk xx hl h
  unfold cLaw at h
  dsimp only at h
  split at h
  · rename_i xs
    obtain ⟨⟨ns, rfl, h63⟩, h⟩ := h
    have ln : (intD ns).length = ns.length := List.length_map ..
    refine ⟨⟨?_, ?_⟩, ?_⟩
    · dsimp only
      (repeat' split) <;> omega
    · dsimp only
      (repeat' split) <;> omega
    refine forD_inv (fun Γ => ∃ s1 s2 s3 s4 s5 s6 s7 s8, Γ = [.d (.scr (intD ns)), s1, s2, s3, s4, s5, s6, s7, s8]) ?_ _ ?_ _ ⟨_, _, _, _, _, _, _, _, rfl⟩
    · rintro Γ ⟨s1, s2, s3, s4, s5, s6, s7, s8, rfl⟩
      exact h
    · rintro x hx Γ ⟨s1, s2, s3, s4, s5, s6, s7, s8, rfl⟩ N hN
      obtain ⟨i, rfl, i0, i1⟩ := intsFrom_mem hx
      refine ⟨⟨ns, rfl, h63⟩, i0, ?_, ?_⟩
      · revert i1
        dsimp only
        (repeat' split) <;> omega
      refine ⟨cp9, ?_⟩
      refine ⟨rfl, by decide, by decide +kernel, fun m m0 m1 => ?_⟩
      refine ⟨rfl, by decide, by decide, fun r r0 r1 => ?_⟩
      refine ix_s r0 r1 fun c hc => ?_
      refine ⟨Nat.le_of_ble_eq_true rfl, ?_⟩
      refine law_v (a := a) (v := .int m) rfl rfl fun _ _ _ _ _ => ?_
      refine law_v (a := a) (v := .str ⟨#[c]⟩) (ok_c hc).1 (ok_c hc).2 fun _ _ _ _ _ => ?_
      refine law_v (a := a) (v := .non) rfl rfl fun _ _ _ _ _ => ?_
      exact hN _ ⟨_, _, _, _, _, _, _, _, rfl⟩
  · exact h.elim
end
theorem all_mk {l : PySem.W.OpenLaw} {w : World} {K : PySem.W.Frag} {h : Heap} {mg : Str → Option Value} {fa f1 f2 f3 f4 f5 f6 C_RoomError C_BadText C_BadCount C_BadRow C_BadNumber C_BadNet C_BadRooms C_Small C_BadGroup C_NoKnot C_BadCourse C_BadPrices C_BadList C_NotRight C_NoEntry C_NoProcess C_NoChannel C_NoStore C_Refused C_TooLong C_TooMany C_BadVector C_NotSo C_BadLine C_BadPaper C_BadPolicy C_NoBeat C_BadPace C_BadBeats C_BadChange C_BadSeeds C_BadValue C_BadEntries C_BadJournal C_BadEvent C_BadEvents C_BadPlan C_BadQuestion C_NotStraight i_NoEntry cda_NoEntry cc_NoEntry i_Refused cda_Refused cc_Refused i_RoomError cda_RoomError cc_RoomError : Addr} (X : K.In h) (G : h.Ns mainGlobals mg) (hfa : mg "law" = some (.ref fa))
    {od1 an1 : Option Addr} {sl1 : Array (Option Value)} {oc1 kV1 dc1 pm1 cd1 ct1 : Value}
    {od2 an2 : Option Addr} {sl2 : Array (Option Value)} {oc2 kV2 dc2 pm2 cd2 ct2 : Value}
    {od3 an3 : Option Addr} {sl3 : Array (Option Value)} {oc3 kV3 dc3 pm3 cd3 ct3 : Value}
    {od4 an4 : Option Addr} {sl4 : Array (Option Value)} {oc4 kV4 dc4 pm4 cd4 ct4 : Value}
    {od5 an5 : Option Addr} {sl5 : Array (Option Value)} {oc5 kV5 dc5 pm5 cd5 ct5 : Value}
    {od6 an6 : Option Addr} {sl6 : Array (Option Value)} {oc6 kV6 dc6 pm6 cd6 ct6 : Value}
    {odR_NoEntry anR_NoEntry : Option Addr} {slR_NoEntry : Array (Option Value)} {ocR_NoEntry dcR_NoEntry pmR_NoEntry ctR_NoEntry : Value} {cclR_NoEntry : Value} {cddR_NoEntry : Option Addr} {vsR_NoEntry : Array Value} {ccsR_NoEntry : Array (Option Value)} {fileR_NoEntry : Str} {tfR_NoEntry : Tok} {clR_NoEntry : Value} {cldR_NoEntry : Option Addr} {cslR_NoEntry : Array (Option Value)} {cdR_NoEntry : ClassData}
    {odR_Refused anR_Refused : Option Addr} {slR_Refused : Array (Option Value)} {ocR_Refused dcR_Refused pmR_Refused ctR_Refused : Value} {cclR_Refused : Value} {cddR_Refused : Option Addr} {vsR_Refused : Array Value} {ccsR_Refused : Array (Option Value)} {fileR_Refused : Str} {tfR_Refused : Tok} {clR_Refused : Value} {cldR_Refused : Option Addr} {cslR_Refused : Array (Option Value)} {cdR_Refused : ClassData}
    {odR_RoomError anR_RoomError : Option Addr} {slR_RoomError : Array (Option Value)} {ocR_RoomError dcR_RoomError pmR_RoomError ctR_RoomError : Value} {cclR_RoomError : Value} {cddR_RoomError : Option Addr} {vsR_RoomError : Array Value} {ccsR_RoomError : Array (Option Value)} {fileR_RoomError : Str} {tfR_RoomError : Tok} {clR_RoomError : Value} {cldR_RoomError : Option Addr} {cslR_RoomError : Array (Option Value)} {cdR_RoomError : ClassData}
    (a1 : PySem.W.nsIn K mainGlobals "_law_pool" = some (some (.ref f1)))
    (l1 : K.lookup f1 = some ⟨oc1, od1, .func (PySem.W.fnOf "_law_pool" "_law_pool" (defArgs s__law_pool) (defBody s__law_pool) (defScope s__law_pool) .none kV1 dc1 pm1 an1 cd1 ct1), sl1⟩)
    (c1 : PySem.W.codeIn K cd1 "_law_pool" = true)
    (k1 : PySem.W.keepIn K (.ref f1) = true)
    (a2 : PySem.W.nsIn K mainGlobals "_law_take" = some (some (.ref f2)))
    (l2 : K.lookup f2 = some ⟨oc2, od2, .func (PySem.W.fnOf "_law_take" "_law_take" (defArgs s__law_take) (defBody s__law_take) (defScope s__law_take) .none kV2 dc2 pm2 an2 cd2 ct2), sl2⟩)
    (c2 : PySem.W.codeIn K cd2 "_law_take" = true)
    (k2 : PySem.W.keepIn K (.ref f2) = true)
    (a3 : PySem.W.nsIn K mainGlobals "_law_kinds" = some (some (.ref f3)))
    (l3 : K.lookup f3 = some ⟨oc3, od3, .func (PySem.W.fnOf "_law_kinds" "_law_kinds" (defArgs s__law_kinds) (defBody s__law_kinds) (defScope s__law_kinds) .none kV3 dc3 pm3 an3 cd3 ct3), sl3⟩)
    (c3 : PySem.W.codeIn K cd3 "_law_kinds" = true)
    (k3 : PySem.W.keepIn K (.ref f3) = true)
    (a4 : PySem.W.nsIn K mainGlobals "_law_roots" = some (some (.ref f4)))
    (l4 : K.lookup f4 = some ⟨oc4, od4, .func (PySem.W.fnOf "_law_roots" "_law_roots" (defArgs s__law_roots) (defBody s__law_roots) (defScope s__law_roots) .none kV4 dc4 pm4 an4 cd4 ct4), sl4⟩)
    (c4 : PySem.W.codeIn K cd4 "_law_roots" = true)
    (k4 : PySem.W.keepIn K (.ref f4) = true)
    (a5 : PySem.W.nsIn K mainGlobals "_law_values" = some (some (.ref f5)))
    (l5 : K.lookup f5 = some ⟨oc5, od5, .func (PySem.W.fnOf "_law_values" "_law_values" (defArgs s__law_values) (defBody s__law_values) (defScope s__law_values) .none kV5 dc5 pm5 an5 cd5 ct5), sl5⟩)
    (c5 : PySem.W.codeIn K cd5 "_law_values" = true)
    (k5 : PySem.W.keepIn K (.ref f5) = true)
    (a6 : PySem.W.nsIn K mainGlobals "law" = some (some (.ref f6)))
    (l6 : K.lookup f6 = some ⟨oc6, od6, .func (PySem.W.fnOf "law" "law" (defArgs s_law) (defBody s_law) (defScope s_law) .none kV6 dc6 pm6 an6 cd6 ct6), sl6⟩)
    (c6 : PySem.W.codeIn K cd6 "law" = true)
    (k6 : PySem.W.keepIn K (.ref f6) = true)
    (z_Exception : PySem.W.nsIn K mainGlobals "Exception" = some none)
    (z_KeyError : PySem.W.nsIn K mainGlobals "KeyError" = some none)
    (z_RuntimeError : PySem.W.nsIn K mainGlobals "RuntimeError" = some none)
    (z_ValueError : PySem.W.nsIn K mainGlobals "ValueError" = some none)
    (z_isinstance : PySem.W.nsIn K mainGlobals "isinstance" = some none)
    (z_len : PySem.W.nsIn K mainGlobals "len" = some none)
    (z_max : PySem.W.nsIn K mainGlobals "max" = some none)
    (z_min : PySem.W.nsIn K mainGlobals "min" = some none)
    (z_range : PySem.W.nsIn K mainGlobals "range" = some none)
    (aC_RoomError : PySem.W.nsIn K mainGlobals "RoomError" = some (some (.ref C_RoomError)))
    (aC_BadText : PySem.W.nsIn K mainGlobals "BadText" = some (some (.ref C_BadText)))
    (aC_BadCount : PySem.W.nsIn K mainGlobals "BadCount" = some (some (.ref C_BadCount)))
    (aC_BadRow : PySem.W.nsIn K mainGlobals "BadRow" = some (some (.ref C_BadRow)))
    (aC_BadNumber : PySem.W.nsIn K mainGlobals "BadNumber" = some (some (.ref C_BadNumber)))
    (aC_BadNet : PySem.W.nsIn K mainGlobals "BadNet" = some (some (.ref C_BadNet)))
    (aC_BadRooms : PySem.W.nsIn K mainGlobals "BadRooms" = some (some (.ref C_BadRooms)))
    (aC_Small : PySem.W.nsIn K mainGlobals "Small" = some (some (.ref C_Small)))
    (aC_BadGroup : PySem.W.nsIn K mainGlobals "BadGroup" = some (some (.ref C_BadGroup)))
    (aC_NoKnot : PySem.W.nsIn K mainGlobals "NoKnot" = some (some (.ref C_NoKnot)))
    (aC_BadCourse : PySem.W.nsIn K mainGlobals "BadCourse" = some (some (.ref C_BadCourse)))
    (aC_BadPrices : PySem.W.nsIn K mainGlobals "BadPrices" = some (some (.ref C_BadPrices)))
    (aC_BadList : PySem.W.nsIn K mainGlobals "BadList" = some (some (.ref C_BadList)))
    (aC_NotRight : PySem.W.nsIn K mainGlobals "NotRight" = some (some (.ref C_NotRight)))
    (aC_NoEntry : PySem.W.nsIn K mainGlobals "NoEntry" = some (some (.ref C_NoEntry)))
    (aC_NoProcess : PySem.W.nsIn K mainGlobals "NoProcess" = some (some (.ref C_NoProcess)))
    (aC_NoChannel : PySem.W.nsIn K mainGlobals "NoChannel" = some (some (.ref C_NoChannel)))
    (aC_NoStore : PySem.W.nsIn K mainGlobals "NoStore" = some (some (.ref C_NoStore)))
    (aC_Refused : PySem.W.nsIn K mainGlobals "Refused" = some (some (.ref C_Refused)))
    (aC_TooLong : PySem.W.nsIn K mainGlobals "TooLong" = some (some (.ref C_TooLong)))
    (aC_TooMany : PySem.W.nsIn K mainGlobals "TooMany" = some (some (.ref C_TooMany)))
    (aC_BadVector : PySem.W.nsIn K mainGlobals "BadVector" = some (some (.ref C_BadVector)))
    (aC_NotSo : PySem.W.nsIn K mainGlobals "NotSo" = some (some (.ref C_NotSo)))
    (aC_BadLine : PySem.W.nsIn K mainGlobals "BadLine" = some (some (.ref C_BadLine)))
    (aC_BadPaper : PySem.W.nsIn K mainGlobals "BadPaper" = some (some (.ref C_BadPaper)))
    (aC_BadPolicy : PySem.W.nsIn K mainGlobals "BadPolicy" = some (some (.ref C_BadPolicy)))
    (aC_NoBeat : PySem.W.nsIn K mainGlobals "NoBeat" = some (some (.ref C_NoBeat)))
    (aC_BadPace : PySem.W.nsIn K mainGlobals "BadPace" = some (some (.ref C_BadPace)))
    (aC_BadBeats : PySem.W.nsIn K mainGlobals "BadBeats" = some (some (.ref C_BadBeats)))
    (aC_BadChange : PySem.W.nsIn K mainGlobals "BadChange" = some (some (.ref C_BadChange)))
    (aC_BadSeeds : PySem.W.nsIn K mainGlobals "BadSeeds" = some (some (.ref C_BadSeeds)))
    (aC_BadValue : PySem.W.nsIn K mainGlobals "BadValue" = some (some (.ref C_BadValue)))
    (aC_BadEntries : PySem.W.nsIn K mainGlobals "BadEntries" = some (some (.ref C_BadEntries)))
    (aC_BadJournal : PySem.W.nsIn K mainGlobals "BadJournal" = some (some (.ref C_BadJournal)))
    (aC_BadEvent : PySem.W.nsIn K mainGlobals "BadEvent" = some (some (.ref C_BadEvent)))
    (aC_BadEvents : PySem.W.nsIn K mainGlobals "BadEvents" = some (some (.ref C_BadEvents)))
    (aC_BadPlan : PySem.W.nsIn K mainGlobals "BadPlan" = some (some (.ref C_BadPlan)))
    (aC_BadQuestion : PySem.W.nsIn K mainGlobals "BadQuestion" = some (some (.ref C_BadQuestion)))
    (aC_NotStraight : PySem.W.nsIn K mainGlobals "NotStraight" = some (some (.ref C_NotStraight)))
    (zS : PySem.W.nsIn K mainGlobals "super" = some none)
    (mt : (l.prog.main.scope.names.lookup ("super" : Str)).isSome = false)
    (tp : PySem.W.nsIn K cStatics "thirdparty.any" = some none)
    (aI_NoEntry : PySem.W.findIn K (.ref C_NoEntry) "__init__" = some (some (.ref i_NoEntry)))
    (lI_NoEntry : K.lookup i_NoEntry = some ⟨ocR_NoEntry, odR_NoEntry, .func (PySem.W.ksFn "__init__" "NoEntry.__init__" (PySem.RoomX.iA ⟨35, 17, 35, 21⟩ ⟨35, 23, 35, 28⟩) (PySem.RoomX.iB ⟨36, 8, 36, 13⟩ ⟨36, 8, 36, 15⟩ ⟨36, 8, 36, 24⟩ ⟨36, 25, 36, 30⟩ ⟨36, 8, 36, 31⟩ ⟨36, 8, 36, 31⟩ ⟨37, 8, 37, 12⟩ ⟨37, 8, 37, 18⟩ ⟨37, 21, 37, 26⟩ ⟨37, 8, 37, 26⟩) PySem.RoomX.iS .none .none dcR_NoEntry pmR_NoEntry anR_NoEntry (.ref cda_NoEntry) ctR_NoEntry cc_NoEntry), slR_NoEntry⟩)
    (cI_NoEntry : PySem.W.codeIn K (.ref cda_NoEntry) "NoEntry.__init__" = true)
    (lcI_NoEntry : K.lookup cda_NoEntry = some ⟨cclR_NoEntry, cddR_NoEntry, .fields vsR_NoEntry, ccsR_NoEntry⟩)
    (lvI_NoEntry : vsR_NoEntry[2]? = some (.str fileR_NoEntry tfR_NoEntry))
    (lfI_NoEntry : ((l.prog.main.file : Str) == fileR_NoEntry) = true)
    (lcc_NoEntry : K.lookup cc_NoEntry = some ⟨clR_NoEntry, cldR_NoEntry, .cell (some (.ref C_NoEntry)), cslR_NoEntry⟩)
    (lD_NoEntry : PySem.W.clsIn K C_NoEntry = some cdR_NoEntry)
    (aI_Refused : PySem.W.findIn K (.ref C_Refused) "__init__" = some (some (.ref i_Refused)))
    (lI_Refused : K.lookup i_Refused = some ⟨ocR_Refused, odR_Refused, .func (PySem.W.ksFn "__init__" "Refused.__init__" (PySem.EvX.iA2 ⟨46, 17, 46, 21⟩ ⟨46, 23, 46, 27⟩ ⟨46, 29, 46, 34⟩) (PySem.EvX.iB2 ⟨47, 8, 47, 13⟩ ⟨47, 8, 47, 15⟩ ⟨47, 8, 47, 24⟩ ⟨47, 25, 47, 29⟩ ⟨47, 31, 47, 36⟩ ⟨47, 8, 47, 37⟩ ⟨47, 8, 47, 37⟩ ⟨48, 8, 48, 12⟩ ⟨48, 8, 48, 17⟩ ⟨48, 20, 48, 24⟩ ⟨48, 8, 48, 24⟩ ⟨49, 8, 49, 12⟩ ⟨49, 8, 49, 18⟩ ⟨49, 21, 49, 26⟩ ⟨49, 8, 49, 26⟩) PySem.EvX.iS2 .none .none dcR_Refused pmR_Refused anR_Refused (.ref cda_Refused) ctR_Refused cc_Refused), slR_Refused⟩)
    (cI_Refused : PySem.W.codeIn K (.ref cda_Refused) "Refused.__init__" = true)
    (lcI_Refused : K.lookup cda_Refused = some ⟨cclR_Refused, cddR_Refused, .fields vsR_Refused, ccsR_Refused⟩)
    (lvI_Refused : vsR_Refused[2]? = some (.str fileR_Refused tfR_Refused))
    (lfI_Refused : ((l.prog.main.file : Str) == fileR_Refused) = true)
    (lcc_Refused : K.lookup cc_Refused = some ⟨clR_Refused, cldR_Refused, .cell (some (.ref C_Refused)), cslR_Refused⟩)
    (lD_Refused : PySem.W.clsIn K C_Refused = some cdR_Refused)
    (aI_RoomError : PySem.W.findIn K (.ref C_RoomError) "__init__" = some (some (.ref i_RoomError)))
    (lI_RoomError : K.lookup i_RoomError = some ⟨ocR_RoomError, odR_RoomError, .func (PySem.W.ksFn "__init__" "RoomError.__init__" (PySem.RoomX.iA ⟨4, 17, 4, 21⟩ ⟨4, 23, 4, 28⟩) (PySem.RoomX.iB ⟨5, 8, 5, 13⟩ ⟨5, 8, 5, 15⟩ ⟨5, 8, 5, 24⟩ ⟨5, 25, 5, 30⟩ ⟨5, 8, 5, 31⟩ ⟨5, 8, 5, 31⟩ ⟨6, 8, 6, 12⟩ ⟨6, 8, 6, 18⟩ ⟨6, 21, 6, 26⟩ ⟨6, 8, 6, 26⟩) PySem.RoomX.iS .none .none dcR_RoomError pmR_RoomError anR_RoomError (.ref cda_RoomError) ctR_RoomError cc_RoomError), slR_RoomError⟩)
    (cI_RoomError : PySem.W.codeIn K (.ref cda_RoomError) "RoomError.__init__" = true)
    (lcI_RoomError : K.lookup cda_RoomError = some ⟨cclR_RoomError, cddR_RoomError, .fields vsR_RoomError, ccsR_RoomError⟩)
    (lvI_RoomError : vsR_RoomError[2]? = some (.str fileR_RoomError tfR_RoomError))
    (lfI_RoomError : ((l.prog.main.file : Str) == fileR_RoomError) = true)
    (lcc_RoomError : K.lookup cc_RoomError = some ⟨clR_RoomError, cldR_RoomError, .cell (some (.ref C_RoomError)), cslR_RoomError⟩)
    (lD_RoomError : PySem.W.clsIn K C_RoomError = some cdR_RoomError)
    (bC_RoomError : PySem.EvX.exB K "ValueError" "ValueError.__init__" "ValueError.__new__" PySem.HandSPX.veTail C_RoomError C_RoomError i_RoomError = true)
    (bC_BadText : PySem.EvX.exB K "ValueError" "ValueError.__init__" "ValueError.__new__" PySem.HandSPX.veTail C_BadText C_RoomError i_RoomError = true)
    (bC_BadCount : PySem.EvX.exB K "ValueError" "ValueError.__init__" "ValueError.__new__" PySem.HandSPX.veTail C_BadCount C_RoomError i_RoomError = true)
    (bC_BadRow : PySem.EvX.exB K "ValueError" "ValueError.__init__" "ValueError.__new__" PySem.HandSPX.veTail C_BadRow C_RoomError i_RoomError = true)
    (bC_BadNumber : PySem.EvX.exB K "ValueError" "ValueError.__init__" "ValueError.__new__" PySem.HandSPX.veTail C_BadNumber C_RoomError i_RoomError = true)
    (bC_BadNet : PySem.EvX.exB K "ValueError" "ValueError.__init__" "ValueError.__new__" PySem.HandSPX.veTail C_BadNet C_RoomError i_RoomError = true)
    (bC_BadRooms : PySem.EvX.exB K "ValueError" "ValueError.__init__" "ValueError.__new__" PySem.HandSPX.veTail C_BadRooms C_RoomError i_RoomError = true)
    (bC_Small : PySem.EvX.exB K "ValueError" "ValueError.__init__" "ValueError.__new__" PySem.HandSPX.veTail C_Small C_RoomError i_RoomError = true)
    (bC_BadGroup : PySem.EvX.exB K "ValueError" "ValueError.__init__" "ValueError.__new__" PySem.HandSPX.veTail C_BadGroup C_RoomError i_RoomError = true)
    (bC_NoKnot : PySem.EvX.exB K "ValueError" "ValueError.__init__" "ValueError.__new__" PySem.HandSPX.veTail C_NoKnot C_RoomError i_RoomError = true)
    (bC_BadCourse : PySem.EvX.exB K "ValueError" "ValueError.__init__" "ValueError.__new__" PySem.HandSPX.veTail C_BadCourse C_RoomError i_RoomError = true)
    (bC_BadPrices : PySem.EvX.exB K "ValueError" "ValueError.__init__" "ValueError.__new__" PySem.HandSPX.veTail C_BadPrices C_RoomError i_RoomError = true)
    (bC_BadList : PySem.EvX.exB K "ValueError" "ValueError.__init__" "ValueError.__new__" PySem.HandSPX.veTail C_BadList C_RoomError i_RoomError = true)
    (bC_NotRight : PySem.EvX.exB K "ValueError" "ValueError.__init__" "ValueError.__new__" PySem.HandSPX.veTail C_NotRight C_RoomError i_RoomError = true)
    (bC_NoEntry : PySem.EvX.exB K "KeyError" "KeyError.__init__" "LookupError.__new__" PySem.EvX.keTail C_NoEntry C_NoEntry i_NoEntry = true)
    (bC_NoProcess : PySem.EvX.exB K "KeyError" "KeyError.__init__" "LookupError.__new__" PySem.EvX.keTail C_NoProcess C_NoEntry i_NoEntry = true)
    (bC_NoChannel : PySem.EvX.exB K "KeyError" "KeyError.__init__" "LookupError.__new__" PySem.EvX.keTail C_NoChannel C_NoEntry i_NoEntry = true)
    (bC_NoStore : PySem.EvX.exB K "KeyError" "KeyError.__init__" "LookupError.__new__" PySem.EvX.keTail C_NoStore C_NoEntry i_NoEntry = true)
    (bC_Refused : PySem.EvX.exB K "RuntimeError" "RuntimeError.__init__" "RuntimeError.__new__" PySem.EvX.reTail C_Refused C_Refused i_Refused = true)
    (bC_TooLong : PySem.W.excIn K C_TooLong PySem.EvX.reTail "RuntimeError.__new__" = true)
    (kC_TooLong : PySem.W.keepIn K (.ref C_TooLong) = true)
    (bC_TooMany : PySem.W.excIn K C_TooMany PySem.EvX.reTail "RuntimeError.__new__" = true)
    (kC_TooMany : PySem.W.keepIn K (.ref C_TooMany) = true)
    (bC_BadVector : PySem.EvX.exB K "ValueError" "ValueError.__init__" "ValueError.__new__" PySem.HandSPX.veTail C_BadVector C_RoomError i_RoomError = true)
    (bC_NotSo : PySem.EvX.exB K "ValueError" "ValueError.__init__" "ValueError.__new__" PySem.HandSPX.veTail C_NotSo C_RoomError i_RoomError = true)
    (bC_BadLine : PySem.EvX.exB K "ValueError" "ValueError.__init__" "ValueError.__new__" PySem.HandSPX.veTail C_BadLine C_RoomError i_RoomError = true)
    (bC_BadPaper : PySem.EvX.exB K "ValueError" "ValueError.__init__" "ValueError.__new__" PySem.HandSPX.veTail C_BadPaper C_RoomError i_RoomError = true)
    (bC_BadPolicy : PySem.EvX.exB K "ValueError" "ValueError.__init__" "ValueError.__new__" PySem.HandSPX.veTail C_BadPolicy C_RoomError i_RoomError = true)
    (bC_NoBeat : PySem.EvX.exB K "ValueError" "ValueError.__init__" "ValueError.__new__" PySem.HandSPX.veTail C_NoBeat C_RoomError i_RoomError = true)
    (bC_BadPace : PySem.EvX.exB K "ValueError" "ValueError.__init__" "ValueError.__new__" PySem.HandSPX.veTail C_BadPace C_RoomError i_RoomError = true)
    (bC_BadBeats : PySem.EvX.exB K "ValueError" "ValueError.__init__" "ValueError.__new__" PySem.HandSPX.veTail C_BadBeats C_RoomError i_RoomError = true)
    (bC_BadChange : PySem.EvX.exB K "ValueError" "ValueError.__init__" "ValueError.__new__" PySem.HandSPX.veTail C_BadChange C_RoomError i_RoomError = true)
    (bC_BadSeeds : PySem.EvX.exB K "ValueError" "ValueError.__init__" "ValueError.__new__" PySem.HandSPX.veTail C_BadSeeds C_RoomError i_RoomError = true)
    (bC_BadValue : PySem.EvX.exB K "ValueError" "ValueError.__init__" "ValueError.__new__" PySem.HandSPX.veTail C_BadValue C_RoomError i_RoomError = true)
    (bC_BadEntries : PySem.EvX.exB K "ValueError" "ValueError.__init__" "ValueError.__new__" PySem.HandSPX.veTail C_BadEntries C_RoomError i_RoomError = true)
    (bC_BadJournal : PySem.EvX.exB K "ValueError" "ValueError.__init__" "ValueError.__new__" PySem.HandSPX.veTail C_BadJournal C_RoomError i_RoomError = true)
    (bC_BadEvent : PySem.EvX.exB K "ValueError" "ValueError.__init__" "ValueError.__new__" PySem.HandSPX.veTail C_BadEvent C_RoomError i_RoomError = true)
    (bC_BadEvents : PySem.EvX.exB K "ValueError" "ValueError.__init__" "ValueError.__new__" PySem.HandSPX.veTail C_BadEvents C_RoomError i_RoomError = true)
    (bC_BadPlan : PySem.EvX.exB K "ValueError" "ValueError.__init__" "ValueError.__new__" PySem.HandSPX.veTail C_BadPlan C_RoomError i_RoomError = true)
    (bC_BadQuestion : PySem.EvX.exB K "ValueError" "ValueError.__init__" "ValueError.__new__" PySem.HandSPX.veTail C_BadQuestion C_RoomError i_RoomError = true)
    (bC_NotStraight : PySem.W.excIn K C_NotStraight PySem.EvX.reTail "RuntimeError.__new__" = true)
    (kC_NotStraight : PySem.W.keepIn K (.ref C_NotStraight) = true)
    (tabC : Dv.tabB K [.ref C_BadText, .ref C_BadCount, .ref C_BadRow, .ref C_BadNumber, .ref C_BadNet, .ref C_BadRooms, .ref C_Small, .ref C_BadGroup, .ref C_NoKnot, .ref C_BadCourse, .ref C_NotRight, .ref C_BadPrices, .ref C_BadList, .ref C_BadVector, .ref C_NotSo, .ref C_BadLine, .ref C_BadPaper, .ref C_BadPolicy, .ref C_NoBeat, .ref C_BadPace, .ref C_BadBeats, .ref C_BadChange, .ref C_BadSeeds, .ref C_BadValue, .ref C_BadEntries, .ref C_BadJournal, .ref C_BadEvent, .ref C_BadEvents, .ref C_BadPlan, .ref C_BadQuestion, .ref C_NoProcess, .ref C_NoChannel, .ref C_NoStore, .ref C_Refused, .ref C_TooLong, .ref C_TooMany, .ref C_NotStraight, .ty "ValueError", .ty "KeyError", .ty "RuntimeError", .ref C_RoomError, .ref C_NoEntry, .ty "Exception"] exE 0 [C_BadText, C_BadCount, C_BadRow, C_BadNumber, C_BadNet, C_BadRooms, C_Small, C_BadGroup, C_NoKnot, C_BadCourse, C_NotRight, C_BadPrices, C_BadList, C_BadVector, C_NotSo, C_BadLine, C_BadPaper, C_BadPolicy, C_NoBeat, C_BadPace, C_BadBeats, C_BadChange, C_BadSeeds, C_BadValue, C_BadEntries, C_BadJournal, C_BadEvent, C_BadEvents, C_BadPlan, C_BadQuestion, C_NoProcess, C_NoChannel, C_NoStore, C_Refused, C_TooLong, C_TooMany, C_NotStraight] = true)
    (fl_value : ([C_RoomError, C_BadText, C_BadCount, C_BadRow, C_BadNumber, C_BadNet, C_BadRooms, C_Small, C_BadGroup, C_NoKnot, C_BadCourse, C_BadPrices, C_BadList, C_NotRight, C_NoEntry, C_NoProcess, C_NoChannel, C_NoStore, C_Refused, C_BadVector, C_NotSo, C_BadLine, C_BadPaper, C_BadPolicy, C_NoBeat, C_BadPace, C_BadBeats, C_BadChange, C_BadSeeds, C_BadValue, C_BadEntries, C_BadJournal, C_BadEvent, C_BadEvents, C_BadPlan, C_BadQuestion].all fun C => PySem.EvX.excB K C && PySem.W.findIn K (.ref C) "value" == some none) = true)
    (fl_word : ([C_Refused].all fun C => PySem.EvX.excB K C && PySem.W.findIn K (.ref C) "word" == some none) = true) :
    ∃ fd : FuncData, (∀ (s : Shared) (v : Value), BindsTo s fd ⟨[v], []⟩ [("_law_script", v)]) ∧ ∀ base : Heap, K.In base → base.Ns mainGlobals mg → FnOk l.prog w K mg base (L2.CX l.prog w) 6 fa fd ["_law_script"] (cLaw.sp K) := by
  have e := hfa.symm.trans (PySem.W.mg_of X G a6)
  cases e
  have F1 := fun_mk (st := s__law_pool) l1 c1 k1
  have b1 := F1.binds (ps := ["_law_script", "_law_k"]) fun _ _ _ _ _ _ us hl => match us, hl with | [_, _], _ => rfl
  have F2 := fun_mk (st := s__law_take) l2 c2 k2
  have b2 := F2.binds (ps := ["_law_pool_here", "_law_many"]) fun _ _ _ _ _ _ us hl => match us, hl with | [_, _], _ => rfl
  have F3 := fun_mk (st := s__law_kinds) l3 c3 k3
  have b3 := F3.binds (ps := ["_law_e"]) fun _ _ _ _ _ _ us hl => match us, hl with | [_], _ => rfl
  have F4 := fun_mk (st := s__law_roots) l4 c4 k4
  have b4 := F4.binds (ps := ["_law_e"]) fun _ _ _ _ _ _ us hl => match us, hl with | [_], _ => rfl
  have F5 := fun_mk (st := s__law_values) l5 c5 k5
  have b5 := F5.binds (ps := ["_law_value"]) fun _ _ _ _ _ _ us hl => match us, hl with | [_], _ => rfl
  have F6 := fun_mk (st := s_law) l6 c6 k6
  have b6 := F6.binds (ps := ["_law_script"]) fun _ _ _ _ _ _ us hl => match us, hl with | [_], _ => rfl
  have ini_NoEntry : PySem.EvX.IniTxt l.prog K mg "NoEntry.__init__" C_NoEntry i_NoEntry := ⟨⟨_, _, _, _, _, _, _, _, _, _, _, _, _, _, _, _, _, _, _, _, _, lI_NoEntry, cI_NoEntry, rfl, ⟨_, _, _, _, _, _, lcI_NoEntry, lvI_NoEntry, lfI_NoEntry⟩, ⟨_, _, _, lcc_NoEntry⟩⟩, ⟨_, lD_NoEntry⟩, PySem.W.mg_none_of X G zS, mt, tp⟩
  have ini_Refused : PySem.EvX.IniTxt2 l.prog K mg "Refused.__init__" C_Refused i_Refused := ⟨⟨_, _, _, _, _, _, _, _, _, _, _, _, _, _, _, _, _, _, _, _, _, _, _, _, _, _, _, lI_Refused, cI_Refused, rfl, ⟨_, _, _, _, _, _, lcI_Refused, lvI_Refused, lfI_Refused⟩, ⟨_, _, _, lcc_Refused⟩⟩, ⟨_, lD_Refused⟩, PySem.W.mg_none_of X G zS, mt, tp⟩
  have ini_RoomError : PySem.EvX.IniTxt l.prog K mg "RoomError.__init__" C_RoomError i_RoomError := ⟨⟨_, _, _, _, _, _, _, _, _, _, _, _, _, _, _, _, _, _, _, _, _, lI_RoomError, cI_RoomError, rfl, ⟨_, _, _, _, _, _, lcI_RoomError, lvI_RoomError, lfI_RoomError⟩, ⟨_, _, _, lcc_RoomError⟩⟩, ⟨_, lD_RoomError⟩, PySem.W.mg_none_of X G zS, mt, tp⟩
  have T : Txt l.prog K mg ⟨f1, PySem.W.fnOf "_law_pool" "_law_pool" (defArgs s__law_pool) (defBody s__law_pool) (defScope s__law_pool) .none kV1 dc1 pm1 an1 cd1 ct1, f2, PySem.W.fnOf "_law_take" "_law_take" (defArgs s__law_take) (defBody s__law_take) (defScope s__law_take) .none kV2 dc2 pm2 an2 cd2 ct2, f3, PySem.W.fnOf "_law_kinds" "_law_kinds" (defArgs s__law_kinds) (defBody s__law_kinds) (defScope s__law_kinds) .none kV3 dc3 pm3 an3 cd3 ct3, f4, PySem.W.fnOf "_law_roots" "_law_roots" (defArgs s__law_roots) (defBody s__law_roots) (defScope s__law_roots) .none kV4 dc4 pm4 an4 cd4 ct4, f5, PySem.W.fnOf "_law_values" "_law_values" (defArgs s__law_values) (defBody s__law_values) (defScope s__law_values) .none kV5 dc5 pm5 an5 cd5 ct5, fa, PySem.W.fnOf "law" "law" (defArgs s_law) (defBody s_law) (defScope s_law) .none kV6 dc6 pm6 an6 cd6 ct6, C_RoomError, C_BadText, C_BadCount, C_BadRow, C_BadNumber, C_BadNet, C_BadRooms, C_Small, C_BadGroup, C_NoKnot, C_BadCourse, C_BadPrices, C_BadList, C_NotRight, C_NoEntry, C_NoProcess, C_NoChannel, C_NoStore, C_Refused, C_TooLong, C_TooMany, C_BadVector, C_NotSo, C_BadLine, C_BadPaper, C_BadPolicy, C_NoBeat, C_BadPace, C_BadBeats, C_BadChange, C_BadSeeds, C_BadValue, C_BadEntries, C_BadJournal, C_BadEvent, C_BadEvents, C_BadPlan, C_BadQuestion, C_NotStraight, i_NoEntry, i_Refused, i_RoomError⟩ := ⟨⟨F1, PySem.W.mg_of X G a1, b1⟩, ⟨F2, PySem.W.mg_of X G a2, b2⟩, ⟨F3, PySem.W.mg_of X G a3, b3⟩, ⟨F4, PySem.W.mg_of X G a4, b4⟩, ⟨F5, PySem.W.mg_of X G a5, b5⟩, ⟨F6, PySem.W.mg_of X G a6, b6⟩, PySem.W.mg_none_of X G z_Exception, PySem.W.mg_none_of X G z_KeyError, PySem.W.mg_none_of X G z_RuntimeError, PySem.W.mg_none_of X G z_ValueError, PySem.W.mg_none_of X G z_isinstance, PySem.W.mg_none_of X G z_len, PySem.W.mg_none_of X G z_max, PySem.W.mg_none_of X G z_min, PySem.W.mg_none_of X G z_range, ini_NoEntry, ini_Refused, ini_RoomError, PySem.EvX.exB_of bC_RoomError (PySem.W.mg_of X G aC_RoomError), PySem.EvX.exB_of bC_BadText (PySem.W.mg_of X G aC_BadText), PySem.EvX.exB_of bC_BadCount (PySem.W.mg_of X G aC_BadCount), PySem.EvX.exB_of bC_BadRow (PySem.W.mg_of X G aC_BadRow), PySem.EvX.exB_of bC_BadNumber (PySem.W.mg_of X G aC_BadNumber), PySem.EvX.exB_of bC_BadNet (PySem.W.mg_of X G aC_BadNet), PySem.EvX.exB_of bC_BadRooms (PySem.W.mg_of X G aC_BadRooms), PySem.EvX.exB_of bC_Small (PySem.W.mg_of X G aC_Small), PySem.EvX.exB_of bC_BadGroup (PySem.W.mg_of X G aC_BadGroup), PySem.EvX.exB_of bC_NoKnot (PySem.W.mg_of X G aC_NoKnot), PySem.EvX.exB_of bC_BadCourse (PySem.W.mg_of X G aC_BadCourse), PySem.EvX.exB_of bC_BadPrices (PySem.W.mg_of X G aC_BadPrices), PySem.EvX.exB_of bC_BadList (PySem.W.mg_of X G aC_BadList), PySem.EvX.exB_of bC_NotRight (PySem.W.mg_of X G aC_NotRight), PySem.EvX.exB_of bC_NoEntry (PySem.W.mg_of X G aC_NoEntry), PySem.EvX.exB_of bC_NoProcess (PySem.W.mg_of X G aC_NoProcess), PySem.EvX.exB_of bC_NoChannel (PySem.W.mg_of X G aC_NoChannel), PySem.EvX.exB_of bC_NoStore (PySem.W.mg_of X G aC_NoStore), PySem.EvX.exB_of bC_Refused (PySem.W.mg_of X G aC_Refused), ⟨PySem.W.mg_of X G aC_TooLong, bC_TooLong, kC_TooLong⟩, ⟨PySem.W.mg_of X G aC_TooMany, bC_TooMany, kC_TooMany⟩, PySem.EvX.exB_of bC_BadVector (PySem.W.mg_of X G aC_BadVector), PySem.EvX.exB_of bC_NotSo (PySem.W.mg_of X G aC_NotSo), PySem.EvX.exB_of bC_BadLine (PySem.W.mg_of X G aC_BadLine), PySem.EvX.exB_of bC_BadPaper (PySem.W.mg_of X G aC_BadPaper), PySem.EvX.exB_of bC_BadPolicy (PySem.W.mg_of X G aC_BadPolicy), PySem.EvX.exB_of bC_NoBeat (PySem.W.mg_of X G aC_NoBeat), PySem.EvX.exB_of bC_BadPace (PySem.W.mg_of X G aC_BadPace), PySem.EvX.exB_of bC_BadBeats (PySem.W.mg_of X G aC_BadBeats), PySem.EvX.exB_of bC_BadChange (PySem.W.mg_of X G aC_BadChange), PySem.EvX.exB_of bC_BadSeeds (PySem.W.mg_of X G aC_BadSeeds), PySem.EvX.exB_of bC_BadValue (PySem.W.mg_of X G aC_BadValue), PySem.EvX.exB_of bC_BadEntries (PySem.W.mg_of X G aC_BadEntries), PySem.EvX.exB_of bC_BadJournal (PySem.W.mg_of X G aC_BadJournal), PySem.EvX.exB_of bC_BadEvent (PySem.W.mg_of X G aC_BadEvent), PySem.EvX.exB_of bC_BadEvents (PySem.W.mg_of X G aC_BadEvents), PySem.EvX.exB_of bC_BadPlan (PySem.W.mg_of X G aC_BadPlan), PySem.EvX.exB_of bC_BadQuestion (PySem.W.mg_of X G aC_BadQuestion), ⟨PySem.W.mg_of X G aC_NotStraight, bC_NotStraight, kC_NotStraight⟩, Dv.tab_ok tabC, fld_of fl_value, fld_of fl_word⟩
  exact ⟨_, fun s v => .of_eq rfl, fun base _ _ => ok_law T⟩
theorem walk {l : PySem.W.OpenLaw} {q : Program} {loose : List Str} {XP : (Str → Option Value) → Heap → Prop} {YP : World → Heap → Prop} {d : DefRec} {K : Params → PySem.W.Frag} (hn : l.most = some 63) (hdf : d.params.defaults = [])
    (hY : ∀ (w : World) (h : Heap), YP w h → (K w.params).In h)
    (F : ∀ (w : World) (mg : Str → Option Value) (fa : Addr) (h : Heap), (K w.params).In h → h.Ns mainGlobals mg → mg d.name = some (.ref fa) →
      ∃ fd : FuncData, (∀ (s : Shared) (u : Value), BindsTo s fd ⟨[u], []⟩ [("_law_script", u)]) ∧ ∀ base : Heap, (K w.params).In base → base.Ns mainGlobals mg → FnOk l.prog w (K w.params) mg base (L2.CX l.prog w) 6 fa fd ["_law_script"] (cLaw.sp (K w.params))) :
    PySem.W.WalkO q loose XP YP l.row.toRowW d [] (fun f vs => PySem.call f vs) :=
  L2.walk_of (n := 63) (k := 6) (x := "_law_script") (CX := fun w => L2.CX l.prog w) (sp := fun w => cLaw.sp (K w.params)) hn (by decide) hdf ⟨rfl, by decide, by decide⟩ hY F (fun _ _ a ns hl _ hS => law_sp hl hS) fun _ _ _ _ _ z => law_cx z
end G

open PySem PySem.W PyProof.Rows in
set_option maxRecDepth 100000 in
set_option maxHeartbeats 0 in
theorem PySem.Challenge.cw_leastrooms_k05_exceptions_apart_holds : PySem.Challenge.rw_leastrooms_k05_exceptions_apart.Holds := by
  w_on; o_law; k_head; (case hw => w_witness2)
  k_fill
  refine G.walk (l := PySem.Challenge.rw_leastrooms_k05_exceptions_apart) rfl rfl (fun w h Y => PySem.W.kIn_of Y) ?F
  case F =>
    intro w mg fa h KX G hmg
    refine' _root_.G.all_mk KX G hmg ?a1 ?l1 ?c1 ?k1 ?a2 ?l2 ?c2 ?k2 ?a3 ?l3 ?c3 ?k3 ?a4 ?l4 ?c4 ?k4 ?a5 ?l5 ?c5 ?k5 ?a6 ?l6 ?c6 ?k6 ?z_Exception ?z_KeyError ?z_RuntimeError ?z_ValueError ?z_isinstance ?z_len ?z_max ?z_min ?z_range ?aC_RoomError ?aC_BadText ?aC_BadCount ?aC_BadRow ?aC_BadNumber ?aC_BadNet ?aC_BadRooms ?aC_Small ?aC_BadGroup ?aC_NoKnot ?aC_BadCourse ?aC_BadPrices ?aC_BadList ?aC_NotRight ?aC_NoEntry ?aC_NoProcess ?aC_NoChannel ?aC_NoStore ?aC_Refused ?aC_TooLong ?aC_TooMany ?aC_BadVector ?aC_NotSo ?aC_BadLine ?aC_BadPaper ?aC_BadPolicy ?aC_NoBeat ?aC_BadPace ?aC_BadBeats ?aC_BadChange ?aC_BadSeeds ?aC_BadValue ?aC_BadEntries ?aC_BadJournal ?aC_BadEvent ?aC_BadEvents ?aC_BadPlan ?aC_BadQuestion ?aC_NotStraight ?zS ?mt ?tp ?aI_NoEntry ?lI_NoEntry ?cI_NoEntry ?lcI_NoEntry ?lvI_NoEntry ?lfI_NoEntry ?lcc_NoEntry ?lD_NoEntry ?aI_Refused ?lI_Refused ?cI_Refused ?lcI_Refused ?lvI_Refused ?lfI_Refused ?lcc_Refused ?lD_Refused ?aI_RoomError ?lI_RoomError ?cI_RoomError ?lcI_RoomError ?lvI_RoomError ?lfI_RoomError ?lcc_RoomError ?lD_RoomError ?bC_RoomError ?bC_BadText ?bC_BadCount ?bC_BadRow ?bC_BadNumber ?bC_BadNet ?bC_BadRooms ?bC_Small ?bC_BadGroup ?bC_NoKnot ?bC_BadCourse ?bC_BadPrices ?bC_BadList ?bC_NotRight ?bC_NoEntry ?bC_NoProcess ?bC_NoChannel ?bC_NoStore ?bC_Refused ?bC_TooLong ?kC_TooLong ?bC_TooMany ?kC_TooMany ?bC_BadVector ?bC_NotSo ?bC_BadLine ?bC_BadPaper ?bC_BadPolicy ?bC_NoBeat ?bC_BadPace ?bC_BadBeats ?bC_BadChange ?bC_BadSeeds ?bC_BadValue ?bC_BadEntries ?bC_BadJournal ?bC_BadEvent ?bC_BadEvents ?bC_BadPlan ?bC_BadQuestion ?bC_NotStraight ?kC_NotStraight ?tabC ?fl_value ?fl_word
    (case a1 => k_is)
    (case l1 => k_is)
    (case c1 => k_is)
    (case k1 => k_is)
    (case a2 => k_is)
    (case l2 => k_is)
    (case c2 => k_is)
    (case k2 => k_is)
    (case a3 => k_is)
    (case l3 => k_is)
    (case c3 => k_is)
    (case k3 => k_is)
    (case a4 => k_is)
    (case l4 => k_is)
    (case c4 => k_is)
    (case k4 => k_is)
    (case a5 => k_is)
    (case l5 => k_is)
    (case c5 => k_is)
    (case k5 => k_is)
    (case a6 => k_is)
    (case l6 => k_is)
    (case c6 => k_is)
    (case k6 => k_is)
    (case z_Exception => k_is)
    (case z_KeyError => k_is)
    (case z_RuntimeError => k_is)
    (case z_ValueError => k_is)
    (case z_isinstance => k_is)
    (case z_len => k_is)
    (case z_max => k_is)
    (case z_min => k_is)
    (case z_range => k_is)
    (case aC_RoomError => k_is)
    (case aC_BadText => k_is)
    (case aC_BadCount => k_is)
    (case aC_BadRow => k_is)
    (case aC_BadNumber => k_is)
    (case aC_BadNet => k_is)
    (case aC_BadRooms => k_is)
    (case aC_Small => k_is)
    (case aC_BadGroup => k_is)
    (case aC_NoKnot => k_is)
    (case aC_BadCourse => k_is)
    (case aC_BadPrices => k_is)
    (case aC_BadList => k_is)
    (case aC_NotRight => k_is)
    (case aC_NoEntry => k_is)
    (case aC_NoProcess => k_is)
    (case aC_NoChannel => k_is)
    (case aC_NoStore => k_is)
    (case aC_Refused => k_is)
    (case aC_TooLong => k_is)
    (case aC_TooMany => k_is)
    (case aC_BadVector => k_is)
    (case aC_NotSo => k_is)
    (case aC_BadLine => k_is)
    (case aC_BadPaper => k_is)
    (case aC_BadPolicy => k_is)
    (case aC_NoBeat => k_is)
    (case aC_BadPace => k_is)
    (case aC_BadBeats => k_is)
    (case aC_BadChange => k_is)
    (case aC_BadSeeds => k_is)
    (case aC_BadValue => k_is)
    (case aC_BadEntries => k_is)
    (case aC_BadJournal => k_is)
    (case aC_BadEvent => k_is)
    (case aC_BadEvents => k_is)
    (case aC_BadPlan => k_is)
    (case aC_BadQuestion => k_is)
    (case aC_NotStraight => k_is)
    (case zS => k_is)
    (case mt => decide +kernel)
    (case tp => k_is)
    (case aI_NoEntry => k_is)
    (case lI_NoEntry => k_is)
    (case cI_NoEntry => k_is)
    (case lcI_NoEntry => k_is)
    (case lvI_NoEntry => rfl)
    (case lfI_NoEntry => decide +kernel)
    (case lcc_NoEntry => k_is)
    (case lD_NoEntry => k_is)
    (case aI_Refused => k_is)
    (case lI_Refused => k_is)
    (case cI_Refused => k_is)
    (case lcI_Refused => k_is)
    (case lvI_Refused => rfl)
    (case lfI_Refused => decide +kernel)
    (case lcc_Refused => k_is)
    (case lD_Refused => k_is)
    (case aI_RoomError => k_is)
    (case lI_RoomError => k_is)
    (case cI_RoomError => k_is)
    (case lcI_RoomError => k_is)
    (case lvI_RoomError => rfl)
    (case lfI_RoomError => decide +kernel)
    (case lcc_RoomError => k_is)
    (case lD_RoomError => k_is)
    (case bC_RoomError => kernel_rfl)
    (case bC_BadText => kernel_rfl)
    (case bC_BadCount => kernel_rfl)
    (case bC_BadRow => kernel_rfl)
    (case bC_BadNumber => kernel_rfl)
    (case bC_BadNet => kernel_rfl)
    (case bC_BadRooms => kernel_rfl)
    (case bC_Small => kernel_rfl)
    (case bC_BadGroup => kernel_rfl)
    (case bC_NoKnot => kernel_rfl)
    (case bC_BadCourse => kernel_rfl)
    (case bC_BadPrices => kernel_rfl)
    (case bC_BadList => kernel_rfl)
    (case bC_NotRight => kernel_rfl)
    (case bC_NoEntry => kernel_rfl)
    (case bC_NoProcess => kernel_rfl)
    (case bC_NoChannel => kernel_rfl)
    (case bC_NoStore => kernel_rfl)
    (case bC_Refused => kernel_rfl)
    (case bC_TooLong => kernel_rfl)
    (case kC_TooLong => k_is)
    (case bC_TooMany => kernel_rfl)
    (case kC_TooMany => k_is)
    (case bC_BadVector => kernel_rfl)
    (case bC_NotSo => kernel_rfl)
    (case bC_BadLine => kernel_rfl)
    (case bC_BadPaper => kernel_rfl)
    (case bC_BadPolicy => kernel_rfl)
    (case bC_NoBeat => kernel_rfl)
    (case bC_BadPace => kernel_rfl)
    (case bC_BadBeats => kernel_rfl)
    (case bC_BadChange => kernel_rfl)
    (case bC_BadSeeds => kernel_rfl)
    (case bC_BadValue => kernel_rfl)
    (case bC_BadEntries => kernel_rfl)
    (case bC_BadJournal => kernel_rfl)
    (case bC_BadEvent => kernel_rfl)
    (case bC_BadEvents => kernel_rfl)
    (case bC_BadPlan => kernel_rfl)
    (case bC_BadQuestion => kernel_rfl)
    (case bC_NotStraight => kernel_rfl)
    (case kC_NotStraight => k_is)
    (case tabC => kernel_rfl)
    (case fl_value => kernel_rfl)
    (case fl_word => kernel_rfl)
