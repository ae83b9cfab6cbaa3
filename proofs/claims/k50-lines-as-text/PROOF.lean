import PyProof.Rows.All
import Wide.All
import OpenK.AllK
import Wide.FinOn
import PyProof.EqAt
import PyProof.EqKinds
import PyProof.TupleCall
import KE.OsGo
import KE.KExcSuper
import KE.KExcTry
import KE.KExcStr
import KE.KExcIs
import KE.KIsAll
import HandS.ExcIs
import HandS.IsInst
import HandS.ForExc
import HandS.ForMost
import HandS.Wide
import HandS.Flow
import HandS.TupAny
import HandS.Style
import HandS.Star
import HandS.ClsMeth
import HandS.FStr
import HandS.SlotsOwn
import KE.KOpsOwn
import PyProof.InstNe
import HandS.Defaults
import KE.KxField
import HandS.Codes
import HandS.OwnEq
import PyProof.NeKinds
import HandS.Text
import HandS.MakeKw
import HandS.MakeKwOnly
import KE.KCallOwn
import PySem.Challenge.RW_leastrooms_k50_lines_as_text
set_option Elab.async false
set_option linter.all false
set_option maxRecDepth 100000
set_option maxHeartbeats 4000000
/-! RoomX: the errors of the program: class RoomError(ValueError) with super().__init__(value); self.value = value, and the classes under it. -/
namespace PySem
namespace RoomX
open PySem.W PySem.Calls PyProof.Rows PySem.HandSPX
/-! ### the text of __init__ -/
def iA (p1 p2 : Pos) : Arguments := { posonlyargs := [], args := [{ arg := "self", annotation := none, pos := p1 }, { arg := "value", annotation := none, pos := p2 }], vararg := none, kwonlyargs := [], kw_defaults := [], kwarg := none, defaults := [] }
def iB (q1 q2 q3 q4 q5 q6 r1 r2 r3 r4 : Pos) : List Stmt :=
  [.Expr (.Call (.Attribute (.Call (.Name "super" q1) [] [] q2) "__init__" q3) [.Name "value" q4] [] q5) q6,
   .Assign [.Attribute (.Name "self" r1) "value" r2] (.Name "value" r3) r4]
def iS : Scope := { kind := .function, names := [(PySem.Str.ofString "self", .local), (PySem.Str.ofString "value", .local), (PySem.Str.ofString "__class__", .free), (PySem.Str.ofString "super", .globalImplicit)], isGenerator := false, isCoroutine := false, more := [] }
/-- what the written part says of RoomError, at D, and of its __init__, at fI -/
structure RoomTxt (prog : Program) (K : Frag) (mg : Str → Option Value) (D fI : Addr) : Prop where
  fn : ∃ (oc : Value) (od : Option Addr) (doc pm : Value) (an : Option Addr) (cda cc : Addr) (ct : Value) (osl : Array (Option Value)) (p1 p2 q1 q2 q3 q4 q5 q6 r1 r2 r3 r4 : Pos),
    K.lookup fI = some ⟨oc, od, .func (ksFn "__init__" "RoomError.__init__" (iA p1 p2) (iB q1 q2 q3 q4 q5 q6 r1 r2 r3 r4) iS .none .none doc pm an (.ref cda) ct cc), osl⟩ ∧ codeIn K (.ref cda) "RoomError.__init__" = true ∧ (q3.endLine == q5.line) = true ∧
    (∃ ccl cdd vs ccs file tf, K.lookup cda = some ⟨ccl, cdd, .fields vs, ccs⟩ ∧ vs[2]? = some (.str file tf) ∧ ((prog.main.file : Str) == file) = true) ∧
    (∃ cl cld csl, K.lookup cc = some ⟨cl, cld, .cell (some (.ref D)), csl⟩)
  cD : ∃ cd, clsIn K D = some cd
  msup : mg "super" = none
  mtop : (prog.main.scope.names.lookup ("super" : Str)).isSome = false
  tp : nsIn K cStatics "thirdparty.any" = some none
/-- .. of a class of errors, at C, called nm in the text -/
structure RoomCls (K : Frag) (mg : Str → Option Value) (nm : Str) (C D fI : Addr) : Prop where
  gC : mg nm = some (.ref C)
  cls : ∃ nm q N bs bm sn sub ab col dd k0 k1 k2 k3 k5, K.lookup C = some (excClassObj nm q C N bs bm true sn sub ab col dd k0 k1 k2 k3 k5 "ValueError.__new__") ∧ refsVE bm = true
  sa : findIn K (.ref C) "__setattr__" = some (some (.builtin "object.__setattr__"))
  ga : findIn K (.ref C) "__getattribute__" = some (some (.builtin "BaseException.__getattribute__"))
  gg : findIn K (.ref C) "__getattr__" = some none
  noN : findIn K (.ref C) "value" = some none
  iC : findIn K (.ref C) "__init__" = some (some (.ref fI))
  tC : typeIn K (.ref fI) = some (.type "function")
  kC : keepIn K (.ref C) = true
  exC : subIn K (.ref C) (.type "BaseException") = some true
  veC : subIn K (.ref C) (.type "ValueError") = some true
  tyC : typeIn K (.ref C) = some (.type "type")
  hdC : hasDictIn K C = true
  icl : isClsIn K C = true
  scC : subIn K (.ref C) (.ref C) = some true
  sup : ks_superIn K C D "__init__" = some (some (.builtin "ValueError.__init__"))
  mro : mroIn K C (.ref D) = some true
theorem one_size (v : Value) : [v].length ≤ sizeLine := by
  rw [sizeLine_eq]
  exact (by decide : 1 ≤ 16777216)
theorem ldX {M : Model} {s : Shared} {name : Str} {scope : Scope} {L a : Addr} {cd : Value} {cc : Addr} {m : Str → Option Value} {x : Str} {pos : Pos} {v : Value} {Q : Value → Shared → Prop} {A : Around} {E : Value → Shared → Prop} (hn : s.heap.Ns L m) (hv : m x = some v) (h : Q v s)
    (hk : scope.kind = .function := by rfl) (hl : (ksEnv name scope L a cd cc).kindOf x = some .local := by rfl) (hd : (x == ("__debug__" : Str)) = false := by decide) :
    wpAny M A (eval (.Name x pos) (ksEnv name scope L a cd cc)) Q E s := wpAny_Name (wpAny_loadName_local hk hl hn hv h) hd
/-- the bound ValueError.__init__ called: the args are laid anew -/
theorem call_mw {prog : Program} {w : World} {A : Around} {E : Value → Shared → Prop} {h : Heap} {g : Array GenState} {d : Drawn} {t : Nat} {os : OsState}
    {nm q : Str} {C N : Addr} {bs bm : List Value} {hdct : Bool} {sn : List Str} {sub : List Value} {ab : Bool} {col : Option Bool} {dd : Option Addr} {k0 k1 k2 k3 k5 : Option Value} {u e t0 : Addr} {rest : List Value} {Q : Value → Shared → Prop}
    (hC : h.get? C = some (excClassObj nm q C N bs bm hdct sn sub ab col dd k0 k1 k2 k3 k5 "ValueError.__new__")) (he : h.get? e = some (excO C t0)) (hu : h.get? u = some (kxs_mw "ValueError.__init__" e)) (hrest : rest.length ≤ sizeLine)
    (hq : ∀ h' t1, (∀ b o, b ≠ e → h.get? b = some o → h'.get? b = some o) → h'.get? e = some (excO C t1) → Q .none ⟨h', g, d, t, os⟩) :
    wpAny (model prog w) A (call (.ref u) rest) Q E ⟨h, g, d, t, os⟩ := by
  refine wpAny_call (codeAny_of_tree ?_)
  show wpAny _ A.in1 (callAny (.ref u) ⟨rest, []⟩) _ _ _
  simp only [callAny]
  refine wpAny_bind (wpAny_load hu ?_)
  simp only [kxs_mw, show (Value.type "method-wrapper" == Value.type "method" || Value.type "method-wrapper" == Value.type "builtin_function_or_method" || Value.type "method-wrapper" == Value.type "method-wrapper") = true by decide, if_true]
  refine KFB.if_so (by decide) ?_
  refine wpAny_bind (check_bound_init F.excBase_ValueError.toExcCallFacts hC he rfl ?_)
  refine wpAny_bind (wpAny_pure (wpAny_pure ?_))
  refine ⟨plainId_quiet F.excBase_ValueError.init.plain _, codeAny_builtin F.excBase_ValueError.initEntry ?_⟩
  rw [Around.under_plainId F.excBase_ValueError.init.plain _]
  wp_walk
  refine hq _ h.objs.size (fun b o hb ho => ?_) ?_
  · rw [Heap.get?_update_other _ _ (Ne.symm hb)]
    exact Heap.get?_push_of_some _ ho
  · rw [Heap.get?_update_self _ (Heap.get?_push_of_some _ he) rfl]
    rfl
/-- what __init__ leaves of a fresh exception at x -/
structure InitEnd (h h' : Heap) (x C dx : Addr) (v : Value) : Prop where
  keep : ∀ b o, b ≠ x → h.get? b = some o → h'.get? b = some o
  obj : ∃ t1 : Addr, h'.get? x = some { cls := .ref C, dict := some dx, data := .fields #[.ref t1, .none, .none, .none, .bool false, .none] }
  dbig : h.objs.size ≤ dx
  dne : dx ≠ x
  ns : h'.Ns1 dx (fun y => if y = "value" then some v else none)
/-- a made error -/
structure OwnMade (h h' : Heap) (e C d : Addr) (v : Value) : Prop where
  keep : ∀ b o, h.get? b = some o → h'.get? b = some o
  new : h.objs.size ≤ e
  obj : ∃ oe vs, h'.get? e = some oe ∧ oe.cls = .ref C ∧ oe.dict = some d ∧ oe.data = .fields vs ∧ vs[1]? = some .none
  dbig : h.objs.size ≤ d
  dne : d ≠ e
  ns : h'.Ns1 d (fun y => if y = "value" then some v else none)
section
variable {prog : Program} {w : World} {A : Around} {E : Value → Shared → Prop} {R : Result → Shared → Prop} {s : Shared} {K : Frag} {mg : Str → Option Value} {nm : Str} {C D fI : Addr}
theorem room_init (T : RoomTxt prog K mg D fI) (U : RoomCls K mg nm C D fI) {x t0 : Addr} {v : Value} (X : K.In s.heap) (hlim : s.heap.NoLimit) (hG : s.heap.Ns mainGlobals mg) (hB : ∃ mb, s.heap.Ns builtinsNs mb ∧ ∀ x : Str, x ≠ "__name__" → mb x = bootBuiltins x)
    (hx : s.heap.get? x = some (excO C t0)) (hnx : K.lookup x = none) (hroom : A.depth < recursionLimit)
    (hq : ∀ h' tk dx, InitEnd s.heap h' x C dx v → R (.ok (.ret .none)) { s with heap := h', toks := tk }) :
    codeAny (model prog w) A (.call (.ref fI) ⟨[.ref x, v], []⟩) R s := by
  obtain ⟨oc, od, doc, pm, an, cda, cc, ct, osl, p1, p2, q1, q2, q3, q4, q5, q6, r1, r2, r3, r4, ho, hcd, hline, ⟨ccl, cdd, cvs, ccs, file, tf, hcode, hvs, hfile⟩, ⟨cl, cld, csl, hcell⟩⟩ := T.fn
  obtain ⟨cn, q, N, bs, bm, sn, sub, ab, col, dd, k0, k1, k2, k3, k5, hC, hbm⟩ := U.cls
  obtain ⟨cdD, hD⟩ := T.cD
  obtain ⟨mb, hBn, hBx⟩ := hB
  have hcl : clsIn K C = some { name := cn, bases := bs, mro := .ref C :: bm, ns := N, qualname := q, hasDict := true, slotNames := sn, subclasses := sub, abstract := ab, collection := col, hasDel := false } := by unfold clsIn; rw [hC] <;> rfl
  refine ks_codeAny_call_defAt (fd := ksFn "__init__" "RoomError.__init__" (iA p1 p2) (iB q1 q2 q3 q4 q5 q6 r1 r2 r3 r4) iS .none .none doc pm an (.ref cda) ct cc) (body := iB q1 q2 q3 q4 q5 q6 r1 r2 r3 r4) (binds := [("self", .ref x), ("value", v)]) hroom (X _ _ ho) rfl hlim (codeRec_of X hcd) rfl
    (BindsTo.of_eq (by first | rfl | with_unfolding_all rfl)) (show ∀ x ∈ iS.names, x.2 ≠ NameKind.cell from by decide) (fun y hy => by
      rcases List.mem_cons.mp hy with rfl | hy
      · rfl
      rcases List.mem_cons.mp hy with rfl | hy
      · rfl
      · cases hy) (fun h₁ hn k => ?_) rfl rfl rfl
  have hxL : s.heap.objs.size ≠ x := Nat.ne_of_gt (Heap.lt_size hx)
  have X₁ : K.In h₁ := X.keeps k
  have hx₁ := k _ _ hx
  obtain ⟨hp, g, d, t, os⟩ := s
  show _root_.PySem.wpAt _ _ _ (execs (iB q1 q2 q3 q4 q5 q6 r1 r2 r3 r4) (ksEnv "RoomError.__init__" iS hp.objs.size fI (.ref cda) cc)) _ _ _
  have I₁ : InstAt h₁ x (excO C t0) C none := ⟨hx₁, rfl, rfl, trivial⟩
  obtain ⟨oD, hD1, hD2⟩ : ∃ oD, h₁.get? D = some oD ∧ oD.data = .cls cdD := by
    unfold clsIn at hD
    split at hD
    · rename_i c d cd' sl ho
      cases hD
      exact ⟨_, X₁ _ _ ho, rfl⟩
    · cases hD
  -- super().__init__(value)
  refine ks_wpAt_execs_cons (ks_wpAt_Expr_any (ks_wpAt_MethodCall (pl := (do return (← importBound (.Call (.Name "super" q1) [] [] q2) (ksEnv "RoomError.__init__" iS hp.objs.size fI (.ref cda) cc)).getD true)) ?_ ?he))
  case he =>
    show (do
      let ov ← attributeBase (.Call (.Name "super" q1) [] [] q2) "__init__" (ksEnv "RoomError.__init__" iS hp.objs.size fI (.ref cda) cc) (eval (.Call (.Name "super" q1) [] [] q2) (ksEnv "RoomError.__init__" iS hp.objs.size fI (.ref cda) cc))
      standAt q3.atName
      methodCall (.Call (.Name "super" q1) [] [] q2) "__init__" q3 q5 (ksEnv "RoomError.__init__" iS hp.objs.size fI (.ref cda) cc) ov 1 (backTo q5 (starEach [.Name "value" q4] (ksEnv "RoomError.__init__" iS hp.objs.size fI (.ref cda) cc))) []) = _
    have e1 : methodCallForm 1 (backTo q5 (starEach [.Name "value" q4] (ksEnv "RoomError.__init__" iS hp.objs.size fI (.ref cda) cc))) [] = true := rfl
    unfold methodCall methodCallPos calleeOf
    rw [e1]
    simp only [hline, if_true, Bool.not_true, Bool.or_true, pure_bind]
    try rfl
  refine ks_wpAt_super_base (env := ksEnv "RoomError.__init__" iS hp.objs.size fI (.ref cda) cc) (by rfl) (by rfl) (by decide) rfl (X₁ _ _ ho) rfl (ar := { arg := "self", annotation := none, pos := p1 }) rfl rfl (X₁ _ _ hcode) rfl hvs hfile T.mtop ?_
  refine ks_loadName_global rfl (by rfl) (loadGlobal_builtin (env := ksEnv "RoomError.__init__" iS hp.objs.size fI (.ref cda) cc) (hG.keeps k) T.msup (hBn.keeps k) ((hBx _ (by decide +kernel)).trans (by decide +kernel)) ⟨rfl, ?_⟩)
  refine wpAny_loadName_free rfl (by rfl) rfl ⟨_, X₁ _ _ hcell, rfl⟩ ?_
  refine wpAny_loadName_local rfl (by rfl) hn (by first | rfl | with_unfolding_all rfl | kernel_rfl) ?_
  refine ks_wpAny_isType_cls hD1 hD2 ⟨rfl, ?_⟩
  refine ks_wpAny_call_super hD1 hD2 I₁.at_ I₁.cls (fun c e => ?_) (looks_mroIn X₁ U.mro) (fun h₂ hso k₂ => ?_)
  · cases e
  have X₂ : K.In h₂ := X₁.keeps k₂
  have hx₂ := k₂ _ _ hx₁
  have I₂ : InstAt h₂ x (excO C t0) C none := ⟨hx₂, rfl, rfl, trivial⟩
  have hsup : alongIn K "__init__" (((.ref C :: bm : List Value).dropWhile (· != .ref D)).drop 1) = some (some (.builtin "ValueError.__init__")) := by
    have z := U.sup
    unfold ks_superIn at z
    rw [hcl] at z
    exact z
  refine kxs_getMethod kxs_ValueError hso (looks_opaque X₂ T.tp) (l₀ := .ref C :: bm) ?_ rfl X₂ hsup (I₂.type.andThen (looks_subIn X₂ U.veC)) (ks_ne X₂ I₂ hcl) (by decide) ?_
  · exact fun A Q E s k q => wpAny_bind ((looks_clsIn X₂ hcl) A _ E s k (wpAny_pure q))
  have k₃ : ∀ b o, h₂.get? b = some o → (h₂.push (kxs_mw "ValueError.__init__" x)).get? b = some o := fun b o e => Heap.get?_push_of_some _ e
  have hn₃ : (h₂.push (kxs_mw "ValueError.__init__" x)).Ns hp.objs.size (fun y => ([("self", .ref x), ("value", v)] : List (Str × Value)).reverse.lookup y) := (hn.keeps k₂).keeps k₃
  have hu₃ : (h₂.push (kxs_mw "ValueError.__init__" x)).get? h₂.objs.size = some (kxs_mw "ValueError.__init__" x) := Heap.get?_push_at rfl rfl
  dsimp only
  refine kxs_callWith (i := "ValueError.__init__") (x := x) rfl ?_
  rw [show starEach [Expr.Name "value" q4] (ksEnv "RoomError.__init__" iS hp.objs.size fI (.ref cda) cc) = [(false, eval (.Name "value" q4) (ksEnv "RoomError.__init__" iS hp.objs.size fI (.ref cda) cc))] from rfl]
  refine evalArgs_plain ?_
  refine Calls.spliced_cons (ldX (v := v) hn₃ (by first | rfl | with_unfolding_all rfl | kernel_rfl) (Calls.spliced_nil ⟨hu₃, ?_⟩))
  refine call_mw (e := x) (t0 := t0) (rest := [v]) (k₃ _ _ (X₂ _ _ hC)) (k₃ _ _ hx₂) hu₃ (one_size v) (fun h₄ t1 k₄ hx₄ => ?_)
  -- self.value = value
  have hn₄ : h₄.Ns hp.objs.size (fun y => ([("self", .ref x), ("value", v)] : List (Str × Value)).reverse.lookup y) := by
    obtain ⟨oL, es, ep, hL, r⟩ := hn₃
    exact ⟨oL, es, ep, k₄ _ _ hxL hL, r⟩
  have X₄ : K.In h₄ := fun a o e => k₄ a o (fun z => by rw [z, hnx] at e; cases e) (k₃ _ _ (X₂ a o e))
  refine wpAt_of_wpAny ?_
  refine wpAny_execs_cons (plainObj_wpAny_Assign_Attribute ?_)
  refine ldX (v := v) hn₄ (by first | rfl | with_unfolding_all rfl | kernel_rfl) (ldX (v := .ref x) hn₄ (by first | rfl | with_unfolding_all rfl | kernel_rfl) ?_)
  refine set_plain X₄ (ox := excO C t1) (od := none) ⟨hx₄, rfl, rfl, trivial⟩ U.sa ?_
  refine exc_osa X₄ hx₄ hcl (show refsVE (.ref C :: bm) = true from hbm) rfl U.noN (fun h₅ tk₅ dx k₅ dn dne hx₅ hn₅ => ?_)
  show wpAny _ _ (execs _ _) _ _ _
  have all : ∀ b o, b ≠ x → hp.get? b = some o → h₄.get? b = some o := fun b o hb e => k₄ b o hb (k₃ _ _ (k₂ _ _ (k b o e)))
  have sz : hp.objs.size ≤ h₄.objs.size := Nat.le_of_lt hn₄.lt
  exact wpAny_execs_nil (hq h₅ tk₅ dx ⟨fun b o hb e => k₅ b o hb (all b o hb e), ⟨t1, hx₅⟩, Nat.le_trans sz dn, dne, hn₅⟩)
theorem room_made (T : RoomTxt prog K mg D fI) (U : RoomCls K mg nm C D fI) {v : Value} (X : K.In s.heap) (hlim : s.heap.NoLimit) (hG : s.heap.Ns mainGlobals mg) (hB : ∃ mb, s.heap.Ns builtinsNs mb ∧ ∀ x : Str, x ≠ "__name__" → mb x = bootBuiltins x) (hroom : A.depth + 1 < recursionLimit)
    (hq : ∀ h' tk e d, OwnMade s.heap h' e C d v → R (.ok (.ret (.ref e))) { s with heap := h', toks := tk }) :
    codeAny (model prog w) A (.call (.ref C) ⟨[v], []⟩) R s := by
  obtain ⟨nm, q, N, bs, bm, sn, sub, ab, col, dd, k0, k1, k2, k3, k5, hC, hbm⟩ := U.cls
  obtain ⟨hp, g, dr, tk, os⟩ := s
  have k : ∀ b o, hp.get? b = some o → ((hp.push (kdv_tup [v])).push (excO C hp.objs.size)).get? b = some o := fun b o e => Heap.get?_push_of_some _ (Heap.get?_push_of_some _ e)
  have hget : ((hp.push (kdv_tup [v])).push (excO C hp.objs.size)).get? (hp.objs.size + 1) = some (excO C hp.objs.size) := by heap_get
  have hnx : K.lookup (hp.objs.size + 1) = none := by
    cases e : K.lookup (hp.objs.size + 1) with
    | none => rfl
    | some o =>
      have z : hp.get? (hp.objs.size + 1) = some o := X _ _ e
      exact absurd (Nat.lt_of_succ_lt (Heap.lt_size z)) (Nat.lt_irrefl _)
  obtain ⟨mb, hBn, hBx⟩ := hB
  refine call_own F.excBase_ValueError (fun X => refsVE_contains X bm hbm) (X _ _ hC) (looks_findIn X U.iC) (fun self => bind_fn X self U.tC) (one_size v) ?_
  refine room_init (s := ⟨(hp.push (kdv_tup [v])).push (excO C hp.objs.size), g, dr, tk, os⟩) T U (X.keeps k) (hlim.keeps k) (hG.keeps k) ⟨mb, hBn.keeps k, hBx⟩ hget hnx ?_ fun h' tk' dx ⟨k', ⟨t1, hx⟩, dn, dne, hns⟩ => ?_
  · show A.depth + 1 < recursionLimit
    exact hroom
  · have old : ∀ b o, hp.get? b = some o → h'.get? b = some o := fun b o e => k' b o (Nat.ne_of_lt (Nat.lt_succ_of_lt (Heap.lt_size e))) (k b o e)
    have z : hp.objs.size + 1 + 1 ≤ dx := by
      first
        | (simpa only [Heap.size_push] using dn)
        | exact dn
        | (have q := dn; rw [Heap.size_push, Heap.size_push] at q; exact q)
    exact ⟨rfl, hq h' tk' (hp.objs.size + 1) dx ⟨old, Nat.le_succ _, ⟨_, _, hx, rfl, rfl, rfl, rfl⟩, Nat.le_trans (Nat.le_trans (Nat.le_succ _) (Nat.le_succ _)) z, dne, hns⟩⟩
end
end RoomX
end PySem
namespace L2
open PySem PySem.Spec PyProof.Rows
theorem relO_one {f0 : Str} {v : V} {v' : Value} (r : RelV v v') (f : Str) : RelO (List.lookup f [(f0, v)]) (if f = f0 then some v' else none) := by
  by_cases hw : f = f0
  · subst hw
    rw [if_pos rfl]
    have q : List.lookup f [(f, v)] = some v := by simp [List.lookup]
    rw [q]
    exact r
  · rw [if_neg hw]
    have qw : (f == f0) = false := by simpa using hw
    have q2 : List.lookup f [(f0, v)] = none := by simp [List.lookup, qw]
    rw [q2]
    trivial
section
variable {X : Cx} {nm : Str} {C D fI : Addr}
/-- the dict of an error with this value -/
abbrev xval (v : V) : HO := .xd [(("value" : Str), v)]
/-- C(e) -/
def tMkRoom (C : Addr) (ta : TA) : St → Hp → XK → Prop := fun σ H Q => ta σ H fun vs H1 => ∃ v, vs = [v] ∧ ∀ d, H1 d = none → Q (.ref C) (some d) (upd H1 d (xval v))
theorem pmk_room {a : Expr} {ta : TA} {p pos : Pos} {k : Nat} (T : PySem.RoomX.RoomTxt X.prog X.K X.mg D fI) (U : PySem.RoomX.RoomCls X.K X.mg nm C D fI) (hr : Room k X.A) (ha : PA X [a] ta) (hg : Gl X nm := by rfl)
    (he : starEach (a :: []) X.env = (false, eval a X.env) :: starEach [] X.env := by rfl) (hpl : (backTo pos (starEach [] X.env)).any (·.1) = false := by rfl) (hdb : (nm == ("__debug__" : Str)) = false := by decide) :
    PMk X (.Call (.Name nm p) [a] [] pos) (tMkRoom C ta) := by
  intro pins s σ H Q I h
  refine wpAny_Call_Name_kw (ld_glob I hg U.gC ?_ hdb)
  refine PySem.W.callWith_K (h₀ := X.base) I.ok.mod.kin U.kC (thn (ha.run pos pins s σ H _ I h) fun us s1 hh => ?_) he hpl
  obtain ⟨vs, H1, I1, r1, v, ev, q1⟩ := hh
  subst ev
  refine ⟨I1.kIn, ?_⟩
  cases r1 with
  | cons rv rn =>
    rename_i v' us'
    cases rn
    show wpAny _ _ (call (.ref C) [v']) _ _ _
    have hlim := I1.nolimit
    have hG := I1.mod.glob.keeps I1.bk
    obtain ⟨mb, hBn, hBx⟩ := I1.mod.blt
    have hBn' := hBn.keeps I1.bk
    obtain ⟨hp, g, dr, tk, os⟩ := s1
    refine wpAny_call (PySem.RoomX.room_made T U I1.kIn hlim hG ⟨mb, hBn', hBx⟩ (by have := hr.dp; omega) fun h' tk' e d M => ?_)
    show MkP X pins σ Q (.ref e) ⟨h', g, dr, tk', os⟩
    obtain ⟨oe, fv, hoe, hc, hd, hdat, h1⟩ := M.obj
    have hns := M.ns
    obtain ⟨G', g1, g2⟩ := restrict h' fun b => decide (b ≠ e)
    have gk : ∀ b, b ≠ e → G'.get? b = h'.get? b := fun b hb => g1 b (decide_eq_true hb)
    have ge : G'.get? e = none := g2 e (by simp)
    have old : ∀ b o, hp.get? b = some o → G'.get? b = some o := fun b o q => (gk b (Nat.ne_of_lt (Nat.lt_of_lt_of_le (Heap.lt_size q) M.new))).trans (M.keep b o q)
    have ob : ObjOk X.prog X.w (upd H1 d (xval v)) G' d (xval v) :=
      ⟨_, hns.at (fun o q => (gk d M.dne).trans q), fun f => relO_one rv f⟩
    have J : Inv X pins σ (upd H1 d (xval v)) ⟨G', g, dr, tk', os⟩ := I1.laid (t' := tk') old M.dbig ob
    refine ⟨e, oe, fv, ⟨G', g, dr, tk', os⟩, _, .ref C, some d, rfl, J, fun b o q => ?_, ge, hoe, ⟨hc, hd⟩, hdat, h1, ?_, rfl, I1.bare, raises_own U.exC U.tyC, q1 d (I1.hok.fresh M.dbig)⟩
    · by_cases hb : b = e
      · have q' : G'.get? b = some o := q
        rw [hb, ge] at q'; cases q'
      · exact (gk b hb).symm.trans q
    · rw [upd_ne (Ne.symm M.dne)]
      exact I1.hok.fresh M.new
/-- raise C(e) -/
def tRaiseRoom (C : Addr) (W : WX) (ta : TA) : TS := fun _ σ H => tMkRoom C ta σ H fun cls d H' => W cls d σ H'
theorem ps_raiseRoom {a : Expr} {ta : TA} {W : WX} {p pos pos2 : Pos} {k : Nat} (hc : X.calm = true) (T : PySem.RoomX.RoomTxt X.prog X.K X.mg D fI) (U : PySem.RoomX.RoomCls X.K X.mg nm C D fI) (hr : Room k X.A) (tk : Takes X W) (ha : PA X [a] ta) (hg : Gl X nm := by rfl)
    (he : starEach (a :: []) X.env = (false, eval a X.env) :: starEach [] X.env := by rfl) (hpl : (backTo pos (starEach [] X.env)).any (·.1) = false := by rfl) (hdb : (nm == ("__debug__" : Str)) = false := by decide) :
    PS X (.Raise (some (.Call (.Name nm p) [a] [] pos)) none pos2) (tRaiseRoom C W ta) := ps_raise hc tk (pmk_room T U hr ha hg he hpl hdb)
/-- e.value, e the exception that the suite holds (at a; its class cls, its dict d) -/
def tValRoom (C : Addr) (a : Addr) (cls : Value) (d : Option Addr) (te : TE) : TE := fun σ H Q => te σ H fun x H1 => x = .ref a ∧ cls = .ref C ∧ ∃ (dd : Addr) (v : V), d = some dd ∧ H1 dd = some (xval v) ∧ Q v H1
theorem pe_valRoom {a : Addr} {oe : Obj} {cls : Value} {d : Option Addr} {pn : List (Addr × Obj)} {e : Expr} {te : TE} {pos : Pos} (U : PySem.RoomX.RoomCls X.K X.mg nm C D fI) (hz : Zc cls d oe) (hf : ∃ vs, oe.data = .fields vs) (he : PE (X.suite a ((a, oe) :: pn)) e te)
    (hb : attributeBase e "value" X.env (eval e X.env) = eval e X.env := by rfl) :
    PE (X.suite a ((a, oe) :: pn)) (.Attribute e "value" pos) (tValRoom C a cls d te) := by
  refine ⟨fun pins s σ H Q I h => ?_⟩
  refine attr_of hb (thn (he.run pins s σ H _ I h) fun u s1 hh => ?_)
  obtain ⟨x, H1, I1, rx, ex, ec, dd, v, ed, ea, q⟩ := hh
  subst ex
  obtain rfl : u = Value.ref a := rx
  subst ec
  subst ed
  obtain ⟨ha, _⟩ := I1.pin (a, oe) (List.mem_append_left _ List.mem_cons_self)
  obtain ⟨vs, hd⟩ := hf
  have hx : ObjOk X.prog X.w H1 s1.heap dd (xval v) := I1.hok dd _ ea
  obtain ⟨mA, hns, hr⟩ := hx
  obtain ⟨od, ho, hl⟩ := lookIn_ns hns
  have l : List.lookup ("value" : Str) [(("value" : Str), v)] = some v := by simp [List.lookup]
  obtain ⟨u, hu, ru⟩ := RelO.some_of (v := v) (o := mA "value") (by rw [← l]; exact hr "value")
  have J : PySem.W.InstAt s1.heap a oe C (some od) := ⟨ha, hz.1, by unfold PySem.W.notCls; rw [hd] <;> rfl, by rw [hz.2]; exact ho⟩
  exact HandSPX.exc_get I1.kIn J U.ga U.gg U.exC (PySem.W.findObj_own U.hdC U.noN rfl (by rw [hl, hu])) (handed_of ru) ⟨v, H1, I1.tok _, ru, q⟩
/-- what the class must say more, so that isinstance asks its instances rightly -/
structure RoomIs (K : PySem.W.Frag) (C : Addr) : Prop where
  ha : PySem.W.findIn K (.ref C) "__class__" = some (some (.builtin "object.__class__"))
  hn : PySem.W.specialIn K (.builtin "object.__class__") "__get__" = some (some (.builtin "getset_descriptor.__get__"))
  ht : PySem.W.takesIn K (.builtin "object.__class__") = some true
  hm : PySem.W.mroIn K C (.type "object") = some true
/-- isinstance(e, c), e the exception that the suite holds -/
def rIsR (K : PySem.W.Frag) (C a : Addr) (d : Option Addr) : List V → Hp → VK → Prop := fun xs H Q => ∃ (c : V) (cv : Value) (b : Bool) (dd : Addr) (fs : List (Str × V)), xs = [.ref a, c] ∧ (∀ u, RelV c u → u = cv) ∧ PySem.W.kitOne K (.ref C) cv = some b ∧ d = some dd ∧ H dd = some (.xd fs) ∧ Q (.bl b) H
theorem call_isR {a : Addr} {oe : Obj} {d : Option Addr} {pn : List (Addr × Obj)} (U : PySem.RoomX.RoomCls X.K X.mg nm C D fI) (Y : RoomIs X.K C) (hz : Zc (.ref C) d oe) (hf : ∃ vs, oe.data = .fields vs) : CallR (X.suite a ((a, oe) :: pn)) (.builtin "isinstance") (rIsR X.K C a d) := by
  intro pins s σ H xs us Q I r h
  obtain ⟨c, cv, b, dd, fs, rfl, hcv, e, ed, ea, q⟩ := h
  subst ed
  cases r with
  | cons rx rr =>
    cases rr with
    | cons rt rr =>
      cases rr
      cases rx
      have ec := hcv _ rt
      subst ec
      obtain ⟨hget, _⟩ := I.pin (a, oe) (List.mem_append.mpr (.inl List.mem_cons_self))
      obtain ⟨vs, hv⟩ := hf
      have hx : ObjOk X.prog X.w H s.heap dd (.xd fs) := I.hok dd _ ea
      obtain ⟨mA, hns, hr⟩ := hx
      obtain ⟨od, ho, hl⟩ := lookIn_ns hns
      have J : PySem.W.InstAt s.heap a oe C (some od) := ⟨hget, hz.1, by unfold PySem.W.notCls; rw [hv] <;> rfl, by rw [hz.2]; exact ho⟩
      have hcl : (PySem.W.clsIn X.K C).isSome = true := U.icl
      exact PySem.W.kia_one (PySem.W.kitx_exc hcl U.ga U.gg U.exC Y.ha Y.hn Y.ht Y.hm) I.kIn J e (fun z => nomatch z) fun tk => ⟨.bl b, H, I.kept (t' := tk) fun _ _ z => z, rfl, q⟩
end
end L2
set_option Elab.async false
set_option linter.all false
set_option maxRecDepth 100000
set_option maxHeartbeats 4000000
/-! Dv: readings over plain data. What a def does to data that nobody changes is told without the heap. -/
namespace Dv
open PySem L2
/-! ### data -/
inductive D where
  | non | bl (b : Bool) | int (i : Int) | str (x : Str) | lst (xs : List D) | tup (xs : List D) | obj (C : Addr) (fs : List (Str × D)) | dic (kvs : List (Key × D)) | scr (xs : List D)
/-- numbers of a pool -/
def PoolL (l : List V) : Prop := ∃ a b : Int, l = [.int a, .int b] ∧ 0 ≤ b ∧ b < 4294967296
/-- what is no data (F), what the statements here may change (W), what calls may change (G), what holds all the time (I), the pools, what is owned -/
structure Cfg where
  K : PySem.W.Frag
  F : Addr → Prop
  W : Addr → Prop
  G : Addr → Prop
  I : Hp → Prop
  pl : Addr → Prop
  ow : Nat → Option Addr
  mono : ∀ {H H' : Hp}, (∀ a o, H a = some o → H' a = some o) → I H → I H'
  live : ∀ {H : Hp} {a : Addr}, I H → F a → H a ≠ none
  WF : ∀ {a : Addr}, W a → F a
  GW : ∀ {a : Addr}, G a → W a
  plG : ∀ {p : Addr}, pl p → G p
  owW : ∀ {k : Nat} {a : Addr}, ow k = some a → W a ∧ ¬ G a
  inj : ∀ {k j : Nat} {a : Addr}, ow k = some a → ow j = some a → k = j
  plAt : ∀ {H : Hp} {p : Addr}, I H → pl p → ∃ l, H p = some (.lst l) ∧ PoolL l
  plPut : ∀ {H : Hp} {p : Addr} {l : List V}, I H → pl p → PoolL l → I (upd H p (.lst l))
  owPut : ∀ {H : Hp} {k : Nat} {a : Addr} {o : HO}, I H → ow k = some a → I (upd H a o)
/-- a list, a tuple of the written part -/
def KL (K : PySem.W.Frag) (a : Addr) (xs : List V) : Prop := ∃ (o : Obj) (its : Array Value) (n : Nat), K.lookup a = some o ∧ o.cls = .type "list" ∧ o.dict = none ∧ o.data = .seq its n ∧ its.size ≤ sizeLine ∧ Vals xs its.toList
def KT (K : PySem.W.Frag) (a : Addr) (xs : List V) : Prop := ∃ (o : Obj) (its : Array Value) (n : Nat), K.lookup a = some o ∧ o.cls = .type "tuple" ∧ o.data = .seq its n ∧ its.size ≤ sizeLine ∧ Vals xs its.toList
def InL (c : Cfg) (H : Hp) (a : Addr) (xs : List V) : Prop := (¬ c.F a ∧ Rd H a (.lst xs)) ∨ KL c.K a xs
def InT (c : Cfg) (H : Hp) (a : Addr) (xs : List V) : Prop := (¬ c.F a ∧ Rd H a (.tup xs)) ∨ KT c.K a xs
theorem InL.sq {c : Cfg} {H : Hp} {a : Addr} {xs : List V} (h : InL c H a xs) : SqL c.K H a xs := h.elim (fun z => .inl z.2) .inr
theorem InT.sq {c : Cfg} {H : Hp} {a : Addr} {xs : List V} (h : InT c H a xs) : SqT c.K H a xs := h.elim (fun z => .inl z.2) .inr
mutual
inductive Rp (c : Cfg) (H : Hp) : V → D → Prop
  | non : Rp c H .non .non
  | bl (b : Bool) : Rp c H (.bl b) (.bl b)
  | int (i : Int) : Rp c H (.int i) (.int i)
  | str (x : Str) : Rp c H (.str x) (.str x)
  | lst {a : Addr} {xs : List V} {ds : List D} : ¬ c.F a → Rd H a (.lst xs) → RpAll c H xs ds → Rp c H (.ref a) (.lst ds)
  | scr {a : Addr} {xs : List V} {ds : List D} : InL c H a xs → RpAll c H xs ds → Rp c H (.ref a) (.scr ds)
  | tup {a : Addr} {xs : List V} {ds : List D} : InT c H a xs → RpAll c H xs ds → Rp c H (.ref a) (.tup ds)
  | obj {a C dx : Addr} {fs : List (Str × V)} {ds : List (Str × D)} : ¬ c.F a → H a = some (.ins C dx fs) → RpFs c H fs ds → Rp c H (.ref a) (.obj C ds)
  | dic {a : Addr} {kvs : List (Key × V)} {ds : List (Key × D)} : ¬ c.F a → Rd H a (.dK kvs) → RpKv c H kvs ds → Rp c H (.ref a) (.dic ds)
inductive RpAll (c : Cfg) (H : Hp) : List V → List D → Prop
  | nil : RpAll c H [] []
  | cons {v : V} {d : D} {vs : List V} {ds : List D} : Rp c H v d → RpAll c H vs ds → RpAll c H (v :: vs) (d :: ds)
inductive RpFs (c : Cfg) (H : Hp) : List (Str × V) → List (Str × D) → Prop
  | nil : RpFs c H [] []
  | cons {n : Str} {v : V} {d : D} {vs : List (Str × V)} {ds : List (Str × D)} : Rp c H v d → RpFs c H vs ds → RpFs c H ((n, v) :: vs) ((n, d) :: ds)
inductive RpKv (c : Cfg) (H : Hp) : List (Key × V) → List (Key × D) → Prop
  | nil : RpKv c H [] []
  | cons {n : Key} {v : V} {d : D} {vs : List (Key × V)} {ds : List (Key × D)} : Rp c H v d → RpKv c H vs ds → RpKv c H ((n, v) :: vs) ((n, d) :: ds)
end
/-- what stands outside of F stands -/
def Kp (F : Addr → Prop) (H H' : Hp) : Prop := ∀ a o, ¬ F a → H a = some o → H' a = some o
structure Go (c : Cfg) (H H' : Hp) : Prop where
  keep : Kp c.G H H'
  inv : c.I H'
theorem Cfg.GF (c : Cfg) {a : Addr} (h : c.G a) : c.F a := c.WF (c.GW h)
theorem Cfg.plF (c : Cfg) {a : Addr} (h : c.pl a) : c.F a := c.GF (c.plG h)
theorem Kp.self {F : Addr → Prop} {H : Hp} : Kp F H H := fun _ _ _ e => e
theorem Kp.trans {F : Addr → Prop} {H H1 H2 : Hp} (a : Kp F H H1) (b : Kp F H1 H2) : Kp F H H2 := fun x o n e => b x o n (a x o n e)
theorem Kp.le {F G : Addr → Prop} {H H1 : Hp} (h : ∀ a, F a → G a) (a : Kp F H H1) : Kp G H H1 := fun x o n e => a x o (fun z => n (h x z)) e
theorem Go.kF {c : Cfg} {H H' : Hp} (g : Go c H H') : Kp c.F H H' := g.keep.le fun _ z => c.GF z
theorem Go.kW {c : Cfg} {H H' : Hp} (g : Go c H H') : Kp c.W H H' := g.keep.le fun _ z => c.GW z
theorem Go.self {c : Cfg} {H : Hp} (h : c.I H) : Go c H H := ⟨Kp.self, h⟩
theorem Go.trans {c : Cfg} {H H1 H2 : Hp} (a : Go c H H1) (b : Go c H1 H2) : Go c H H2 := ⟨a.keep.trans b.keep, b.inv⟩
theorem Kp.new {F : Addr → Prop} {H : Hp} {p : Addr} {o : HO} (h : H p = none) : Kp F H (upd H p o) := fun a u _ e => by
  rw [upd_ne (ne_of_none e h)]
  exact e
theorem Go.new {c : Cfg} {H : Hp} {p : Addr} {o : HO} (hi : c.I H) (h : H p = none) : Go c H (upd H p o) := ⟨Kp.new h, c.mono (fun a u e => by
  rw [upd_ne (ne_of_none e h)]
  exact e) hi⟩
theorem Cfg.fresh (c : Cfg) {H : Hp} {p : Addr} (hi : c.I H) (h : H p = none) : ¬ c.F p := fun z => c.live hi z h
theorem rd_kp {F : Addr → Prop} {H H' : Hp} {a : Addr} {u : HO} (k : Kp F H H') (n : ¬ F a) (h : Rd H a u) : Rd H' a u := by
  rcases h with h | ⟨o, h⟩
  · exact .inl (k a _ n h)
  · exact .inr ⟨o, k a _ n h⟩
theorem InL.to {c c' : Cfg} {H H' : Hp} {a : Addr} {xs : List V} (eK : c'.K = c.K) (lF : ∀ a, c'.F a → c.F a) (k : Kp c.F H H') (h : InL c H a xs) : InL c' H' a xs := by
  rcases h with ⟨n, h⟩ | h
  · exact .inl ⟨fun z => n (lF _ z), rd_kp k n h⟩
  · exact .inr (by rw [eK]; exact h)
theorem InT.to {c c' : Cfg} {H H' : Hp} {a : Addr} {xs : List V} (eK : c'.K = c.K) (lF : ∀ a, c'.F a → c.F a) (k : Kp c.F H H') (h : InT c H a xs) : InT c' H' a xs := by
  rcases h with ⟨n, h⟩ | h
  · exact .inl ⟨fun z => n (lF _ z), rd_kp k n h⟩
  · exact .inr (by rw [eK]; exact h)
/-- the data stay, in a greater heap, seen with less that may change -/
theorem Rp.to {c c' : Cfg} {H H' : Hp} {v : V} {d : D} (eK : c'.K = c.K) (lF : ∀ a, c'.F a → c.F a) (k : Kp c.F H H') (h : Rp c H v d) : Rp c' H' v d := by
  refine Rp.rec (motive_1 := fun v d _ => Rp c' H' v d) (motive_2 := fun vs ds _ => RpAll c' H' vs ds) (motive_3 := fun vs ds _ => RpFs c' H' vs ds) (motive_4 := fun vs ds _ => RpKv c' H' vs ds)
    .non .bl .int .str ?_ ?_ ?_ ?_ ?_ .nil ?_ .nil ?_ .nil ?_ h
  · intro a xs ds n s _ r
    exact .lst (fun z => n (lF _ z)) (rd_kp k n s) r
  · intro a xs ds s _ r
    exact .scr (s.to eK lF k) r
  · intro a xs ds s _ r
    exact .tup (s.to eK lF k) r
  · intro a C dx fs ds n s _ r
    exact .obj (fun z => n (lF _ z)) (k _ _ n s) r
  · intro a kvs ds n s _ r
    exact .dic (fun z => n (lF _ z)) (rd_kp k n s) r
  · intro v d vs ds _ _ a b
    exact .cons a b
  · intro n v d vs ds _ _ a b
    exact .cons a b
  · intro n v d vs ds _ _ a b
    exact .cons a b
theorem RpAll.to {c c' : Cfg} {H H' : Hp} (eK : c'.K = c.K) (lF : ∀ a, c'.F a → c.F a) (k : Kp c.F H H') : ∀ {vs : List V} {ds : List D}, RpAll c H vs ds → RpAll c' H' vs ds
  | _, _, .nil => .nil
  | _, _, .cons a b => .cons (a.to eK lF k) (b.to eK lF k)
theorem RpFs.to {c c' : Cfg} {H H' : Hp} (eK : c'.K = c.K) (lF : ∀ a, c'.F a → c.F a) (k : Kp c.F H H') : ∀ {vs : List (Str × V)} {ds : List (Str × D)}, RpFs c H vs ds → RpFs c' H' vs ds
  | _, _, .nil => .nil
  | _, _, .cons a b => .cons (a.to eK lF k) (b.to eK lF k)
theorem Rp.go {c : Cfg} {H H' : Hp} {v : V} {d : D} (h : Rp c H v d) (k : Kp c.F H H') : Rp c H' v d := h.to (Eq.refl _) (fun _ z => z) k
theorem RpAll.go {c : Cfg} {H H' : Hp} {vs : List V} {ds : List D} (h : RpAll c H vs ds) (k : Kp c.F H H') : RpAll c H' vs ds := h.to (Eq.refl _) (fun _ z => z) k
theorem RpAll.length {c : Cfg} {H : Hp} : ∀ {vs : List V} {ds : List D}, RpAll c H vs ds → vs.length = ds.length
  | _, _, .nil => rfl
  | _, _, .cons _ b => congrArg (· + 1) b.length
theorem RpAll.get {c : Cfg} {H : Hp} : ∀ {vs : List V} {ds : List D} {i : Nat} {d : D}, RpAll c H vs ds → ds[i]? = some d → ∃ v, vs[i]? = some v ∧ Rp c H v d
  | _, _, _, _, .nil, e => by simp at e
  | _, _, 0, _, .cons a _, e => by
    simp at e
    subst e
    exact ⟨_, rfl, a⟩
  | _, _, i + 1, d, .cons _ b, e => by
    obtain ⟨v, h1, h2⟩ := RpAll.get (i := i) (d := d) b (by simpa using e)
    exact ⟨v, by simpa using h1, h2⟩
theorem RpAll.getV {c : Cfg} {H : Hp} : ∀ {vs : List V} {ds : List D} {i : Nat} {v : V}, RpAll c H vs ds → vs[i]? = some v → ∃ d, ds[i]? = some d ∧ Rp c H v d
  | _, _, _, _, .nil, e => by simp at e
  | _, _, 0, _, .cons a _, e => by
    simp at e
    subst e
    exact ⟨_, rfl, a⟩
  | _, _, i + 1, d, .cons _ b, e => by
    obtain ⟨v, h1, h2⟩ := RpAll.getV (i := i) (v := d) b (by simpa using e)
    exact ⟨v, by simpa using h1, h2⟩
theorem RpAll.append {c : Cfg} {H : Hp} : ∀ {vs ws : List V} {ds es : List D}, RpAll c H vs ds → RpAll c H ws es → RpAll c H (vs ++ ws) (ds ++ es)
  | _, _, _, _, .nil, s => s
  | _, _, _, _, .cons a b, s => .cons a (RpAll.append b s)
/-- what an error carries: its fields, None if it has no dict -/
abbrev XP := Option (List (Str × D))
def XOk (c : Cfg) (H : Hp) : Option Addr → XP → Prop
  | some dd, some fs => ∃ vs, ¬ c.F dd ∧ H dd = some (.xd vs) ∧ RpFs c H vs fs
  | none, none => True
  | _, _ => False
theorem XOk.to {c c' : Cfg} {H H' : Hp} {d : Option Addr} {p : XP} (eK : c'.K = c.K) (lF : ∀ a, c'.F a → c.F a) (k : Kp c.F H H') (h : XOk c H d p) : XOk c' H' d p := by
  cases d <;> cases p <;> first | exact h | skip
  obtain ⟨vs, n, e, r⟩ := h
  exact ⟨vs, fun z => n (lF _ z), k _ _ n e, r.to eK lF k⟩
/-! ### slots -/
inductive Sl where
  | any | v (x : V) | d (x : D) | pool | ex (a : Addr) (cls : Value) (dd : Option Addr) (p : XP) | own (k : Nat) (x : D)
/-- what an owned thing holds now -/
def OwRp (c : Cfg) (H : Hp) (a : Addr) : D → Prop
  | .lst ds => ∃ xs, H a = some (.lst xs) ∧ RpAll c H xs ds
  | .obj C fs => ∃ dx vs, H a = some (.ins C dx vs) ∧ RpFs c H vs fs
  | .dic kvs => ∃ vs, H a = some (.dK vs) ∧ RpKv c H vs kvs
  | _ => False
theorem RpKv.to {c c' : Cfg} {H H' : Hp} (eK : c'.K = c.K) (lF : ∀ a, c'.F a → c.F a) (k : Kp c.F H H') : ∀ {vs : List (Key × V)} {ds : List (Key × D)}, RpKv c H vs ds → RpKv c' H' vs ds
  | _, _, .nil => .nil
  | _, _, .cons a b => .cons (a.to eK lF k) (b.to eK lF k)
theorem OwRp.to {c c' : Cfg} {H H' : Hp} {a : Addr} {d : D} (eK : c'.K = c.K) (lF : ∀ a, c'.F a → c.F a) (k : Kp c.F H H') (ka : ∀ o, H a = some o → H' a = some o) (h : OwRp c H a d) : OwRp c' H' a d := by
  cases d <;> try exact h
  · obtain ⟨xs, e, r⟩ := h
    exact ⟨xs, ka _ e, r.to eK lF k⟩
  · obtain ⟨dx, vs, e, r⟩ := h
    exact ⟨dx, vs, ka _ e, r.to eK lF k⟩
  · obtain ⟨vs, e, r⟩ := h
    exact ⟨vs, ka _ e, r.to eK lF k⟩
theorem OwRp.rp {c : Cfg} {H : Hp} {a : Addr} {d : D} (n : ¬ c.F a) (h : OwRp c H a d) : Rp c H (.ref a) d := by
  cases d <;> try exact h.elim
  · obtain ⟨xs, e, r⟩ := h
    exact .lst n (.inl e) r
  · obtain ⟨dx, vs, e, r⟩ := h
    exact .obj n e r
  · obtain ⟨vs, e, r⟩ := h
    exact .dic n (.inl e) r
def SlOk (c : Cfg) (H : Hp) (o : Option V) : Sl → Prop
  | .any => True
  | .v x => o = some x
  | .d x => ∃ v, o = some v ∧ Rp c H v x
  | .pool => ∃ p, o = some (.ref p) ∧ c.pl p
  | .ex a _ dd p => o = some (.ref a) ∧ XOk c H dd p
  | .own k x => ∃ a, o = some (.ref a) ∧ c.ow k = some a ∧ OwRp c H a x
abbrev Gm := List Sl
structure StOk (c : Cfg) (σ : St) (H : Hp) (Γ : Gm) : Prop where
  inv : c.I H
  len : σ.length = Γ.length
  at_ : ∀ (i : Nat) (o : Option V) (s : Sl), σ[i]? = some o → Γ[i]? = some s → SlOk c H o s
theorem SlOk.to {c c' : Cfg} {H H' : Hp} {o : Option V} {s : Sl} (eK : c'.K = c.K) (lF : ∀ a, c'.F a → c.F a) (lp : ∀ a, c.pl a → c'.pl a) (k : Kp c.F H H') (lo : ∀ n x a, s = .own n x → c.ow n = some a → c'.ow n = some a ∧ ∀ o, H a = some o → H' a = some o) (h : SlOk c H o s) : SlOk c' H' o s := by
  cases s with
  | any => trivial
  | v x => exact h
  | d x =>
    obtain ⟨v, e, r⟩ := h
    exact ⟨v, e, r.to eK lF k⟩
  | pool =>
    obtain ⟨p, e, r⟩ := h
    exact ⟨p, e, lp _ r⟩
  | ex a cls dd p => exact ⟨h.1, h.2.to eK lF k⟩
  | own n x =>
    obtain ⟨a, e, w, r⟩ := h
    obtain ⟨w', ka⟩ := lo n x a rfl w
    exact ⟨a, e, w', r.to eK lF k ka⟩
theorem Cfg.owKeep (c : Cfg) {H H' : Hp} {n : Nat} {a : Addr} (k : Kp c.G H H') (w : c.ow n = some a) : ∀ o, H a = some o → H' a = some o := fun o e => k a o (c.owW w).2 e
theorem SlOk.go {c : Cfg} {H H' : Hp} {o : Option V} {s : Sl} (h : SlOk c H o s) (k : Kp c.G H H') : SlOk c H' o s := h.to rfl (fun _ z => z) (fun _ z => z) (k.le fun _ z => c.GF z) (fun n x a _ w => ⟨w, c.owKeep k w⟩)
theorem StOk.go {c : Cfg} {σ : St} {H H' : Hp} {Γ : Gm} (h : StOk c σ H Γ) (g : Go c H H') : StOk c σ H' Γ := ⟨g.inv, h.len, fun i o s a b => (h.at_ i o s a b).go g.keep⟩
theorem StOk.set {c : Cfg} {σ : St} {H : Hp} {Γ : Gm} {i : Nat} {o : Option V} {s : Sl} (h : StOk c σ H Γ) (q : SlOk c H o s) : StOk c (σ.set i o) H (Γ.set i s) := by
  refine ⟨h.inv, by rw [List.length_set, List.length_set]; exact h.len, fun j o' s' a b => ?_⟩
  rw [List.getElem?_set] at a b
  by_cases e : i = j
  · subst e
    by_cases l : i < σ.length
    · have l' : i < Γ.length := by rw [← h.len]; exact l
      simp only [l, l', if_true] at a b
      cases a
      cases b
      exact q
    · simp [l] at a
  · simp only [e, if_false] at a b
    exact h.at_ j o' s' a b
/-- a wider view -/
structure Le (c c' : Cfg) : Prop where
  K : c'.K = c.K
  F : ∀ a, c.F a → c'.F a
  I : ∀ H, c'.I H → c.I H
  pl : ∀ a, c'.pl a → c.pl a
  ow : ∀ k a, c'.ow k = some a → c.ow k = some a
theorem SlOk.le {c c' : Cfg} {H : Hp} {o : Option V} {s : Sl} (l : Le c c') (h : SlOk c' H o s) : SlOk c H o s := h.to l.K.symm l.F l.pl Kp.self (fun k x a _ w => ⟨l.ow k a w, fun _ e => e⟩)
theorem StOk.le {c c' : Cfg} {σ : St} {H : Hp} {Γ : Gm} (l : Le c c') (h : StOk c' σ H Γ) : StOk c σ H Γ := ⟨l.I _ h.inv, h.len, fun i o s a b => (h.at_ i o s a b).le l⟩
theorem Rp.le {c c' : Cfg} {H : Hp} {v : V} {d : D} (l : Le c c') (h : Rp c' H v d) : Rp c H v d := h.to l.K.symm l.F Kp.self
/-- something more holds all the time -/
def Cfg.wth (c : Cfg) (φ : Hp → Prop) (hφ : ∀ {H H' : Hp}, Kp c.W H H' → φ H → φ H') : Cfg where
  K := c.K
  F := c.F
  W := c.W
  G := c.G
  I := fun H => c.I H ∧ φ H
  pl := c.pl
  ow := c.ow
  mono := fun k h => ⟨c.mono k h.1, hφ (fun a o _ e => k a o e) h.2⟩
  live := fun h z => c.live h.1 z
  WF := c.WF
  GW := c.GW
  plG := c.plG
  owW := c.owW
  inj := c.inj
  plAt := fun h z => c.plAt h.1 z
  plPut := fun {H p l} h z q => ⟨c.plPut h.1 z q, hφ (fun a o n e => by
    rw [upd_ne (fun y => n (by rw [y]; exact c.GW (c.plG z)))]
    exact e) h.2⟩
  owPut := fun {H k a o} h w => ⟨c.owPut h.1 w, hφ (fun b u n e => by
    rw [upd_ne (fun y => n (by rw [y]; exact (c.owW w).1))]
    exact e) h.2⟩
theorem Le.wth {c : Cfg} {φ : Hp → Prop} {hφ : ∀ {H H' : Hp}, Kp c.W H H' → φ H → φ H'} : Le c (c.wth φ hφ) := ⟨rfl, fun _ z => z, fun _ h => h.1, fun _ z => z, fun _ _ z => z⟩
theorem StOk.wth {c : Cfg} {φ : Hp → Prop} {hφ : ∀ {H H' : Hp}, Kp c.W H H' → φ H → φ H'} {σ : St} {H : Hp} {Γ : Gm} (h : StOk c σ H Γ) (q : φ H) : StOk (c.wth φ hφ) σ H Γ :=
  ⟨⟨h.inv, q⟩, h.len, fun i o s a b => SlOk.to (c := c) (c' := c.wth φ hφ) rfl (fun _ z => z) (fun _ z => z) Kp.self (fun _ _ _ _ w => ⟨w, fun _ e => e⟩) (h.at_ i o s a b)⟩
/-- a def's own view: it changes what calls may change, and owns nothing yet -/
def Cfg.sub (c : Cfg) : Cfg where
  K := c.K
  F := c.F
  W := c.G
  G := c.G
  I := c.I
  pl := c.pl
  ow := fun _ => none
  mono := c.mono
  live := c.live
  WF := fun z => c.GF z
  GW := fun z => z
  plG := c.plG
  owW := fun e => nomatch e
  inj := fun e => nomatch e
  plAt := c.plAt
  plPut := c.plPut
  owPut := fun _ e => nomatch e
/-- the heap without a -/
def rem (H : Hp) (a : Addr) : Hp := fun b => if b = a then none else H b
theorem rem_ne {H : Hp} {a b : Addr} (h : b ≠ a) : rem H a b = H b := if_neg h
theorem rem_same {H : Hp} {a : Addr} : rem H a a = none := if_pos rfl
theorem rem_sub {H : Hp} {a b : Addr} {o : HO} (h : rem H a b = some o) : b ≠ a ∧ H b = some o := by
  by_cases e : b = a
  · rw [e, rem_same] at h
    cases h
  · rw [rem_ne e] at h
    exact ⟨e, h⟩
theorem rem_upd {H : Hp} {a : Addr} {o : HO} : rem (upd H a o) a = rem H a := by
  funext b
  by_cases e : b = a
  · rw [e, rem_same, rem_same]
  · rw [rem_ne e, rem_ne e, upd_ne e]
theorem rem_new {H : Hp} {a : Addr} (n : H a = none) : rem H a = H := by
  funext b
  by_cases e : b = a
  · rw [e, rem_same, n]
  · rw [rem_ne e]
theorem rem_upd_ne {H : Hp} {a p : Addr} {o : HO} (h : p ≠ a) : rem (upd H p o) a = upd (rem H a) p o := by
  funext b
  by_cases e : b = a
  · rw [e, rem_same, upd_ne (Ne.symm h), rem_same]
  · by_cases e2 : b = p
    · rw [rem_ne e, e2, upd_same, upd_same]
    · rw [rem_ne e, upd_ne e2, upd_ne e2, rem_ne e]

theorem Cfg.noPl (c : Cfg) {H : Hp} {p : Addr} (hi : c.I H) (h : H p = none) : ¬ c.pl p := fun z => c.fresh hi h (c.plF z)
theorem rem_in {H H' : Hp} {a : Addr} (n : H a = none) (kp : ∀ b o, H b = some o → H' b = some o) : ∀ b o, H b = some o → rem H' a b = some o := fun b o e => by
  rw [rem_ne (ne_of_none e n)]
  exact kp b o e
/-! ### a thing at work that is no data -/
def Cfg.hide (c : Cfg) (a : Addr) (ha : ¬ c.F a) : Cfg where
  K := c.K
  F := fun b => c.F b ∨ b = a
  W := c.W
  G := c.G
  I := fun H => c.I (rem H a) ∧ H a ≠ none
  pl := c.pl
  ow := c.ow
  mono := fun {H H'} q h => ⟨c.mono (fun b u e => by
    obtain ⟨n, e⟩ := rem_sub e
    rw [rem_ne n]
    exact q b u e) h.1, fun e => by
    cases z : H a with
    | none => exact h.2 z
    | some o => rw [q a o z] at e; cases e⟩
  live := fun {H b} h z => by
    rcases z with z | z
    · intro y
      refine c.live h.1 z ?_
      by_cases e : b = a
      · rw [e, rem_same]
      · rw [rem_ne e]
        exact y
    · rw [z]
      exact h.2
  WF := fun z => .inl (c.WF z)
  GW := c.GW
  plG := c.plG
  owW := c.owW
  inj := c.inj
  plAt := fun h z => by
    obtain ⟨l, e, r⟩ := c.plAt h.1 z
    exact ⟨l, (rem_sub e).2, r⟩
  plPut := fun {H p l} h z q => by
    have n : p ≠ a := fun e => ha (by rw [← e]; exact c.plF z)
    refine ⟨?_, by rw [upd_ne (Ne.symm n)]; exact h.2⟩
    rw [rem_upd_ne n]
    exact c.plPut h.1 z q
  owPut := fun {H k b o} h w => by
    have n : b ≠ a := fun e => ha (by rw [← e]; exact c.WF (c.owW w).1)
    refine ⟨?_, by rw [upd_ne (Ne.symm n)]; exact h.2⟩
    rw [rem_upd_ne n]
    exact c.owPut h.1 w
theorem Le.hide {c : Cfg} {a : Addr} {ha : ¬ c.F a} : Le c (c.hide a ha) := ⟨rfl, fun _ z => .inl z, fun _ h => c.mono (fun _ _ e => (rem_sub e).2) h.1, fun _ z => z, fun _ _ z => z⟩
/-! ### one thing more is owned -/
def Cfg.mine (c : Cfg) (k : Nat) (a : Addr) (ha : ¬ c.F a) : Cfg where
  K := c.K
  F := fun b => c.F b ∨ b = a
  W := fun b => c.W b ∨ b = a
  G := c.G
  I := fun H => c.I (rem H a) ∧ H a ≠ none
  pl := c.pl
  ow := fun j => if j = k then some a else c.ow j
  mono := fun {H H'} q h => ⟨c.mono (fun b u e => by
    obtain ⟨n, e⟩ := rem_sub e
    rw [rem_ne n]
    exact q b u e) h.1, fun e => by
    cases z : H a with
    | none => exact h.2 z
    | some o => rw [q a o z] at e; cases e⟩
  live := fun {H b} h z => by
    rcases z with z | z
    · intro y
      refine c.live h.1 z ?_
      by_cases e : b = a
      · rw [e, rem_same]
      · rw [rem_ne e]
        exact y
    · rw [z]
      exact h.2
  WF := fun z => z.elim (fun z => .inl (c.WF z)) .inr
  GW := fun z => .inl (c.GW z)
  plG := c.plG
  owW := fun {j b} e => by
    by_cases q : j = k
    · simp only [q, if_true] at e
      cases e
      exact ⟨.inr rfl, fun z => ha (c.GF z)⟩
    · simp only [q, if_false] at e
      exact ⟨.inl (c.owW e).1, (c.owW e).2⟩
  inj := fun {i j b} e1 e2 => by
    by_cases q1 : i = k <;> by_cases q2 : j = k
    · rw [q1, q2]
    · simp only [q1, q2, if_true, if_false] at e1 e2
      cases e1
      exact (ha (c.WF (c.owW e2).1)).elim
    · simp only [q1, q2, if_true, if_false] at e1 e2
      cases e2
      exact (ha (c.WF (c.owW e1).1)).elim
    · simp only [q1, q2, if_false] at e1 e2
      exact c.inj e1 e2
  plAt := fun h z => by
    obtain ⟨l, e, r⟩ := c.plAt h.1 z
    exact ⟨l, (rem_sub e).2, r⟩
  plPut := fun {H p l} h z q => by
    have n : p ≠ a := fun e => ha (by rw [← e]; exact c.plF z)
    refine ⟨?_, by rw [upd_ne (Ne.symm n)]; exact h.2⟩
    rw [rem_upd_ne n]
    exact c.plPut h.1 z q
  owPut := fun {H j b o} h w => by
    by_cases q : j = k
    · simp only [q, if_true] at w
      cases w
      refine ⟨by rw [rem_upd]; exact h.1, by rw [upd_same]; exact fun z => nomatch z⟩
    · simp only [q, if_false] at w
      have n : b ≠ a := fun e => ha (by rw [← e]; exact c.WF (c.owW w).1)
      refine ⟨?_, by rw [upd_ne (Ne.symm n)]; exact h.2⟩
      rw [rem_upd_ne n]
      exact c.owPut h.1 w
/-- no slot with this key -/
def clr (k : Nat) (Γ : Gm) : Gm := Γ.map fun s => match s with
  | .own j x => if j = k then .any else .own j x
  | s => s
/-- what was owned is data -/
def fzS (k : Nat) : Sl → Sl
  | .own j x => if j = k then .d x else .own j x
  | s => s
def fz (k : Nat) (Γ : Gm) : Gm := Γ.map (fzS k)
/-- data that stand while a is new are seen so with a that may change -/
theorem Rp.hide {c : Cfg} {H : Hp} {v : V} {d : D} {a : Addr} {ha : ¬ c.F a} (n : H a = none) (h : Rp c H v d) : Rp (c.hide a ha) H v d := by
  have no : ∀ {b : Addr} {u : HO}, Rd H b u → b ≠ a := fun {b u} z e => by
    subst e
    rcases z with z | ⟨_, z⟩ <;> (rw [n] at z; cases z)
  refine Rp.rec (motive_1 := fun v d _ => Rp (c.hide a ha) H v d) (motive_2 := fun vs ds _ => RpAll (c.hide a ha) H vs ds) (motive_3 := fun vs ds _ => RpFs (c.hide a ha) H vs ds) (motive_4 := fun vs ds _ => RpKv (c.hide a ha) H vs ds)
    .non .bl .int .str ?_ ?_ ?_ ?_ ?_ .nil ?_ .nil ?_ .nil ?_ h
  · intro b xs ds m s _ r
    exact .lst (fun z => z.elim m fun e => no s e) s r
  · intro b xs ds s _ r
    exact .scr (s.elim (fun z => .inl ⟨fun y => y.elim z.1 (no z.2), z.2⟩) .inr) r
  · intro b xs ds s _ r
    exact .tup (s.elim (fun z => .inl ⟨fun y => y.elim z.1 (no z.2), z.2⟩) .inr) r
  · intro b C dx fs ds m s _ r
    exact .obj (fun z => z.elim m fun e => no (.inl s) e) s r
  · intro b kvs ds m s _ r
    exact .dic (fun z => z.elim m fun e => no s e) s r
  · intro v d vs ds _ _ a b
    exact .cons a b
  · intro n v d vs ds _ _ a b
    exact .cons a b
  · intro n v d vs ds _ _ a b
    exact .cons a b
theorem RpAll.hide {c : Cfg} {H : Hp} {a : Addr} {ha : ¬ c.F a} (n : H a = none) : ∀ {vs : List V} {ds : List D}, RpAll c H vs ds → RpAll (c.hide a ha) H vs ds
  | _, _, .nil => .nil
  | _, _, .cons r t => .cons (r.hide n) (RpAll.hide n t)
theorem RpFs.hide {c : Cfg} {H : Hp} {a : Addr} {ha : ¬ c.F a} (n : H a = none) : ∀ {vs : List (Str × V)} {ds : List (Str × D)}, RpFs c H vs ds → RpFs (c.hide a ha) H vs ds
  | _, _, .nil => .nil
  | _, _, .cons r t => .cons (r.hide n) (RpFs.hide n t)
theorem RpKv.hide {c : Cfg} {H : Hp} {a : Addr} {ha : ¬ c.F a} (n : H a = none) : ∀ {vs : List (Key × V)} {ds : List (Key × D)}, RpKv c H vs ds → RpKv (c.hide a ha) H vs ds
  | _, _, .nil => .nil
  | _, _, .cons r t => .cons (r.hide n) (RpKv.hide n t)
theorem XOk.hide {c : Cfg} {H : Hp} {a : Addr} {ha : ¬ c.F a} {d : Option Addr} {p : XP} (n : H a = none) (h : XOk c H d p) : XOk (c.hide a ha) H d p := by
  cases d <;> cases p <;> first | exact h | skip
  obtain ⟨vs, m, e, r⟩ := h
  refine ⟨vs, fun z => z.elim m fun y => ?_, e, r.hide n⟩
  rw [y, n] at e
  cases e
theorem OwRp.hide {c : Cfg} {H : Hp} {a b : Addr} {ha : ¬ c.F a} {d : D} (n : H a = none) (h : OwRp c H b d) : OwRp (c.hide a ha) H b d := by
  cases d <;> try exact h
  · obtain ⟨xs, e, r⟩ := h
    exact ⟨xs, e, r.hide n⟩
  · obtain ⟨dx, vs, e, r⟩ := h
    exact ⟨dx, vs, e, r.hide n⟩
  · obtain ⟨vs, e, r⟩ := h
    exact ⟨vs, e, r.hide n⟩
theorem SlOk.hide {c : Cfg} {H : Hp} {a : Addr} {ha : ¬ c.F a} {u : Option V} {s : Sl} (n : H a = none) (h : SlOk c H u s) : SlOk (c.hide a ha) H u s := by
  cases s with
  | any => trivial
  | v x => exact h
  | d x =>
    obtain ⟨v, e, r⟩ := h
    exact ⟨v, e, r.hide n⟩
  | pool => exact h
  | ex b cls dd p => exact ⟨h.1, h.2.hide n⟩
  | own j x =>
    obtain ⟨b, e, w, r⟩ := h
    exact ⟨b, e, w, r.hide n⟩
theorem StOk.hide {c : Cfg} {σ : St} {H H' : Hp} {Γ : Gm} {a : Addr} (ha : ¬ c.F a) (h : StOk c σ H Γ) (n : H a = none) (kp : ∀ b o, H b = some o → H' b = some o) (na : H' a ≠ none) : StOk (c.hide a ha) σ H' Γ := by
  refine ⟨⟨c.mono (rem_in n kp) h.inv, na⟩, h.len, fun i o s e1 e2 => ?_⟩
  exact ((h.at_ i o s e1 e2).hide n).go fun b o _ e => kp b o e
/-- data that stand while a is new are seen so with a that may change -/
theorem Rp.mine {c : Cfg} {H : Hp} {v : V} {d : D} {k : Nat} {a : Addr} {ha : ¬ c.F a} (n : H a = none) (h : Rp c H v d) : Rp (c.mine k a ha) H v d := by
  have no : ∀ {b : Addr} {u : HO}, Rd H b u → b ≠ a := fun {b u} z e => by
    subst e
    rcases z with z | ⟨_, z⟩ <;> (rw [n] at z; cases z)
  refine Rp.rec (motive_1 := fun v d _ => Rp (c.mine k a ha) H v d) (motive_2 := fun vs ds _ => RpAll (c.mine k a ha) H vs ds) (motive_3 := fun vs ds _ => RpFs (c.mine k a ha) H vs ds) (motive_4 := fun vs ds _ => RpKv (c.mine k a ha) H vs ds)
    .non .bl .int .str ?_ ?_ ?_ ?_ ?_ .nil ?_ .nil ?_ .nil ?_ h
  · intro b xs ds m s _ r
    exact .lst (fun z => z.elim m fun e => no s e) s r
  · intro b xs ds s _ r
    exact .scr (s.elim (fun z => .inl ⟨fun y => y.elim z.1 (no z.2), z.2⟩) .inr) r
  · intro b xs ds s _ r
    exact .tup (s.elim (fun z => .inl ⟨fun y => y.elim z.1 (no z.2), z.2⟩) .inr) r
  · intro b C dx fs ds m s _ r
    exact .obj (fun z => z.elim m fun e => no (.inl s) e) s r
  · intro b kvs ds m s _ r
    exact .dic (fun z => z.elim m fun e => no s e) s r
  · intro v d vs ds _ _ a b
    exact .cons a b
  · intro n v d vs ds _ _ a b
    exact .cons a b
  · intro n v d vs ds _ _ a b
    exact .cons a b
theorem RpAll.mine {c : Cfg} {H : Hp} {k : Nat} {a : Addr} {ha : ¬ c.F a} (n : H a = none) : ∀ {vs : List V} {ds : List D}, RpAll c H vs ds → RpAll (c.mine k a ha) H vs ds
  | _, _, .nil => .nil
  | _, _, .cons r t => .cons (r.mine n) (RpAll.mine n t)
theorem RpFs.mine {c : Cfg} {H : Hp} {k : Nat} {a : Addr} {ha : ¬ c.F a} (n : H a = none) : ∀ {vs : List (Str × V)} {ds : List (Str × D)}, RpFs c H vs ds → RpFs (c.mine k a ha) H vs ds
  | _, _, .nil => .nil
  | _, _, .cons r t => .cons (r.mine n) (RpFs.mine n t)
theorem RpKv.mine {c : Cfg} {H : Hp} {k : Nat} {a : Addr} {ha : ¬ c.F a} (n : H a = none) : ∀ {vs : List (Key × V)} {ds : List (Key × D)}, RpKv c H vs ds → RpKv (c.mine k a ha) H vs ds
  | _, _, .nil => .nil
  | _, _, .cons r t => .cons (r.mine n) (RpKv.mine n t)
theorem RpAll.le {c c' : Cfg} {H : Hp} (l : Le c c') {vs : List V} {ds : List D} (h : RpAll c' H vs ds) : RpAll c H vs ds := h.to l.K.symm l.F Kp.self
theorem XOk.mine {c : Cfg} {H : Hp} {k : Nat} {a : Addr} {ha : ¬ c.F a} {d : Option Addr} {p : XP} (n : H a = none) (h : XOk c H d p) : XOk (c.mine k a ha) H d p := by
  cases d <;> cases p <;> first | exact h | skip
  obtain ⟨vs, m, e, r⟩ := h
  refine ⟨vs, fun z => z.elim m fun y => ?_, e, r.mine n⟩
  rw [y, n] at e
  cases e
theorem OwRp.mine {c : Cfg} {H : Hp} {k : Nat} {a b : Addr} {ha : ¬ c.F a} {d : D} (n : H a = none) (h : OwRp c H b d) : OwRp (c.mine k a ha) H b d := by
  cases d <;> try exact h
  · obtain ⟨xs, e, r⟩ := h
    exact ⟨xs, e, r.mine n⟩
  · obtain ⟨dx, vs, e, r⟩ := h
    exact ⟨dx, vs, e, r.mine n⟩
  · obtain ⟨vs, e, r⟩ := h
    exact ⟨vs, e, r.mine n⟩
theorem SlOk.mine {c : Cfg} {H : Hp} {k : Nat} {a : Addr} {ha : ¬ c.F a} {u : Option V} {s : Sl} (n : H a = none) (ns : ∀ x, s ≠ .own k x) (h : SlOk c H u s) : SlOk (c.mine k a ha) H u s := by
  cases s with
  | any => trivial
  | v x => exact h
  | d x =>
    obtain ⟨v, e, r⟩ := h
    exact ⟨v, e, r.mine n⟩
  | pool => exact h
  | ex b cls dd p => exact ⟨h.1, h.2.mine n⟩
  | own j x =>
    obtain ⟨b, e, w, r⟩ := h
    have nj : j ≠ k := fun z => ns x (by rw [z])
    exact ⟨b, e, by show (if j = k then some a else c.ow j) = some b; rw [if_neg nj]; exact w, r.mine n⟩
theorem clr_get {k i : Nat} {Γ : Gm} {s : Sl} (h : (clr k Γ)[i]? = some s) : s = .any ∨ ((∀ x, s ≠ .own k x) ∧ Γ[i]? = some s) := by
  unfold clr at h
  rw [List.getElem?_map, Option.map_eq_some_iff] at h
  obtain ⟨t, e, z⟩ := h
  subst z
  split
  · rename_i j x
    by_cases q : j = k
    · rw [if_pos q]
      exact .inl rfl
    · rw [if_neg q]
      exact .inr ⟨fun y z => q (Sl.own.inj z).1, e⟩
  · rename_i hn
    exact .inr ⟨fun x z => hn k x z, e⟩
/-- a new thing at a is owned by key k -/
theorem StOk.mine {c : Cfg} {σ : St} {H H' : Hp} {Γ : Gm} {k : Nat} {a : Addr} (ha : ¬ c.F a) (h : StOk c σ H Γ) (n : H a = none) (kp : ∀ b o, H b = some o → H' b = some o) (na : H' a ≠ none) : StOk (c.mine k a ha) σ H' (clr k Γ) := by
  refine ⟨⟨c.mono (rem_in n kp) h.inv, na⟩, by rw [h.len]; simp [clr], fun i o s e1 e2 => ?_⟩
  rcases clr_get e2 with z | ⟨z, e⟩
  · subst z
    trivial
  · exact ((h.at_ i o s e1 e).mine n z).go fun b o _ e => kp b o e
theorem SlOk.fz {c : Cfg} {H : Hp} {k : Nat} {a : Addr} {ha : ¬ c.F a} {u : Option V} {s : Sl} (h : SlOk (c.mine k a ha) H u s) : SlOk c H u (fzS k s) := by
  have lF : ∀ b, c.F b → (c.mine k a ha).F b := fun _ z => .inl z
  cases s with
  | any => trivial
  | v x => exact h
  | d x =>
    obtain ⟨v, e, r⟩ := h
    exact ⟨v, e, r.to (c := c.mine k a ha) rfl lF Kp.self⟩
  | pool => exact h
  | ex b cls dd p => exact ⟨h.1, h.2.to (c := c.mine k a ha) rfl lF Kp.self⟩
  | own j x =>
    obtain ⟨b, e, w, r⟩ := h
    have w : (if j = k then some a else c.ow j) = some b := w
    have r' := r.to (c := c.mine k a ha) (c' := c) rfl lF Kp.self fun _ e => e
    show SlOk c H u (if j = k then .d x else .own j x)
    by_cases q : j = k
    · rw [if_pos q] at w ⊢
      cases w
      exact ⟨_, e, r'.rp ha⟩
    · rw [if_neg q] at w ⊢
      exact ⟨b, e, w, r'⟩
theorem StOk.fz {c : Cfg} {σ : St} {H : Hp} {Γ : Gm} {k : Nat} {a : Addr} {ha : ¬ c.F a} (h : StOk (c.mine k a ha) σ H Γ) : StOk c σ H (fz k Γ) := by
  refine ⟨c.mono (fun _ _ e => (rem_sub e).2) h.inv.1, by rw [h.len]; simp [Dv.fz], fun i o s e1 e2 => ?_⟩
  unfold Dv.fz at e2
  rw [List.getElem?_map, Option.map_eq_some_iff] at e2
  obtain ⟨t, e, z⟩ := e2
  subst z
  exact (h.at_ i o t e1 e).fz
/-- what an owned thing holds is changed -/
theorem StOk.put {c : Cfg} {σ : St} {H : Hp} {Γ : Gm} {k i : Nat} {a : Addr} {o : HO} {x : D} (h : StOk c σ H Γ) (w : c.ow k = some a) (e : σ[i]? = some (some (.ref a))) (q : OwRp c (upd H a o) a x) : StOk c σ (upd H a o) ((clr k Γ).set i (.own k x)) := by
  have kk : Kp c.W H (upd H a o) := fun b u nb e => by
    rw [upd_ne (fun y => nb (by rw [y]; exact (c.owW w).1))]
    exact e
  refine ⟨c.owPut h.inv w, by rw [h.len]; simp [clr], fun j u s e1 e2 => ?_⟩
  rw [List.getElem?_set] at e2
  by_cases ij : i = j
  · subst ij
    simp only [if_true] at e2
    split at e2
    · cases e2
      rw [e] at e1
      cases e1
      exact ⟨a, rfl, w, q⟩
    · cases e2
  · simp only [ij, if_false] at e2
    rcases clr_get e2 with z | ⟨z, e2⟩
    · subst z
      trivial
    · refine (h.at_ j u s e1 e2).to rfl (fun _ z => z) (fun _ z => z) (kk.le fun _ z => c.WF z) fun n y b es wn => ⟨wn, fun o' e' => ?_⟩
      by_cases q : b = a
      · rw [q] at wn
        rw [c.inj wn w] at es
        exact (z y es).elim
      · rw [upd_ne q]
        exact e'
theorem StOk.hput {c : Cfg} {σ : St} {H : Hp} {Γ : Gm} {a : Addr} {ha : ¬ c.F a} {o : HO} (h : StOk (c.hide a ha) σ H Γ) : StOk (c.hide a ha) σ (upd H a o) Γ := by
  refine ⟨⟨by rw [rem_upd]; exact h.inv.1, by rw [upd_same]; exact fun z => nomatch z⟩, h.len, fun i u s e1 e2 => ?_⟩
  have kk : Kp (c.hide a ha).F H (upd H a o) := fun b u nb e => by
    rw [upd_ne (fun y => nb (.inr y))]
    exact e
  refine (h.at_ i u s e1 e2).to rfl (fun _ z => z) (fun _ z => z) kk fun n x b _ w => ⟨w, fun o' e' => ?_⟩
  rw [upd_ne (fun y => ha (by rw [← y]; exact c.WF (c.owW w).1))]
  exact e'
end Dv
set_option Elab.async false
set_option linter.all false
set_option maxRecDepth 100000
set_option maxHeartbeats 4000000
/-! De: expressions over plain data. -/
namespace Dv
open PySem L2
abbrev DK := Sl → Prop
abbrev DE := Gm → DK → Prop
abbrev DA := Gm → (List Sl → Prop) → Prop
abbrev DT := Gm → (Bool → Prop) → Prop
abbrev XW := Addr → XP → Gm → Prop
/-- W wants of an error no more than what xw tells -/
def WOk (c : Cfg) (W : WX) (xw : XW) : Prop := ∀ σ H Γ C d p, StOk c σ H Γ → XOk c H d p → xw C p Γ → W (.ref C) d σ H
theorem XOk.le {c c' : Cfg} {H : Hp} {d : Option Addr} {p : XP} (l : Le c c') (h : XOk c' H d p) : XOk c H d p := h.to l.K.symm l.F Kp.self
theorem WOk.le {c c' : Cfg} {W : WX} {xw : XW} (l : Le c c') (h : WOk c W xw) : WOk c' W xw := fun σ H Γ C d p s x q => h σ H Γ C d p (s.le l) (x.le l) q
def W0 : WX := fun _ _ _ _ => False
def xw0 : XW := fun _ _ _ => False
theorem WOk.zero {c : Cfg} {W : WX} : WOk c W xw0 := fun _ _ _ _ _ _ _ _ z => z.elim
def EvS (c : Cfg) (te : TE) (Γ : Gm) (k : DK) : Prop := ∀ σ H, StOk c σ H Γ → ∀ Q : VK, (∀ v s H2, Go c H H2 → SlOk c H2 (some v) s → k s → Q v H2) → te σ H Q
def EvAs (c : Cfg) (ta : TA) (Γ : Gm) (k : List Sl → Prop) : Prop := ∀ σ H, StOk c σ H Γ → ∀ Q : List V → Hp → Prop, (∀ vs ss H2, Go c H H2 → Paired (fun v s => SlOk c H2 (some v) s) vs ss → k ss → Q vs H2) → ta σ H Q
def EvTs (c : Cfg) (tt : TT) (Γ : Gm) (k : Bool → Prop) : Prop := ∀ σ H, StOk c σ H Γ → ∀ Q : Bool → Hp → Prop, (∀ b H2, Go c H H2 → k b → Q b H2) → tt σ H Q
def Li (K : PySem.W.Frag) (W : WX) (xw : XW) (te : TE) (de : DE) : Prop := ∀ c : Cfg, c.K = K → WOk c W xw → ∀ Γ k, de Γ k → EvS c te Γ k
def LiA (K : PySem.W.Frag) (W : WX) (xw : XW) (ta : TA) (da : DA) : Prop := ∀ c : Cfg, c.K = K → WOk c W xw → ∀ Γ k, da Γ k → EvAs c ta Γ k
def LiT (K : PySem.W.Frag) (W : WX) (xw : XW) (tt : TT) (dt : DT) : Prop := ∀ c : Cfg, c.K = K → WOk c W xw → ∀ Γ k, dt Γ k → EvTs c tt Γ k
structure PD (X : Cx) (W : WX) (xw : XW) (e : Expr) (te : TE) (de : DE) : Prop where
  pe : Takes X W → PE X e te
  li : Li X.K W xw te de
structure PDA (X : Cx) (W : WX) (xw : XW) (es : List Expr) (ta : TA) (da : DA) : Prop where
  pa : Takes X W → PA X es ta
  li : LiA X.K W xw ta da
structure PDT (X : Cx) (W : WX) (xw : XW) (e : Expr) (tt : TT) (dt : DT) : Prop where
  pt : Takes X W → PT X e tt
  li : LiT X.K W xw tt dt
structure PDW (X : Cx) (W : WX) (xw : XW) (e : Expr) (tt : TT) (dt : DT) : Prop where
  pw : Takes X W → PW X e tt
  li : LiT X.K W xw tt dt
/-! ### names and constants -/
def dVar (i : Nat) : DE := fun Γ k => match Γ[i]? with
  | some (.v x) => k (.v x)
  | some (.d x) => k (.d x)
  | some .pool => k .pool
  | some (.ex a cls dd p) => k (.ex a cls dd p)
  | some (.own n x) => k (.own n x)
  | _ => False
def dC (d : D) : DE := fun _ k => k (.d d)
def dR (v : V) : DE := fun _ k => k (.v v)
section
variable {X : Cx} {W : WX} {xw : XW} {K : PySem.W.Frag}
theorem sl_some {c : Cfg} {H : Hp} {o : Option V} {s : Sl} (h : SlOk c H o s) (n : s ≠ .any) : ∃ v, o = some v := by
  cases s with
  | any => exact absurd rfl n
  | v x => exact ⟨x, h⟩
  | d x =>
    obtain ⟨v, e, _⟩ := h
    exact ⟨v, e⟩
  | pool =>
    obtain ⟨p, e, _⟩ := h
    exact ⟨_, e⟩
  | ex a cls dd p => exact ⟨_, h.1⟩
  | own n x =>
    obtain ⟨p, e, _⟩ := h
    exact ⟨_, e⟩
theorem li_var {i : Nat} : Li K W xw (tVar i) (dVar i) := fun c eK hW Γ k h σ H st Q q => by
  have key : ∀ s, Γ[i]? = some s → s ≠ .any → k s → tVar i σ H Q := fun s e n ks => by
    have l : i < Γ.length := (List.getElem?_eq_some_iff.mp e).1
    have l' : i < σ.length := by rw [st.len]; exact l
    have e' : σ[i]? = some σ[i] := List.getElem?_eq_some_iff.mpr ⟨l', rfl⟩
    have z := st.at_ i _ s e' e
    obtain ⟨v, ev⟩ := sl_some z n
    refine ⟨v, by rw [e', ev], q v s H (Go.self st.inv) (by rw [← ev]; exact z) ks⟩
  unfold dVar at h
  split at h
  · rename_i x e
    exact key _ e (by simp) h
  · rename_i x e
    exact key _ e (by simp) h
  · rename_i e
    exact key _ e (by simp) h
  · rename_i e
    exact key _ e (by simp) h
  · rename_i e
    exact key _ e (by simp) h
  · exact h.elim
theorem li_c {v : V} {d : D} (r : ∀ c H, Rp c H v d) : Li K W xw (tC v) (dC d) := fun c eK hW Γ k h σ H st Q q => q v (.d d) H (Go.self st.inv) ⟨v, rfl, r c H⟩ h
theorem li_r {v : V} : Li K W xw (tC v) (dR v) := fun c eK hW Γ k h σ H st Q q => q v (.v v) H (Go.self st.inv) rfl h
theorem pd_v (i : Nat) {x : Str} {pos : Pos} (hN : X.N[i]? = some x := by rfl) (hv : Vis X.env.scope x := by first | exact Or.inl rfl | exact Or.inr (Or.inl rfl) | exact Or.inr (Or.inr rfl)) (hd : (x == ("__debug__" : Str)) = false := by decide) (hcd : (x == ("__classdict__" : Str)) = false := by decide) :
    PD X W xw (.Name x pos) (tVar i) (dVar i) := ⟨fun tk => pe_var hN hv hd hcd, li_var⟩
theorem pd_int {i j pos} : PD X W xw (.Constant (.int i) j pos) (tC (.int i)) (dC (.int i)) := ⟨fun tk => pe_int, li_c fun _ _ => .int _⟩
theorem pd_bl {i j pos} : PD X W xw (.Constant (.bool i) j pos) (tC (.bl i)) (dC (.bl i)) := ⟨fun tk => pe_bl, li_c fun _ _ => .bl _⟩
theorem pd_str {i j pos} : PD X W xw (.Constant (.str i) j pos) (tC (.str i)) (dC (.str i)) := ⟨fun tk => pe_str, li_c fun _ _ => .str _⟩
theorem pd_non {j pos} : PD X W xw (.Constant .none j pos) (tC .non) (dC .non) := ⟨fun tk => pe_non, li_c fun _ _ => .non⟩
theorem pd_gI {x : Str} {i : Int} {t : Tok} {pos : Pos} (hm : X.mg x = some (.int i t)) (hg : Gl X x := by rfl) (hd : (x == ("__debug__" : Str)) = false := by decide) : PD X W xw (.Name x pos) (tC (.int i)) (dC (.int i)) := ⟨fun tk => pe_glob hg hm ⟨_, rfl⟩ hd, li_c fun _ _ => .int _⟩
theorem pd_gS {x : Str} {i : Str} {t : Tok} {pos : Pos} (hm : X.mg x = some (.str i t)) (hg : Gl X x := by rfl) (hd : (x == ("__debug__" : Str)) = false := by decide) : PD X W xw (.Name x pos) (tC (.str i)) (dC (.str i)) := ⟨fun tk => pe_glob hg hm ⟨_, rfl⟩ hd, li_c fun _ _ => .str _⟩
/-- a built-in class as a value; a class of the text -/
theorem pd_ty {x : Str} {T : String} {pos : Pos} (hm : X.mg x = none) (hv : bootBuiltins x = some (.type T)) (hg : Gl X x := by rfl) (hn : x ≠ "__name__" := by decide) (hd : (x == ("__debug__" : Str)) = false := by decide) : PD X W xw (.Name x pos) (tC (.ty T)) (dR (.ty T)) := ⟨fun tk => pe_bltn hg hm hv rfl hn hd, li_r⟩
theorem pd_cls {x : Str} {C : Addr} {pos : Pos} (hm : X.mg x = some (.ref C)) (hg : Gl X x := by rfl) (hd : (x == ("__debug__" : Str)) = false := by decide) : PD X W xw (.Name x pos) (tC (.ref C)) (dR (.ref C)) := ⟨fun tk => pe_glob hg hm rfl hd, li_r⟩
/-! ### arguments, displays -/
def dNil : DA := fun _ k => k []
def dCons (a : DE) (r : DA) : DA := fun Γ k => a Γ fun s => r Γ fun ss => k (s :: ss)
theorem pda_nil : PDA X W xw [] tNil dNil := ⟨fun tk => pa_nil, fun c eK hW Γ k h σ H st Q q => q [] [] H (Go.self st.inv) .nil h⟩
theorem pda_cons {e : Expr} {es : List Expr} {te : TE} {ta : TA} {de : DE} {da : DA} (a : PD X W xw e te de) (r : PDA X W xw es ta da) (hs : starEach (e :: es) X.env = (false, eval e X.env) :: starEach es X.env := by rfl) : PDA X W xw (e :: es) (tCons te ta) (dCons de da) :=
  ⟨fun tk => pa_cons (a.pe tk) (r.pa tk) hs, fun c eK hW Γ k h σ H st Q q => a.li c eK hW Γ _ h σ H st _ fun v s H1 g1 r1 h1 => r.li c eK hW Γ _ h1 σ H1 (st.go g1) _ fun vs ss H2 g2 r2 h2 => q (v :: vs) (s :: ss) H2 (g1.trans g2) (.cons (r1.go g2.keep) r2) h2⟩
/-- data alone -/
def unD : List Sl → Option (List D)
  | [] => some []
  | .d x :: r => (unD r).map (x :: ·)
  | _ :: _ => none
theorem unD_ok {c : Cfg} {H : Hp} : ∀ {vs : List V} {ss : List Sl} {ds : List D}, Paired (fun v s => SlOk c H (some v) s) vs ss → unD ss = some ds → RpAll c H vs ds
  | _, _, _, .nil, e => by
    cases e
    exact .nil
  | _, s :: ss, ds, .cons r t, e => by
    cases s with
    | d x =>
      rw [unD, Option.map_eq_some_iff] at e
      obtain ⟨es, e1, e2⟩ := e
      subst e2
      obtain ⟨v, ev, rv⟩ := r
      cases ev
      exact .cons rv (unD_ok t e1)
    | any => cases e
    | v x => cases e
    | pool => cases e
    | ex _ _ _ _ => cases e
    | own _ _ => cases e
def dTup (a : DA) : DE := fun Γ k => a Γ fun ss => match unD ss with
  | some ds => ds.length ≤ 100000 ∧ k (.d (.tup ds))
  | none => False
def dLst (a : DA) : DE := fun Γ k => a Γ fun ss => match unD ss with
  | some ds => ds.length ≤ 100000 ∧ k (.d (.lst ds))
  | none => False
theorem sz {n : Nat} (h : n ≤ 100000) : n ≤ sizeLine := Nat.le_trans h (by decide)
theorem rp_newL {c : Cfg} {H : Hp} {p : Addr} {vs : List V} {ds : List D} (hi : c.I H) (n : H p = none) (r : RpAll c H vs ds) : Rp c (upd H p (.lst vs)) (.ref p) (.lst ds) :=
  .lst (c.fresh hi n) (.inl upd_same) (r.go (Kp.new n))
theorem rp_newT {c : Cfg} {H : Hp} {p : Addr} {vs : List V} {ds : List D} (hi : c.I H) (n : H p = none) (r : RpAll c H vs ds) : Rp c (upd H p (.tup vs)) (.ref p) (.tup ds) :=
  .tup (.inl ⟨c.fresh hi n, .inl upd_same⟩) (r.go (Kp.new n))
theorem pd_tup {es : List Expr} {ta : TA} {da : DA} {x1 : _} {pos : Pos} (a : PDA X W xw es ta da) : PD X W xw (.Tuple es x1 pos) (tTup ta) (dTup da) :=
  ⟨fun tk => pe_tup (a.pa tk), fun c eK hW Γ k h σ H st Q q => a.li c eK hW Γ _ h σ H st _ fun vs ss H1 g1 r1 h1 => by
    split at h1
    · rename_i ds e
      have rr := unD_ok r1 e
      exact ⟨by rw [rr.length]; exact sz h1.1, fun p n => q _ (.d (.tup ds)) _ (g1.trans (Go.new g1.inv n)) ⟨_, rfl, rp_newT g1.inv n rr⟩ h1.2⟩
    · exact h1.elim⟩
theorem pd_lst {es : List Expr} {ta : TA} {da : DA} {pos : Pos} (a : PDA X W xw es ta da) : PD X W xw (.List es pos) (tLst ta) (dLst da) :=
  ⟨fun tk => pe_lst (a.pa tk), fun c eK hW Γ k h σ H st Q q => a.li c eK hW Γ _ h σ H st _ fun vs ss H1 g1 r1 h1 => by
    split at h1
    · rename_i ds e
      have rr := unD_ok r1 e
      exact ⟨by rw [rr.length]; exact sz h1.1, fun p n => q _ (.d (.lst ds)) _ (g1.trans (Go.new g1.inv n)) ⟨_, rfl, rp_newL g1.inv n rr⟩ h1.2⟩
    · exact h1.elim⟩
/-! ### operations on two values -/
def O2 (K : PySem.W.Frag) (r : R2) (g : Sl → Sl → DK → Prop) : Prop := ∀ (c : Cfg) (H : Hp) (x y : V) (s t : Sl) (k : DK) (Q : VK), c.K = K → c.I H → SlOk c H (some x) s → SlOk c H (some y) t → g s t k →
  (∀ v u H2, Go c H H2 → SlOk c H2 (some v) u → k u → Q v H2) → r x y H Q
def dOp (g : Sl → Sl → DK → Prop) (a b : DE) : DE := fun Γ k => a Γ fun s => b Γ fun t => g s t k
theorem li_op {r : R2} {g : Sl → Sl → DK → Prop} {ta tb : TE} {a b : DE} (o : O2 K r g) (ha : Li K W xw ta a) (hb : Li K W xw tb b) : Li K W xw (tOp r ta tb) (dOp g a b) := fun c eK hW Γ k h σ H st Q q =>
  ha c eK hW Γ _ h σ H st _ fun v s H1 g1 r1 h1 => hb c eK hW Γ _ h1 σ H1 (st.go g1) _ fun u t H2 g2 r2 h2 =>
    o c H2 v u s t k Q eK g2.inv (r1.go g2.keep) r2 h2 fun z w H3 g3 r3 h3 => q z w H3 ((g1.trans g2).trans g3) r3 h3
/-- ints -/
def gI (C : Int → Int → Prop) (g : Int → Int → D) : Sl → Sl → DK → Prop := fun s t k => match s, t with
  | .d (.int i), .d (.int j) => C i j ∧ k (.d (g i j))
  | _, _ => False
def gI0 (g : Int → Int → D) : Sl → Sl → DK → Prop := fun s t k => match s, t with
  | .d (.int i), .d (.int j) => k (.d (g i j))
  | _, _ => False
theorem rp_int {c : Cfg} {H : Hp} {v : V} {i : Int} (h : Rp c H v (.int i)) : v = .int i := by
  cases h
  rfl
theorem rp_bl {c : Cfg} {H : Hp} {v : V} {i : Bool} (h : Rp c H v (.bl i)) : v = .bl i := by
  cases h
  rfl
theorem rp_str {c : Cfg} {H : Hp} {v : V} {i : Str} (h : Rp c H v (.str i)) : v = .str i := by
  cases h
  rfl
theorem sl_int {c : Cfg} {H : Hp} {v : V} {i : Int} (h : SlOk c H (some v) (.d (.int i))) : v = .int i := by
  obtain ⟨w, e, r⟩ := h
  cases e
  exact rp_int r
theorem sl_bl {c : Cfg} {H : Hp} {v : V} {i : Bool} (h : SlOk c H (some v) (.d (.bl i))) : v = .bl i := by
  obtain ⟨w, e, r⟩ := h
  cases e
  exact rp_bl r
theorem sl_str {c : Cfg} {H : Hp} {v : V} {i : Str} (h : SlOk c H (some v) (.d (.str i))) : v = .str i := by
  obtain ⟨w, e, r⟩ := h
  cases e
  exact rp_str r
theorem o2_I {C : Int → Int → Prop} {f : Int → Int → V} {g : Int → Int → D} (r : ∀ i j c H, Rp c H (f i j) (g i j)) : O2 K (rI C f) (gI C g) := fun c H x y s t k Q eK hi rs rt h q => by
  unfold gI at h
  split at h
  · exact ⟨_, _, sl_int rs, sl_int rt, h.1, q _ (.d (g _ _)) H (Go.self hi) ⟨_, rfl, r _ _ c H⟩ h.2⟩
  · exact h.elim
theorem o2_I0 {f : Int → Int → V} {g : Int → Int → D} (r : ∀ i j c H, Rp c H (f i j) (g i j)) : O2 K (rI0 f) (gI0 g) := fun c H x y s t k Q eK hi rs rt h q => by
  unfold gI0 at h
  split at h
  · exact ⟨_, _, sl_int rs, sl_int rt, q _ (.d (g _ _)) H (Go.self hi) ⟨_, rfl, r _ _ c H⟩ h⟩
  · exact h.elim
section
variable {a b cc : Expr} {ta tb tc : TE} {da db dc : DE} {pos : Pos}
theorem pd_addI (x : PD X W xw a ta da) (y : PD X W xw b tb db) : PD X W xw (.BinOp a .Add b pos) (tOp (rI0 fun i j => .int (i + j)) ta tb) (dOp (gI0 fun i j => .int (i + j)) da db) := ⟨fun tk => pe_op op_add (x.pe tk) (y.pe tk), li_op (o2_I0 fun _ _ _ _ => .int _) x.li y.li⟩
theorem pd_sub (x : PD X W xw a ta da) (y : PD X W xw b tb db) : PD X W xw (.BinOp a .Sub b pos) (tOp (rI0 fun i j => .int (i - j)) ta tb) (dOp (gI0 fun i j => .int (i - j)) da db) := ⟨fun tk => pe_op op_sub (x.pe tk) (y.pe tk), li_op (o2_I0 fun _ _ _ _ => .int _) x.li y.li⟩
theorem pd_mul (x : PD X W xw a ta da) (y : PD X W xw b tb db) : PD X W xw (.BinOp a .Mult b pos) (tOp (rI CMulW fun i j => .int (i * j)) ta tb) (dOp (gI CMulW fun i j => .int (i * j)) da db) := ⟨fun tk => pe_op op_mulW (x.pe tk) (y.pe tk), li_op (o2_I fun _ _ _ _ => .int _) x.li y.li⟩
theorem pd_fdiv (x : PD X W xw a ta da) (y : PD X W xw b tb db) : PD X W xw (.BinOp a .FloorDiv b pos) (tOp (rI CDivW fun i j => .int (i / j)) ta tb) (dOp (gI CDivW fun i j => .int (i / j)) da db) := ⟨fun tk => pe_op op_fdivW (x.pe tk) (y.pe tk), li_op (o2_I fun _ _ _ _ => .int _) x.li y.li⟩
theorem pd_mod (x : PD X W xw a ta da) (y : PD X W xw b tb db) : PD X W xw (.BinOp a .Mod b pos) (tOp (rI (fun _ j => 0 < j) fun i j => .int (i % j)) ta tb) (dOp (gI (fun _ j => 0 < j) fun i j => .int (i % j)) da db) := ⟨fun tk => pe_op op_mod (x.pe tk) (y.pe tk), li_op (o2_I fun _ _ _ _ => .int _) x.li y.li⟩
theorem pd_pow (x : PD X W xw a ta da) (y : PD X W xw b tb db) : PD X W xw (.BinOp a .Pow b pos) (tOp (rI CPow fun i j => .int (i ^ j.toNat)) ta tb) (dOp (gI CPow fun i j => .int (i ^ j.toNat)) da db) := ⟨fun tk => pe_op op_pow (x.pe tk) (y.pe tk), li_op (o2_I fun _ _ _ _ => .int _) x.li y.li⟩
theorem pd_lt (x : PD X W xw a ta da) (y : PD X W xw b tb db) : PD X W xw (.Compare a [.Lt] [b] pos) (tOp (rI0 fun i j => .bl (decide (i < j))) ta tb) (dOp (gI0 fun i j => .bl (decide (i < j))) da db) := ⟨fun tk => pe_cmpR op_lt (x.pe tk) (y.pe tk) (nomark _), li_op (o2_I0 fun _ _ _ _ => .bl _) x.li y.li⟩
theorem pd_le (x : PD X W xw a ta da) (y : PD X W xw b tb db) : PD X W xw (.Compare a [.LtE] [b] pos) (tOp (rI0 fun i j => .bl (decide (i ≤ j))) ta tb) (dOp (gI0 fun i j => .bl (decide (i ≤ j))) da db) := ⟨fun tk => pe_cmpR op_le (x.pe tk) (y.pe tk) (nomark _), li_op (o2_I0 fun _ _ _ _ => .bl _) x.li y.li⟩
theorem pd_gt (x : PD X W xw a ta da) (y : PD X W xw b tb db) : PD X W xw (.Compare a [.Gt] [b] pos) (tOp (rI0 fun i j => .bl (decide (j < i))) ta tb) (dOp (gI0 fun i j => .bl (decide (j < i))) da db) := ⟨fun tk => pe_cmpR op_gt (x.pe tk) (y.pe tk) (nomark _), li_op (o2_I0 fun _ _ _ _ => .bl _) x.li y.li⟩
theorem pd_ge (x : PD X W xw a ta da) (y : PD X W xw b tb db) : PD X W xw (.Compare a [.GtE] [b] pos) (tOp (rI0 fun i j => .bl (decide (j ≤ i))) ta tb) (dOp (gI0 fun i j => .bl (decide (j ≤ i))) da db) := ⟨fun tk => pe_cmpR op_ge (x.pe tk) (y.pe tk) (nomark _), li_op (o2_I0 fun _ _ _ _ => .bl _) x.li y.li⟩
end
end
end Dv
set_option Elab.async false
set_option linter.all false
set_option maxRecDepth 100000
set_option maxHeartbeats 4000000
/-! De2: equality, tests, places, built-ins. -/
namespace Dv
open PySem L2
/-! ### equality of data -/
mutual
def toPy : D → PyData
  | .non => .none
  | .bl b => .bool b
  | .int i => .int i
  | .str x => .str x
  | .lst xs => .list (toPys xs)
  | .tup xs => .tuple (toPys xs)
  | .obj _ _ => .dict []
  | .dic _ => .dict []
  | .scr _ => .dict []
def toPys : List D → List PyData
  | [] => []
  | x :: r => toPy x :: toPys r
end
def okD (d : D) : Bool := SeqAt.shaped (toPy d)
def deq (d e : D) : Bool := PyData.eqv (toPy d) (toPy e)
theorem rp_dp {c : Cfg} {H : Hp} {v : V} {d : D} (h : Rp c H v d) (o : (toPy d).canLay0 = true) : Dp c.K H v (toPy d) := by
  refine Rp.rec (motive_1 := fun v d _ => (toPy d).canLay0 = true → Dp c.K H v (toPy d)) (motive_2 := fun vs ds _ => PyData.canLayAll0 (toPys ds) = true → DpAll c.K H vs (toPys ds)) (motive_3 := fun _ _ _ => True) (motive_4 := fun _ _ _ => True)
    ?_ ?_ ?_ ?_ ?_ ?_ ?_ ?_ ?_ ?_ ?_ trivial ?_ trivial ?_ h o
  · exact fun _ => .non
  · exact fun b _ => .bl b
  · exact fun b _ => .int b
  · exact fun b _ => .str b
  · intro a xs ds _ s _ r o
    exact .lst (.inl s) (r (by simpa [toPy, PyData.canLay0] using o))
  · intro a xs ds s _ r o
    simp [toPy, PyData.canLay0] at o
  · intro a xs ds s _ r o
    exact .tup s.sq (r (by simpa [toPy, PyData.canLay0] using o))
  · intro a C dx fs ds _ _ _ _ o
    simp [toPy, PyData.canLay0] at o
  · intro a kvs ds _ _ _ _ o
    simp [toPy, PyData.canLay0] at o
  · intro _
    exact .nil
  · intro v d vs ds _ _ a b o
    have o' : (toPy d).canLay0 = true ∧ PyData.canLayAll0 (toPys ds) = true := by simpa [toPys, PyData.canLayAll0] using o
    exact .cons (a o'.1) (b o'.2)
  · intros
    trivial
  · intros
    trivial
def gEq : Sl → Sl → DK → Prop := fun s t k => match s, t with
  | .d x, .d y => okD x = true ∧ okD y = true ∧ k (.d (.bl (deq x y)))
  | _, _ => False
def gNe : Sl → Sl → DK → Prop := fun s t k => match s, t with
  | .d x, .d y => okD x = true ∧ okD y = true ∧ k (.d (.bl (!deq x y)))
  | _, _ => False
section
variable {X : Cx} {W : WX} {xw : XW} {K : PySem.W.Frag}
theorem o2_eq : O2 K (rEqD K) gEq := fun c H x y s t k Q eK hi rs rt h q => by
  unfold gEq at h
  split at h
  · rename_i x' y'
    obtain ⟨h1, h2, h3⟩ := h
    obtain ⟨w, e, r⟩ := rs
    cases e
    obtain ⟨w, e, r'⟩ := rt
    cases e
    subst eK
    exact ⟨_, _, rp_dp r (SeqAt.canLay_of_shaped h1), rp_dp r' (SeqAt.canLay_of_shaped h2), h1, h2, q _ (.d (.bl _)) H (Go.self hi) ⟨_, rfl, .bl _⟩ h3⟩
  · exact h.elim
theorem o2_ne : O2 K (rNeD K) gNe := fun c H x y s t k Q eK hi rs rt h q => by
  unfold gNe at h
  split at h
  · rename_i x' y'
    obtain ⟨h1, h2, h3⟩ := h
    obtain ⟨w, e, r⟩ := rs
    cases e
    obtain ⟨w, e, r'⟩ := rt
    cases e
    subst eK
    exact ⟨_, _, rp_dp r (SeqAt.canLay_of_shaped h1), rp_dp r' (SeqAt.canLay_of_shaped h2), h1, h2, q _ (.d (.bl _)) H (Go.self hi) ⟨_, rfl, .bl _⟩ h3⟩
  · exact h.elim
section
variable {a b cc : Expr} {ta tb tc : TE} {da db dc : DE} {pos : Pos}
theorem pd_eq (hu : X.A.units + 64 < cLine) (x : PD X W xw a ta da) (y : PD X W xw b tb db) : PD X W xw (.Compare a [.Eq] [b] pos) (tOp (rEqD X.K) ta tb) (dOp gEq da db) := ⟨fun tk => pe_cmpR (op_eqD hu) (x.pe tk) (y.pe tk) (nomark _), li_op o2_eq x.li y.li⟩
theorem pd_ne (hu : X.A.units + 64 < cLine) (x : PD X W xw a ta da) (y : PD X W xw b tb db) : PD X W xw (.Compare a [.NotEq] [b] pos) (tOp (rNeD X.K) ta tb) (dOp gNe da db) := ⟨fun tk => pe_cmpR (op_neD hu) (x.pe tk) (y.pe tk) (nomark _), li_op o2_ne x.li y.li⟩
/-! ### is None -/
def isNon : D → Bool
  | .non => true
  | _ => false
def gIsN : Sl → Sl → DK → Prop := fun s t k => match s, t with
  | .d x, .d .non => k (.d (.bl (isNon x)))
  | _, _ => False
def gNotN : Sl → Sl → DK → Prop := fun s t k => match s, t with
  | .d x, .d .non => k (.d (.bl (!isNon x)))
  | _, _ => False
theorem rp_isNon {c : Cfg} {H : Hp} {v : V} {d : D} (h : Rp c H v d) : decide (v = .non) = isNon d := by
  cases h <;> simp [isNon]
theorem sl_non {c : Cfg} {H : Hp} {v : V} (h : SlOk c H (some v) (.d .non)) : v = .non := by
  obtain ⟨w, e, r⟩ := h
  cases e
  cases r
  rfl
theorem o2_isN : O2 K (fun x y H Q => y = .non ∧ Q (.bl (decide (x = .non))) H) gIsN := fun c H x y s t k Q eK hi rs rt h q => by
  unfold gIsN at h
  split at h
  · rename_i x'
    refine ⟨sl_non rt, ?_⟩
    obtain ⟨w, e, r⟩ := rs
    cases e
    rw [rp_isNon r]
    exact q _ (.d (.bl _)) H (Go.self hi) ⟨_, rfl, .bl _⟩ h
  · exact h.elim
theorem o2_notN : O2 K (fun x y H Q => y = .non ∧ Q (.bl (!decide (x = .non))) H) gNotN := fun c H x y s t k Q eK hi rs rt h q => by
  unfold gNotN at h
  split at h
  · rename_i x'
    refine ⟨sl_non rt, ?_⟩
    obtain ⟨w, e, r⟩ := rs
    cases e
    rw [rp_isNon r]
    exact q _ (.d (.bl _)) H (Go.self hi) ⟨_, rfl, .bl _⟩ h
  · exact h.elim
theorem pd_isN (x : PD X W xw a ta da) (y : PD X W xw b tb db) : PD X W xw (.Compare a [.Is] [b] pos) (tOp (fun x y H Q => y = .non ∧ Q (.bl (decide (x = .non))) H) ta tb) (dOp gIsN da db) := ⟨fun tk => pe_cmpR op_isN (x.pe tk) (y.pe tk) (nomark _), li_op o2_isN x.li y.li⟩
theorem pd_notN (x : PD X W xw a ta da) (y : PD X W xw b tb db) : PD X W xw (.Compare a [.IsNot] [b] pos) (tOp (fun x y H Q => y = .non ∧ Q (.bl (!decide (x = .non))) H) ta tb) (dOp gNotN da db) := ⟨fun tk => pe_cmpR op_notN (x.pe tk) (y.pe tk) (nomark _), li_op o2_notN x.li y.li⟩
/-! ### a op b op c -/
def dChain (g g' : Sl → Sl → DK → Prop) (a b c : DE) : DE := fun Γ k => a Γ fun s => b Γ fun t => g s t fun z => match z with
  | .d (.bl true) => c Γ fun u => g' t u k
  | .d (.bl false) => k (.d (.bl false))
  | _ => False
theorem li_chain {r r' : R2} {g g' : Sl → Sl → DK → Prop} (o : O2 K r g) (o' : O2 K r' g') (ha : Li K W xw ta da) (hb : Li K W xw tb db) (hc : Li K W xw tc dc) : Li K W xw (tChain r r' ta tb tc) (dChain g g' da db dc) := fun c eK hW Γ k h σ H st Q q =>
  ha c eK hW Γ _ h σ H st _ fun v s H1 g1 r1 h1 => hb c eK hW Γ _ h1 σ H1 (st.go g1) _ fun u t H2 g2 r2 h2 =>
    o c H2 v u s t _ _ eK g2.inv (r1.go g2.keep) r2 h2 fun z w H3 g3 r3 h3 => by
      have g13 := (g1.trans g2).trans g3
      try dsimp only at h3
      split at h3
      · refine ⟨true, sl_bl r3, ?_⟩
        rw [if_pos rfl]
        exact hc c eK hW Γ _ h3 σ H3 (st.go g13) _ fun y w H4 g4 r4 h4 => o' c H4 u y t w k Q eK g4.inv ((r2.go g3.keep).go g4.keep) r4 h4 fun z1 w1 H5 g5 r5 h5 => q z1 w1 H5 ((g13.trans g4).trans g5) r5 h5
      · refine ⟨false, sl_bl r3, ?_⟩
        rw [if_neg Bool.false_ne_true]
        exact q _ (.d (.bl false)) H3 g13 ⟨_, rfl, .bl _⟩ h3
      · exact h3.elim
def gLt := gI0 fun i j => .bl (decide (i < j))
def gLe := gI0 fun i j => .bl (decide (i ≤ j))
theorem pd_chLeLe (x : PD X W xw a ta da) (y : PD X W xw b tb db) (z : PD X W xw cc tc dc) (hm : lastMarks [.LtE, .LtE] [b, cc] = false := by with_unfolding_all rfl) : PD X W xw (.Compare a [.LtE, .LtE] [b, cc] pos) (tChain (rI0 fun i j => .bl (decide (i ≤ j))) (rI0 fun i j => .bl (decide (i ≤ j))) ta tb tc) (dChain gLe gLe da db dc) :=
  ⟨fun tk => pe_chain op_le op_le (x.pe tk) (y.pe tk) (z.pe tk) hm, li_chain (o2_I0 fun _ _ _ _ => .bl _) (o2_I0 fun _ _ _ _ => .bl _) x.li y.li z.li⟩
theorem pd_chLeLt (x : PD X W xw a ta da) (y : PD X W xw b tb db) (z : PD X W xw cc tc dc) (hm : lastMarks [.LtE, .Lt] [b, cc] = false := by with_unfolding_all rfl) : PD X W xw (.Compare a [.LtE, .Lt] [b, cc] pos) (tChain (rI0 fun i j => .bl (decide (i ≤ j))) (rI0 fun i j => .bl (decide (i < j))) ta tb tc) (dChain gLe gLt da db dc) :=
  ⟨fun tk => pe_chain op_le op_lt (x.pe tk) (y.pe tk) (z.pe tk) hm, li_chain (o2_I0 fun _ _ _ _ => .bl _) (o2_I0 fun _ _ _ _ => .bl _) x.li y.li z.li⟩
/-! ### tests -/
def dB (a : DE) : DT := fun Γ k => a Γ fun s => match s with
  | .d (.bl b) => k b
  | _ => False
theorem li_b {t : TE} {d : DE} (h : Li K W xw t d) : LiT K W xw (tB t) (dB d) := fun c eK hW Γ k hk σ H st Q q => h c eK hW Γ _ hk σ H st _ fun v s H1 g1 r1 h1 => by
  try dsimp only at h1
  split at h1
  · exact ⟨_, sl_bl r1, q _ H1 g1 h1⟩
  · exact h1.elim
theorem pdt_val (h : PD X W xw a ta da) (he : ∀ whole, isTrue a X.env whole = (do let v ← whole; standAt a.pos; holding [v] (truthy v)) := by intro _; rfl) : PDT X W xw a (tB ta) (dB da) := ⟨fun tk => pt_val (h.pe tk) he, li_b h.li⟩
/-- a comparison as a test -/
theorem pdt_cmp {op : CmpOp} {r : R2} {g : Sl → Sl → DK → Prop} (ho : OpR X (compareOp op) r) (o : O2 X.K r g) (x : PD X W xw a ta da) (y : PD X W xw b tb db) (hm : behindInMarks op b = false) : PDT X W xw (.Compare a [op] [b] pos) (tTest (tOp r ta tb)) (dB (dOp g da db)) :=
  ⟨fun tk => pt_cmpR ho (x.pe tk) (y.pe tk) hm, li_b (li_op o x.li y.li)⟩
def dAnd (t u : DT) : DT := fun Γ k => t Γ fun b => cond b (u Γ k) (k false)
def dOr (t u : DT) : DT := fun Γ k => t Γ fun b => cond b (k true) (u Γ k)
def dNot (t : DT) : DT := fun Γ k => t Γ fun b => k (!b)
section
variable {t u : TT} {d e : DT} {rest : List Expr}
theorem pdw_pt (h : PDW X W xw a t d) : PDT X W xw a t d := ⟨fun tk => (h.pw tk).pt, h.li⟩
theorem pdw_and1 (h : PDT X W xw a t d) : PDW X W xw (.BoolOp .And [a] pos) t d := ⟨fun tk => pw_and1 (h.pt tk), h.li⟩
theorem pdw_or1 (h : PDT X W xw a t d) : PDW X W xw (.BoolOp .Or [a] pos) t d := ⟨fun tk => pw_or1 (h.pt tk), h.li⟩
theorem pdw_and (h : PDT X W xw a t d) (h' : PDW X W xw (.BoolOp .And (b :: rest) pos) u e) : PDW X W xw (.BoolOp .And (a :: b :: rest) pos) (tAnd t u) (dAnd d e) :=
  ⟨fun tk => pw_and (h.pt tk) (h'.pw tk), fun c eK hW Γ k hk σ H st Q q => h.li c eK hW Γ _ hk σ H st _ fun v H1 g1 h1 => by
    cases v
    · rw [if_neg Bool.false_ne_true]
      exact q false H1 g1 h1
    · rw [if_pos rfl]
      exact h'.li c eK hW Γ _ h1 σ H1 (st.go g1) _ fun w H2 g2 h2 => q w H2 (g1.trans g2) h2⟩
theorem pdw_or (h : PDT X W xw a t d) (h' : PDW X W xw (.BoolOp .Or (b :: rest) pos) u e) : PDW X W xw (.BoolOp .Or (a :: b :: rest) pos) (tOr t u) (dOr d e) :=
  ⟨fun tk => pw_or (h.pt tk) (h'.pw tk), fun c eK hW Γ k hk σ H st Q q => h.li c eK hW Γ _ hk σ H st _ fun v H1 g1 h1 => by
    cases v
    · rw [if_neg Bool.false_ne_true]
      exact h'.li c eK hW Γ _ h1 σ H1 (st.go g1) _ fun w H2 g2 h2 => q w H2 (g1.trans g2) h2
    · rw [if_pos rfl]
      exact q true H1 g1 h1⟩
theorem pdt_not (h : PDT X W xw a t d) : PDT X W xw (.UnaryOp .Not a pos) (tNot t) (dNot d) := ⟨fun tk => pt_not (h.pt tk), fun c eK hW Γ k hk σ H st Q q => h.li c eK hW Γ _ hk σ H st _ fun v H1 g1 h1 => q (!v) H1 g1 h1⟩
/-! ### and, or, not as values -/
def dAndV (a b : DE) : DE := fun Γ k => a Γ fun s => match s with
  | .d (.bl true) => b Γ k
  | .d (.bl false) => k (.d (.bl false))
  | _ => False
def dOrV (a b : DE) : DE := fun Γ k => a Γ fun s => match s with
  | .d (.bl true) => k (.d (.bl true))
  | .d (.bl false) => b Γ k
  | _ => False
def dNotV (a : DE) : DE := fun Γ k => a Γ fun s => match s with
  | .d (.bl b) => k (.d (.bl (!b)))
  | _ => False
theorem pd_one {op} (h : PD X W xw a ta da) : PD X W xw (.BoolOp op [a] pos) ta da := ⟨fun tk => pe_one (h.pe tk), h.li⟩
theorem pd_and (h : PD X W xw a ta da) (h' : PD X W xw (.BoolOp .And (b :: rest) pos) tb db) : PD X W xw (.BoolOp .And (a :: b :: rest) pos) (tAndV ta tb) (dAndV da db) :=
  ⟨fun tk => pe_and (h.pe tk) (h'.pe tk), fun c eK hW Γ k hk σ H st Q q => h.li c eK hW Γ _ hk σ H st _ fun v s H1 g1 r1 h1 => by
    try dsimp only at h1
    split at h1
    · refine ⟨true, sl_bl r1, ?_⟩
      rw [if_pos rfl]
      exact h'.li c eK hW Γ _ h1 σ H1 (st.go g1) _ fun w s2 H2 g2 r2 h2 => q w s2 H2 (g1.trans g2) r2 h2
    · refine ⟨false, sl_bl r1, ?_⟩
      rw [if_neg Bool.false_ne_true]
      exact q _ (.d (.bl false)) H1 g1 ⟨_, rfl, .bl _⟩ h1
    · exact h1.elim⟩
theorem pd_or (h : PD X W xw a ta da) (h' : PD X W xw (.BoolOp .Or (b :: rest) pos) tb db) : PD X W xw (.BoolOp .Or (a :: b :: rest) pos) (tOrV ta tb) (dOrV da db) :=
  ⟨fun tk => pe_or (h.pe tk) (h'.pe tk), fun c eK hW Γ k hk σ H st Q q => h.li c eK hW Γ _ hk σ H st _ fun v s H1 g1 r1 h1 => by
    try dsimp only at h1
    split at h1
    · refine ⟨true, sl_bl r1, ?_⟩
      rw [if_pos rfl]
      exact q _ (.d (.bl true)) H1 g1 ⟨_, rfl, .bl _⟩ h1
    · refine ⟨false, sl_bl r1, ?_⟩
      rw [if_neg Bool.false_ne_true]
      exact h'.li c eK hW Γ _ h1 σ H1 (st.go g1) _ fun w s2 H2 g2 r2 h2 => q w s2 H2 (g1.trans g2) r2 h2
    · exact h1.elim⟩
theorem pd_not (h : PD X W xw a ta da) : PD X W xw (.UnaryOp .Not a pos) (tNotV ta) (dNotV da) :=
  ⟨fun tk => pe_not (h.pe tk), fun c eK hW Γ k hk σ H st Q q => h.li c eK hW Γ _ hk σ H st _ fun v s H1 g1 r1 h1 => by
    try dsimp only at h1
    split at h1
    · exact ⟨_, sl_bl r1, q _ (.d (.bl _)) H1 g1 ⟨_, rfl, .bl _⟩ h1⟩
    · exact h1.elim⟩
def dIf (t : DT) (a b : DE) : DE := fun Γ k => t Γ fun v => cond v (a Γ k) (b Γ k)
theorem pd_ifExp {c0 : Expr} (hc : PDT X W xw c0 t d) (ha : PD X W xw a ta da) (hb : PD X W xw b tb db) : PD X W xw (.IfExp c0 a b pos) (tIf t ta tb) (dIf d da db) :=
  ⟨fun tk => pe_ifExp (hc.pt tk) (ha.pe tk) (hb.pe tk), fun c eK hW Γ k hk σ H st Q q => hc.li c eK hW Γ _ hk σ H st _ fun v H1 g1 h1 => by
    cases v
    · rw [if_neg Bool.false_ne_true]
      exact hb.li c eK hW Γ _ h1 σ H1 (st.go g1) _ fun w s2 H2 g2 r2 h2 => q w s2 H2 (g1.trans g2) r2 h2
    · rw [if_pos rfl]
      exact ha.li c eK hW Γ _ h1 σ H1 (st.go g1) _ fun w s2 H2 g2 r2 h2 => q w s2 H2 (g1.trans g2) r2 h2⟩
end
/-! ### -a -/
def dUnI (f : Int → Int) (a : DE) : DE := fun Γ k => a Γ fun s => match s with
  | .d (.int i) => k (.d (.int (f i)))
  | _ => False
theorem pd_neg (h : PD X W xw a ta da) : PD X W xw (.UnaryOp .USub a pos) (tUn (rU fun i => .int (-i)) ta) (dUnI (fun i => -i) da) :=
  ⟨fun tk => pe_un un_neg (h.pe tk), fun c eK hW Γ k hk σ H st Q q => h.li c eK hW Γ _ hk σ H st _ fun v s H1 g1 r1 h1 => by
    try dsimp only at h1
    split at h1
    · exact ⟨_, sl_int r1, q _ (.d (.int _)) H1 g1 ⟨_, rfl, .int _⟩ h1⟩
    · exact h1.elim⟩
/-! ### x[i] -/
def gIx : Sl → Sl → DK → Prop := fun s t k => match s, t with
  | .d (.lst xs), .d (.int i) => match atI xs i with
    | some x => k (.d x)
    | none => False
  | .d (.tup xs), .d (.int i) => match atI xs i with
    | some x => k (.d x)
    | none => False
  | .d (.scr xs), .d (.int i) => match atI xs i with
    | some x => k (.d x)
    | none => False
  | .d (.str z), .d (.int i) => match atI z.cps.toList i with
    | some x => z.length ≤ 100000 ∧ k (.d (.str ⟨#[x]⟩))
    | none => False
  | _, _ => False
theorem atI_rp {c : Cfg} {H : Hp} {vs : List V} {ds : List D} {i : Int} {d : D} (r : RpAll c H vs ds) (e : atI ds i = some d) : ∃ v, atI vs i = some v ∧ Rp c H v d := by
  unfold atI at e ⊢
  rw [r.length]
  cases z : ixN ds.length i with
  | none =>
    rw [z] at e
    cases e
  | some j =>
    rw [z] at e
    obtain ⟨v, h1, h2⟩ := r.get e
    exact ⟨v, h1, h2⟩
theorem o2_ix : O2 K (rIx K) gIx := fun c H x y s t k Q eK hi rs rt h q => by
  subst eK
  unfold gIx at h
  split at h
  · split at h
    · rename_i z e
      obtain ⟨w, ew, r⟩ := rs
      cases ew
      cases r with
      | lst nf il ra =>
        obtain ⟨v, h1, h2⟩ := atI_rp ra e
        exact .inl ⟨_, _, _, v, rfl, sl_int rt, .inl il, h1, q _ (.d z) H (Go.self hi) ⟨_, rfl, h2⟩ h⟩
    · exact h.elim
  · split at h
    · rename_i z e
      obtain ⟨w, ew, r⟩ := rs
      cases ew
      cases r with
      | tup il ra =>
        obtain ⟨v, h1, h2⟩ := atI_rp ra e
        exact .inr (.inl ⟨_, _, _, v, rfl, sl_int rt, il.sq, h1, q _ (.d z) H (Go.self hi) ⟨_, rfl, h2⟩ h⟩)
    · exact h.elim
  · split at h
    · rename_i z e
      obtain ⟨w, ew, r⟩ := rs
      cases ew
      cases r with
      | scr il ra =>
        obtain ⟨v, h1, h2⟩ := atI_rp ra e
        exact .inl ⟨_, _, _, v, rfl, sl_int rt, il.sq, h1, q _ (.d z) H (Go.self hi) ⟨_, rfl, h2⟩ h⟩
    · exact h.elim
  · split at h
    · rename_i z e
      exact .inr (.inr ⟨_, _, _, sl_str rs, sl_int rt, sz h.1, e, q _ (.d (.str _)) H (Go.self hi) ⟨_, rfl, .str _⟩ h.2⟩)
    · exact h.elim
  · exact h.elim
theorem pd_ix (x : PD X W xw a ta da) (y : PD X W xw b tb db) (hs : PlainIx b := by intro _ _; rfl) : PD X W xw (.Subscript a b pos) (tOp (rIx X.K) ta tb) (dOp gIx da db) := ⟨fun tk => pe_ix ix_seq (x.pe tk) (y.pe tk) hs, li_op o2_ix x.li y.li⟩
/-! ### a + b of ints, texts, lists, tuples -/
def gAdd : Sl → Sl → DK → Prop := fun s t k => match s, t with
  | .d (.int i), .d (.int j) => k (.d (.int (i + j)))
  | .d (.str x), .d (.str y) => x.length + y.length ≤ 100000 ∧ k (.d (.str (x ++ y)))
  | .d (.lst xs), .d (.lst ys) => xs.length + ys.length ≤ 100000 ∧ k (.d (.lst (xs ++ ys)))
  | .d (.tup xs), .d (.tup ys) => xs.length + ys.length ≤ 100000 ∧ k (.d (.tup (xs ++ ys)))
  | _, _ => False
def rCatR : R2 := fun x y H Q => ∃ l b xs zs, x = .ref l ∧ y = .ref b ∧ Rd H l (.lst xs) ∧ Rd H b (.lst zs) ∧ xs.length + zs.length ≤ sizeLine ∧ ∀ p, H p = none → Q (.ref p) (upd H p (.lst (xs ++ zs)))
theorem rd_lst {pins : List (Addr × Obj)} {σ : St} {H : Hp} {sh : Shared} {l : Addr} {xs : List V} (I : Inv X pins σ H sh) (h : Rd H l (.lst xs)) : ∃ (its : List Value) (n : Nat), Vals xs its ∧ sh.heap.get? l = some { cls := .type "list", data := .seq its.toArray n } := by
  rcases h with h | ⟨o, h⟩
  · obtain ⟨_, its, n, r, e⟩ := I.hok l _ h
    exact ⟨its, n, r, e⟩
  · obtain ⟨_, _, its, n, r, e⟩ := I.hok l _ h
    exact ⟨its, n, r, e⟩
theorem op_catR : OpR X (binaryOp .Add) rCatR := by
  intro pins s σ H x y v u Q I rx ry h
  obtain ⟨l, b, xs, zs, rfl, rfl, hH, hB, hz, q⟩ := h
  cases rx
  cases ry
  obtain ⟨its, n, r, e⟩ := rd_lst I hH
  obtain ⟨its2, n2, r2, e2⟩ := rd_lst I hB
  refine PySem.P.add_list e e2 ?_ (by rw [List.size_toArray, List.size_toArray, ← r.length, ← r2.length]; omega)
  have ea : its.toArray ++ its2.toArray = (its ++ its2).toArray := by simp
  rw [ea]
  exact ⟨.ref _, _, I.lnew (t' := s.toks) (r.append r2) (by rw [List.length_append]; omega), rfl, q _ I.fresh⟩
abbrev rAddA (K : PySem.W.Frag) : R2 := fun x y H Q => rI0 (fun i j => .int (i + j)) x y H Q ∨ ((∃ i j, x = .str i ∧ y = .str j ∧ i.length + j.length ≤ sizeLine ∧ Q (.str (i ++ j)) H) ∨ (rCatR x y H Q ∨ rCatA K x y H Q))
theorem op_addA : OpR X (binaryOp .Add) (rAddA X.K) := op_add.or (op_add_str.or (op_catR.or op_catA))
theorem o2_add : O2 K (rAddA K) gAdd := fun c H x y s t k Q eK hi rs rt h q => by
  subst eK
  unfold gAdd at h
  split at h
  · exact .inl ⟨_, _, sl_int rs, sl_int rt, q _ (.d (.int _)) H (Go.self hi) ⟨_, rfl, .int _⟩ h⟩
  · exact .inr (.inl ⟨_, _, sl_str rs, sl_str rt, sz h.1, q _ (.d (.str _)) H (Go.self hi) ⟨_, rfl, .str _⟩ h.2⟩)
  · obtain ⟨w, ew, r⟩ := rs
    cases ew
    obtain ⟨w, ew, r'⟩ := rt
    cases ew
    cases r with
    | lst nf il ra =>
      cases r' with
      | lst nf' il' ra' => exact .inr (.inr (.inl ⟨_, _, _, _, rfl, rfl, il, il', by rw [ra.length, ra'.length]; exact sz h.1, fun p np => q _ (.d (.lst _)) _ (Go.new hi np) ⟨_, rfl, rp_newL hi np (ra.append ra')⟩ h.2⟩))
  · obtain ⟨w, ew, r⟩ := rs
    cases ew
    obtain ⟨w, ew, r'⟩ := rt
    cases ew
    cases r with
    | tup il ra =>
      cases r' with
      | tup il' ra' =>
        refine .inr (.inr (.inr ⟨_, _, _, _, rfl, rfl, il.sq, il'.sq, by rw [ra.length, ra'.length]; exact sz h.1, fun e => ?_, fun _ e => ?_, fun _ _ p np => q _ (.d (.tup _)) _ (Go.new hi np) ⟨_, rfl, rp_newT hi np (ra.append ra')⟩ h.2⟩))
        · subst e
          cases ra
          exact q _ (.d (.tup _)) H (Go.self hi) ⟨_, rfl, .tup il' ra'⟩ h.2
        · subst e
          cases ra'
          have z := h.2
          rw [List.append_nil] at z
          exact q _ (.d (.tup _)) H (Go.self hi) ⟨_, rfl, .tup il ra⟩ z
  · exact h.elim
theorem pd_add (x : PD X W xw a ta da) (y : PD X W xw b tb db) : PD X W xw (.BinOp a .Add b pos) (tOp (rAddA X.K) ta tb) (dOp gAdd da db) := ⟨fun tk => pe_op op_addA (x.pe tk) (y.pe tk), li_op o2_add x.li y.li⟩
/-! ### comparisons as tests -/
theorem pdt_lt (x : PD X W xw a ta da) (y : PD X W xw b tb db) : PDT X W xw (.Compare a [.Lt] [b] pos) (tTest (tOp (rI0 fun i j => .bl (decide (i < j))) ta tb)) (dB (dOp (gI0 fun i j => .bl (decide (i < j))) da db)) := pdt_cmp op_lt (o2_I0 fun _ _ _ _ => .bl _) x y (nomark _)
theorem pdt_le (x : PD X W xw a ta da) (y : PD X W xw b tb db) : PDT X W xw (.Compare a [.LtE] [b] pos) (tTest (tOp (rI0 fun i j => .bl (decide (i ≤ j))) ta tb)) (dB (dOp (gI0 fun i j => .bl (decide (i ≤ j))) da db)) := pdt_cmp op_le (o2_I0 fun _ _ _ _ => .bl _) x y (nomark _)
theorem pdt_gt (x : PD X W xw a ta da) (y : PD X W xw b tb db) : PDT X W xw (.Compare a [.Gt] [b] pos) (tTest (tOp (rI0 fun i j => .bl (decide (j < i))) ta tb)) (dB (dOp (gI0 fun i j => .bl (decide (j < i))) da db)) := pdt_cmp op_gt (o2_I0 fun _ _ _ _ => .bl _) x y (nomark _)
theorem pdt_ge (x : PD X W xw a ta da) (y : PD X W xw b tb db) : PDT X W xw (.Compare a [.GtE] [b] pos) (tTest (tOp (rI0 fun i j => .bl (decide (j ≤ i))) ta tb)) (dB (dOp (gI0 fun i j => .bl (decide (j ≤ i))) da db)) := pdt_cmp op_ge (o2_I0 fun _ _ _ _ => .bl _) x y (nomark _)
theorem pdt_eq (hu : X.A.units + 64 < cLine) (x : PD X W xw a ta da) (y : PD X W xw b tb db) : PDT X W xw (.Compare a [.Eq] [b] pos) (tTest (tOp (rEqD X.K) ta tb)) (dB (dOp gEq da db)) := pdt_cmp (op_eqD hu) o2_eq x y (nomark _)
theorem pdt_ne (hu : X.A.units + 64 < cLine) (x : PD X W xw a ta da) (y : PD X W xw b tb db) : PDT X W xw (.Compare a [.NotEq] [b] pos) (tTest (tOp (rNeD X.K) ta tb)) (dB (dOp gNe da db)) := pdt_cmp (op_neD hu) o2_ne x y (nomark _)
theorem pdt_isN (x : PD X W xw a ta da) (y : PD X W xw b tb db) : PDT X W xw (.Compare a [.Is] [b] pos) (tTest (tOp (fun x y H Q => y = .non ∧ Q (.bl (decide (x = .non))) H) ta tb)) (dB (dOp gIsN da db)) := pdt_cmp op_isN o2_isN x y (nomark _)
theorem pdt_notN (x : PD X W xw a ta da) (y : PD X W xw b tb db) : PDT X W xw (.Compare a [.IsNot] [b] pos) (tTest (tOp (fun x y H Q => y = .non ∧ Q (.bl (!decide (x = .non))) H) ta tb)) (dB (dOp gNotN da db)) := pdt_cmp op_notN o2_notN x y (nomark _)
theorem pdt_chLeLe (x : PD X W xw a ta da) (y : PD X W xw b tb db) (z : PD X W xw cc tc dc) (hm : lastMarks [.LtE, .LtE] [b, cc] = false := by with_unfolding_all rfl) : PDT X W xw (.Compare a [.LtE, .LtE] [b, cc] pos) (tTest (tChain (rI0 fun i j => .bl (decide (i ≤ j))) (rI0 fun i j => .bl (decide (i ≤ j))) ta tb tc)) (dB (dChain gLe gLe da db dc)) :=
  ⟨fun tk => pt_chain op_le op_le (x.pe tk) (y.pe tk) (z.pe tk) hm, li_b (li_chain (o2_I0 fun _ _ _ _ => .bl _) (o2_I0 fun _ _ _ _ => .bl _) x.li y.li z.li)⟩
theorem pdt_chLeLt (x : PD X W xw a ta da) (y : PD X W xw b tb db) (z : PD X W xw cc tc dc) (hm : lastMarks [.LtE, .Lt] [b, cc] = false := by with_unfolding_all rfl) : PDT X W xw (.Compare a [.LtE, .Lt] [b, cc] pos) (tTest (tChain (rI0 fun i j => .bl (decide (i ≤ j))) (rI0 fun i j => .bl (decide (i < j))) ta tb tc)) (dB (dChain gLe gLt da db dc)) :=
  ⟨fun tk => pt_chain op_le op_lt (x.pe tk) (y.pe tk) (z.pe tk) hm, li_b (li_chain (o2_I0 fun _ _ _ _ => .bl _) (o2_I0 fun _ _ _ _ => .bl _) x.li y.li z.li)⟩
end
end
end Dv
set_option Elab.async false
set_option linter.all false
set_option maxRecDepth 100000
set_option maxHeartbeats 4000000
/-! De3: calls of built-ins, walks, comprehensions. -/
namespace Dv
open PySem L2
section
variable {X : Cx} {W : WX} {xw : XW} {K : PySem.W.Frag}
/-! ### calls of built-ins -/
def OC (K : PySem.W.Frag) (r : List V → Hp → VK → Prop) (g : List Sl → DK → Prop) : Prop := ∀ (c : Cfg) (H : Hp) (vs : List V) (ss : List Sl) (k : DK) (Q : VK), c.K = K → c.I H → Paired (fun v s => SlOk c H (some v) s) vs ss → g ss k →
  (∀ v u H2, Go c H H2 → SlOk c H2 (some v) u → k u → Q v H2) → r vs H Q
def dCB (g : List Sl → DK → Prop) (a : DA) : DE := fun Γ k => a Γ fun ss => g ss k
theorem li_cb {r : List V → Hp → VK → Prop} {g : List Sl → DK → Prop} {ta : TA} {da : DA} (o : OC K r g) (h : LiA K W xw ta da) : Li K W xw (tCB r ta) (dCB g da) := fun c eK hW Γ k hk σ H st Q q =>
  h c eK hW Γ _ hk σ H st _ fun vs ss H1 g1 r1 h1 => o c H1 vs ss k Q eK g1.inv r1 h1 fun v u H2 g2 r2 h2 => q v u H2 (g1.trans g2) r2 h2
section
variable {x : Str} {p pos : Pos} {e : Expr} {es : List Expr} {ta : TA} {da : DA} {id T : String} {r : List V → Hp → VK → Prop} {g : List Sl → DK → Prop}
theorem pd_callB (hc : CallR X (.builtin id) r) (o : OC X.K r g) (hm : X.mg x = none) (hv : bootBuiltins x = some (.builtin id)) (a : PDA X W xw (e :: es) ta da) (hg : Gl X x := by rfl) (hn : x ≠ "__name__" := by decide) (hdb : (x == ("__debug__" : Str)) = false := by decide)
    (he : starEach (e :: es) X.env = (false, eval e X.env) :: starEach es X.env := by rfl) (hpl : (backTo pos (starEach es X.env)).any (·.1) = false := by rfl) : PD X W xw (.Call (.Name x p) (e :: es) [] pos) (tCB r ta) (dCB g da) :=
  ⟨fun tk => pe_callB hc hg hm hv (a.pa tk) hn hdb he hpl, li_cb o a.li⟩
theorem pd_callTy (hc : CallR X (.type T) r) (o : OC X.K r g) (hm : X.mg x = none) (hv : bootBuiltins x = some (.type T)) (a : PDA X W xw (e :: es) ta da) (hg : Gl X x := by rfl) (hn : x ≠ "__name__" := by decide) (hdb : (x == ("__debug__" : Str)) = false := by decide)
    (he : starEach (e :: es) X.env = (false, eval e X.env) :: starEach es X.env := by rfl) (hpl : (backTo pos (starEach es X.env)).any (·.1) = false := by rfl) : PD X W xw (.Call (.Name x p) (e :: es) [] pos) (tCB r ta) (dCB g da) :=
  ⟨fun tk => pe_callTy hc hg hm hv (a.pa tk) hn hdb he hpl, li_cb o a.li⟩
end
theorem paired1 {F : V → Sl → Prop} {vs : List V} {s : Sl} (h : Paired F vs [s]) : ∃ v, vs = [v] ∧ F v s := by
  cases h with
  | cons a b =>
    cases b
    exact ⟨_, rfl, a⟩
theorem paired2 {F : V → Sl → Prop} {vs : List V} {s t : Sl} (h : Paired F vs [s, t]) : ∃ v w, vs = [v, w] ∧ F v s ∧ F w t := by
  cases h with
  | cons a b =>
    obtain ⟨w, rfl, q⟩ := paired1 b
    exact ⟨_, _, rfl, a, q⟩
/-- len -/
def gLen : List Sl → DK → Prop := fun ss k => match ss with
  | [.d (.lst xs)] => k (.d (.int xs.length))
  | [.d (.tup xs)] => k (.d (.int xs.length))
  | [.d (.scr xs)] => k (.d (.int xs.length))
  | [.d (.str z)] => z.length ≤ 100000 ∧ k (.d (.int z.length))
  | _ => False
theorem oc_len : OC K (fun xs H Q => ∃ x n, xs = [x] ∧ LenV K x H n ∧ Q (.int n) H) gLen := fun c H vs ss k Q eK hi r h q => by
  subst eK
  unfold gLen at h
  split at h
  · obtain ⟨v, rfl, w, e, rr⟩ := paired1 r
    cases e
    cases rr with
    | lst nf il ra => exact ⟨_, _, rfl, .inl ⟨_, .inl il, rfl⟩, q _ (.d (.int _)) H (Go.self hi) ⟨_, rfl, by rw [ra.length]; exact .int _⟩ h⟩
  · obtain ⟨v, rfl, w, e, rr⟩ := paired1 r
    cases e
    cases rr with
    | tup il ra => exact ⟨_, _, rfl, .inr ⟨_, il.sq, rfl⟩, q _ (.d (.int _)) H (Go.self hi) ⟨_, rfl, by rw [ra.length]; exact .int _⟩ h⟩
  · obtain ⟨v, rfl, w, e, rr⟩ := paired1 r
    cases e
    cases rr with
    | scr il ra => exact ⟨_, _, rfl, .inl ⟨_, il.sq, rfl⟩, q _ (.d (.int _)) H (Go.self hi) ⟨_, rfl, by rw [ra.length]; exact .int _⟩ h⟩
  · obtain ⟨v, rfl, rr⟩ := paired1 r
    have e := sl_str rr
    subst e
    exact ⟨_, _, rfl, ⟨sz h.1, rfl⟩, q _ (.d (.int _)) H (Go.self hi) ⟨_, rfl, .int _⟩ h.2⟩
  · exact h.elim
/-- all, any of a list of truths -/
def unB : List D → Option (List Bool)
  | [] => some []
  | .bl b :: r => (unB r).map (b :: ·)
  | _ :: _ => none
theorem unB_ok {c : Cfg} {H : Hp} : ∀ {vs : List V} {ds : List D} {bs : List Bool}, RpAll c H vs ds → unB ds = some bs → vs = bs.map V.bl
  | _, _, _, .nil, e => by
    cases e
    rfl
  | _, d :: ds, bs, .cons r t, e => by
    cases d <;> first | cases e; done | skip
    rw [unB, Option.map_eq_some_iff] at e
    obtain ⟨es, e1, e2⟩ := e
    subst e2
    rw [unB_ok t e1, rp_bl r]
    rfl
def gAll : List Sl → DK → Prop := fun ss k => match ss with
  | [.d (.lst xs)] => match unB xs with
    | some bs => k (.d (.bl (bs.all id)))
    | none => False
  | _ => False
def gAny : List Sl → DK → Prop := fun ss k => match ss with
  | [.d (.lst xs)] => match unB xs with
    | some bs => k (.d (.bl (bs.any id)))
    | none => False
  | _ => False
theorem oc_all : OC K (rAll K) gAll := fun c H vs ss k Q eK hi r h q => by
  subst eK
  unfold gAll at h
  split at h
  · split at h
    · rename_i bs e
      obtain ⟨v, rfl, w, ew, rr⟩ := paired1 r
      cases ew
      cases rr with
      | lst nf il ra =>
        have z : SqL c.K H _ _ := .inl il
        rw [unB_ok ra e] at z
        exact ⟨_, bs, rfl, z, q _ (.d (.bl _)) H (Go.self hi) ⟨_, rfl, .bl _⟩ h⟩
    · exact h.elim
  · exact h.elim
/-- int of an int or a truth -/
def gInt : List Sl → DK → Prop := fun ss k => match ss with
  | [.d (.int i)] => k (.d (.int i))
  | [.d (.bl b)] => k (.d (.int (if b then 1 else 0)))
  | _ => False
theorem oc_int : OC K (fun xs H Q => (∃ i, xs = [.int i] ∧ Q (.int i) H) ∨ ∃ k, xs = [.bl k] ∧ Q (.int (if k then 1 else 0)) H) gInt := fun c H vs ss k Q eK hi r h q => by
  unfold gInt at h
  split at h
  · obtain ⟨v, rfl, rr⟩ := paired1 r
    have e := sl_int rr
    subst e
    exact .inl ⟨_, rfl, q _ (.d (.int _)) H (Go.self hi) ⟨_, rfl, .int _⟩ h⟩
  · obtain ⟨v, rfl, rr⟩ := paired1 r
    have e := sl_bl rr
    subst e
    exact .inr ⟨_, rfl, q _ (.d (.int _)) H (Go.self hi) ⟨_, rfl, .int _⟩ h⟩
  · exact h.elim
/-- max, min of two ints, abs -/
def gI2 (f : Int → Int → Int) : List Sl → DK → Prop := fun ss k => match ss with
  | [.d (.int i), .d (.int j)] => k (.d (.int (f i j)))
  | _ => False
def gI1 (f : Int → Int) : List Sl → DK → Prop := fun ss k => match ss with
  | [.d (.int i)] => k (.d (.int (f i)))
  | _ => False
theorem oc_I2 {f : Int → Int → Int} : OC K (fun xs H Q => ∃ i j, xs = [.int i, .int j] ∧ Q (.int (f i j)) H) (gI2 f) := fun c H vs ss k Q eK hi r h q => by
  unfold gI2 at h
  split at h
  · obtain ⟨v, w, rfl, rr, r2⟩ := paired2 r
    have e := sl_int rr
    subst e
    have e := sl_int r2
    subst e
    exact ⟨_, _, rfl, q _ (.d (.int _)) H (Go.self hi) ⟨_, rfl, .int _⟩ h⟩
  · exact h.elim
theorem oc_I1 {f : Int → Int} : OC K (fun xs H Q => ∃ i, xs = [.int i] ∧ Q (.int (f i)) H) (gI1 f) := fun c H vs ss k Q eK hi r h q => by
  unfold gI1 at h
  split at h
  · obtain ⟨v, rfl, rr⟩ := paired1 r
    have e := sl_int rr
    subst e
    exact ⟨_, rfl, q _ (.d (.int _)) H (Go.self hi) ⟨_, rfl, .int _⟩ h⟩
  · exact h.elim
/-! ### isinstance with a built-in class -/
inductive Ty where
  | int | bool | str | list | tuple | dict
def Ty.nm : Ty → String
  | .int => "int"
  | .bool => "bool"
  | .str => "str"
  | .list => "list"
  | .tuple => "tuple"
  | .dict => "dict"
def isTy : Ty → D → Bool
  | .int, .int _ => true
  | .int, .bl _ => true
  | .bool, .bl _ => true
  | .str, .str _ => true
  | .list, .lst _ => true
  | .tuple, .tup _ => true
  | .dict, .dic _ => true
  | _, _ => false
def isObj : D → Bool
  | .obj _ _ => true
  | .scr _ => true
  | _ => false
def gIs (T : Ty) : List Sl → DK → Prop := fun ss k => match ss with
  | [.d x, .v (.ty n)] => n = T.nm ∧ isObj x = false ∧ k (.d (.bl (isTy T x)))
  | _ => False
theorem kitN {K : PySem.W.Frag} (T : Ty) : PySem.W.kitOne K (.type "NoneType") (.type T.nm) = some false := by cases T <;> first | exact kit_ty (show kitB _ _ = some true from by decide +kernel) | exact kit_ty (show kitB _ _ = some false from by decide +kernel)
theorem kitBl {K : PySem.W.Frag} (T : Ty) (b : Bool) : PySem.W.kitOne K (.type "bool") (.type T.nm) = some (isTy T (.bl b)) := by cases T <;> first | exact kit_ty (show kitB _ _ = some true from by decide +kernel) | exact kit_ty (show kitB _ _ = some false from by decide +kernel)
theorem kitI {K : PySem.W.Frag} (T : Ty) (b : Int) : PySem.W.kitOne K (.type "int") (.type T.nm) = some (isTy T (.int b)) := by cases T <;> first | exact kit_ty (show kitB _ _ = some true from by decide +kernel) | exact kit_ty (show kitB _ _ = some false from by decide +kernel)
theorem kitS {K : PySem.W.Frag} (T : Ty) (b : Str) : PySem.W.kitOne K (.type "str") (.type T.nm) = some (isTy T (.str b)) := by cases T <;> first | exact kit_ty (show kitB _ _ = some true from by decide +kernel) | exact kit_ty (show kitB _ _ = some false from by decide +kernel)
theorem kitL {K : PySem.W.Frag} (T : Ty) (b : List D) : PySem.W.kitOne K (.type "list") (.type T.nm) = some (isTy T (.lst b)) := by cases T <;> first | exact kit_ty (show kitB _ _ = some true from by decide +kernel) | exact kit_ty (show kitB _ _ = some false from by decide +kernel)
theorem kitT {K : PySem.W.Frag} (T : Ty) (b : List D) : PySem.W.kitOne K (.type "tuple") (.type T.nm) = some (isTy T (.tup b)) := by cases T <;> first | exact kit_ty (show kitB _ _ = some true from by decide +kernel) | exact kit_ty (show kitB _ _ = some false from by decide +kernel)
theorem kitD {K : PySem.W.Frag} (T : Ty) (b : List (Key × D)) : PySem.W.kitOne K (.type "dict") (.type T.nm) = some (isTy T (.dic b)) := by cases T <;> first | exact kit_ty (show kitB _ _ = some true from by decide +kernel) | exact kit_ty (show kitB _ _ = some false from by decide +kernel)
/-- a type for what is no object of an own class -/
theorem rp_ty {c : Cfg} {H : Hp} {v : V} {d : D} (h : Rp c H v d) (n : isObj d = false) : ∃ t, TyX c.K H v t ∧ ∀ T : Ty, PySem.W.kitOne c.K t (.type T.nm) = some (isTy T d) := by
  cases h with
  | non => exact ⟨_, .base .non, fun T => by cases T <;> exact kitN _⟩
  | bl b => exact ⟨_, .base (.bl _), fun T => kitBl T b⟩
  | int b => exact ⟨_, .base (.int _), fun T => kitI T b⟩
  | str b => exact ⟨_, .base (.str _), fun T => kitS T b⟩
  | @lst a xs ds nf il ra =>
    refine ⟨.type "list", ?_, fun T => kitL T ds⟩
    rcases il with il | ⟨o, il⟩
    · exact .base (.lst il)
    · exact .base (.frz il)
  | scr _ _ => cases n
  | @tup a xs ds il ra =>
    refine ⟨.type "tuple", ?_, fun T => kitT T ds⟩
    rcases il with ⟨_, il | ⟨o, il⟩⟩ | ⟨o, _, _, e, cl, _⟩
    · exact .base (.tup il)
    · exact .fTuple il
    · exact .kTuple e cl
  | obj _ _ _ => cases n
  | @dic a kvs ds nf il ra =>
    refine ⟨.type "dict", ?_, fun T => kitD T ds⟩
    rcases il with il | ⟨o, il⟩
    · exact .base (.dK il)
    · exact .fDict il
theorem oc_is (T : Ty) : OC K (rIsi K) (gIs T) := fun c H vs ss k Q eK hi r h q => by
  subst eK
  unfold gIs at h
  split at h
  · rename_i x n
    obtain ⟨v, w, rfl, ⟨z, ez, rr⟩, r2⟩ := paired2 r
    cases ez
    have ew : w = .ty n := Option.some.inj r2
    subst ew
    obtain ⟨en, no, hk⟩ := h
    subst en
    obtain ⟨t, ht, hT⟩ := rp_ty rr no
    exact ⟨_, _, _, _, _, rfl, .ty _, ht, hT T, q _ (.d (.bl _)) H (Go.self hi) ⟨_, rfl, .bl _⟩ hk⟩
  · exact h.elim
/-! ### walks -/
structure WalkD (c : Cfg) (J : It) (xs : List D) (φ : Hp → Prop) : Prop where
  st : ∀ {H H' : Hp}, Kp c.F H H' → φ H → φ H'
  go : ∀ i H, φ H → c.I H → i < xs.length → J.go i H
  stop : ∀ i H, φ H → xs.length ≤ i → J.stop i H
  yld : ∀ i H x H' d, φ H → c.I H → xs[i]? = some d → J.yld i H x H' → Go c H H' ∧ Rp c H' x d
/-- a walk that stands at H, also beside a new thing that changes -/
structure WalkOk (c : Cfg) (J : It) (xs : List D) (H : Hp) : Prop where
  now : ∃ φ, WalkD c J xs φ ∧ φ H
  own : ∀ a, H a = none → ∃ φ : Hp → Prop, φ H ∧ ∀ ha, WalkD (c.hide a ha) J xs φ
abbrev DI := Gm → (List D → Prop) → Prop
def LiI (K : PySem.W.Frag) (W : WX) (xw : XW) (wi : TI) (di : DI) : Prop := ∀ c : Cfg, c.K = K → WOk c W xw → ∀ Γ k, di Γ k → ∀ σ H, StOk c σ H Γ → ∀ R : It → Hp → Prop,
  (∀ J H1 xs, Go c H H1 → WalkOk c J xs H1 → k xs → R J H1) → wi σ H R
structure PDI (X : Cx) (W : WX) (xw : XW) (tg iter : Expr) (wi : TI) (di : DI) : Prop where
  pi : Takes X W → PI X tg iter wi
  li : LiI X.K W xw wi di
/-- a list or a tuple -/
def iSeq (K : PySem.W.Frag) (tl : TE) : TI := fun σ H R => tl σ H fun x H1 => (∃ a, x = .ref a ∧ (∃ xs, SqL K H1 a xs) ∧ R (Itl K a) H1) ∨ (∃ a, x = .ref a ∧ (∃ xs, SqT K H1 a xs) ∧ R (Itt K a) H1)
theorem pi_seq {tg l : Expr} {tl : TE} (hl : PE X l tl) : PI X tg l (iSeq X.K tl) := by
  refine ⟨fun pins s σ H R I h => ?_⟩
  refine thn (hl.run pins s σ H _ I h) fun v s1 ⟨x, H1, I1, r1, q1⟩ => ?_
  rcases q1 with ⟨a, e, ⟨xs, hq⟩, q⟩ | ⟨a, e, ⟨xs, hq⟩, q⟩
  · subst e
    cases r1
    obtain ⟨its, rv, p, hz⟩ := I1.list hq
    refine wpAny_pyIter_list p.isList ?_
    refine ⟨s1.heap.objs.size, [s1.heap.objs.size], _, _, H1, rfl, I1.kept (t' := s1.toks) fun b o e => Heap.get?_push_of_some _ e, turn_list a _, ⟨_, Heap.get?_push_size _ rfl, rfl, rfl⟩, fun b hb => ?_, q⟩
    have e : b = s1.heap.objs.size := by simpa using hb
    subst e
    exact I1.fpOk (Nat.le_refl _) (I1.hok.fresh (Nat.le_refl _))
  · subst e
    cases r1
    obtain ⟨its, rv, p, hz⟩ := I1.tuple hq
    refine wpAny_pyIter_tuple (show s1.heap.IsTuple a its.toArray from p) ?_
    refine ⟨s1.heap.objs.size, [s1.heap.objs.size], _, _, H1, rfl, I1.kept (t' := s1.toks) fun b o e => Heap.get?_push_of_some _ e, turn_tuple a _, ⟨_, Heap.get?_push_size _ rfl, rfl, rfl⟩, fun b hb => ?_, q⟩
    have e : b = s1.heap.objs.size := by simpa using hb
    subst e
    exact I1.fpOk (Nat.le_refl _) (I1.hok.fresh (Nat.le_refl _))
theorem walk_l {c : Cfg} {a : Addr} {vs : List V} {xs : List D} : WalkD c (Itl c.K a) xs (fun H => InL c H a vs ∧ RpAll c H vs xs) where
  st := fun k h => ⟨h.1.to rfl (fun _ z => z) k, h.2.go k⟩
  go := fun i H h _ l => ⟨vs, vs[i]'(by rw [h.2.length]; exact l), h.1.sq, List.getElem?_eq_some_iff.mpr ⟨by rw [h.2.length]; exact l, rfl⟩⟩
  stop := fun i H h l => ⟨vs, h.1.sq, by rw [h.2.length]; exact l⟩
  yld := fun i H x H' d h hi e y => by
    obtain ⟨e1, e2⟩ := y
    subst e1
    obtain ⟨v, h1, h2⟩ := h.2.get e
    have e3 := e2 vs h.1.sq
    rw [h1] at e3
    cases e3
    exact ⟨Go.self hi, h2⟩
theorem walk_t {c : Cfg} {a : Addr} {vs : List V} {xs : List D} : WalkD c (Itt c.K a) xs (fun H => InT c H a vs ∧ RpAll c H vs xs) where
  st := fun k h => ⟨h.1.to rfl (fun _ z => z) k, h.2.go k⟩
  go := fun i H h _ l => ⟨vs, vs[i]'(by rw [h.2.length]; exact l), h.1.sq, List.getElem?_eq_some_iff.mpr ⟨by rw [h.2.length]; exact l, rfl⟩⟩
  stop := fun i H h l => ⟨vs, h.1.sq, by rw [h.2.length]; exact l⟩
  yld := fun i H x H' d h hi e y => by
    obtain ⟨e1, e2⟩ := y
    subst e1
    obtain ⟨v, h1, h2⟩ := h.2.get e
    have e3 := e2 vs h.1.sq
    rw [h1] at e3
    cases e3
    exact ⟨Go.self hi, h2⟩
theorem walkOk_l {c : Cfg} {a : Addr} {vs : List V} {xs : List D} {H : Hp} (il : InL c H a vs) (ra : RpAll c H vs xs) : WalkOk c (Itl c.K a) xs H :=
  ⟨⟨_, walk_l, il, ra⟩, fun b nb => ⟨fun H => ((¬ (c.F a ∨ a = b) ∧ Rd H a (.lst vs)) ∨ KL c.K a vs) ∧ ∀ ha, RpAll (c.hide b ha) H vs xs, ⟨il.elim (fun z => .inl ⟨fun y => y.elim z.1 fun e => by
      subst e
      rcases z.2 with z | ⟨_, z⟩ <;> (rw [nb] at z; cases z), z.2⟩) .inr, fun ha => ra.hide nb⟩, fun ha => by
    have w : WalkD (c.hide b ha) (Itl (c.hide b ha).K a) xs (fun H => InL (c.hide b ha) H a vs ∧ RpAll (c.hide b ha) H vs xs) := walk_l
    exact ⟨fun k h => ⟨(InL.to (c := c.hide b ha) (c' := c.hide b ha) rfl (fun _ z => z) k h.1), fun ha' => RpAll.to (c := c.hide b ha') (c' := c.hide b ha') rfl (fun _ z => z) k (h.2 ha')⟩,
      fun i H h => w.go i H ⟨h.1, h.2 ha⟩, fun i H h => w.stop i H ⟨h.1, h.2 ha⟩, fun i H x H' d h => w.yld i H x H' d ⟨h.1, h.2 ha⟩⟩⟩⟩
theorem walkOk_t {c : Cfg} {a : Addr} {vs : List V} {xs : List D} {H : Hp} (il : InT c H a vs) (ra : RpAll c H vs xs) : WalkOk c (Itt c.K a) xs H :=
  ⟨⟨_, walk_t, il, ra⟩, fun b nb => ⟨fun H => ((¬ (c.F a ∨ a = b) ∧ Rd H a (.tup vs)) ∨ KT c.K a vs) ∧ ∀ ha, RpAll (c.hide b ha) H vs xs, ⟨il.elim (fun z => .inl ⟨fun y => y.elim z.1 fun e => by
      subst e
      rcases z.2 with z | ⟨_, z⟩ <;> (rw [nb] at z; cases z), z.2⟩) .inr, fun ha => ra.hide nb⟩, fun ha => by
    have w : WalkD (c.hide b ha) (Itt (c.hide b ha).K a) xs (fun H => InT (c.hide b ha) H a vs ∧ RpAll (c.hide b ha) H vs xs) := walk_t
    exact ⟨fun k h => ⟨(InT.to (c := c.hide b ha) (c' := c.hide b ha) rfl (fun _ z => z) k h.1), fun ha' => RpAll.to (c := c.hide b ha') (c' := c.hide b ha') rfl (fun _ z => z) k (h.2 ha')⟩,
      fun i H h => w.go i H ⟨h.1, h.2 ha⟩, fun i H h => w.stop i H ⟨h.1, h.2 ha⟩, fun i H x H' d h => w.yld i H x H' d ⟨h.1, h.2 ha⟩⟩⟩⟩
def diSeq (a : DE) : DI := fun Γ k => a Γ fun s => match s with
  | .d (.lst xs) => k xs
  | .d (.tup xs) => k xs
  | _ => False
theorem pdi_seq {tg l : Expr} {tl : TE} {dl : DE} (h : PD X W xw l tl dl) : PDI X W xw tg l (iSeq X.K tl) (diSeq dl) :=
  ⟨fun tk => pi_seq (h.pe tk), fun c eK hW Γ k hk σ H st R q => h.li c eK hW Γ _ hk σ H st _ fun v s H1 g1 r1 h1 => by
    rw [← eK]
    try dsimp only at h1
    split at h1
    · obtain ⟨w, e, rr⟩ := r1
      cases e
      cases rr with
      | lst nf il ra => exact .inl ⟨_, rfl, ⟨_, .inl il⟩, q _ H1 _ g1 (walkOk_l (.inl ⟨nf, il⟩) ra) h1⟩
    · obtain ⟨w, e, rr⟩ := r1
      cases e
      cases rr with
      | tup il ra => exact .inr ⟨_, rfl, ⟨_, il.sq⟩, q _ H1 _ g1 (walkOk_t il ra) h1⟩
    · exact h1.elim⟩
/-- range(n) -/
def intsFrom (lo : Int) : Nat → List D
  | 0 => []
  | n + 1 => .int lo :: intsFrom (lo + 1) n
theorem intsFrom_length (lo : Int) (n : Nat) : (intsFrom lo n).length = n := by
  induction n generalizing lo with
  | zero => rfl
  | succ n ih => rw [intsFrom, List.length_cons, ih]
theorem intsFrom_get {lo : Int} {n i : Nat} {d : D} (h : (intsFrom lo n)[i]? = some d) : d = .int (lo + i) := by
  induction n generalizing lo i with
  | zero => simp [intsFrom] at h
  | succ n ih =>
    cases i with
    | zero =>
      simp [intsFrom] at h
      rw [← h]
      simp
    | succ i =>
      rw [intsFrom, List.getElem?_cons_succ] at h
      rw [ih h]
      congr 1
      omega
theorem walk_r {c : Cfg} {lo : Int} {n : Nat} : WalkD c (Itr lo n) (intsFrom lo n) (fun _ => True) where
  st := fun _ h => h
  go := fun i H _ _ l => by rw [intsFrom_length] at l; exact l
  stop := fun i H _ l => by rw [intsFrom_length] at l; exact l
  yld := fun i H x H' d _ hi e y => by
    obtain ⟨e1, e2⟩ := y
    subst e1 e2
    rw [intsFrom_get e]
    exact ⟨Go.self hi, .int _⟩
def diRange1 (a : DA) : DI := fun Γ k => a Γ fun ss => match ss with
  | [.d (.int n)] => (-(2 ^ 62) ≤ n ∧ n < 2 ^ 62) ∧ k (intsFrom 0 n.toNat)
  | _ => False
theorem pdi_range1 {tg e : Expr} {p pos : Pos} {ta : TA} {da : DA} (hm : X.mg "range" = none) (a : PDA X W xw [e] ta da) (hg : Gl X "range" := by rfl) (hs : starEach [e] X.env = [(false, eval e X.env)] := by rfl) : PDI X W xw tg (.Call (.Name "range" p) [e] [] pos) (iRng1 ta) (diRange1 da) :=
  ⟨fun tk => pi_range1 hg hm (a.pa tk) hs, fun c eK hW Γ k hk σ H st R q => a.li c eK hW Γ _ hk σ H st _ fun vs ss H1 g1 r1 h1 => by
    try dsimp only at h1
    split at h1
    · obtain ⟨v, rfl, rr⟩ := paired1 r1
      have e := sl_int rr
      subst e
      exact ⟨_, rfl, h1.1.1, h1.1.2, q _ H1 _ g1 ⟨⟨_, walk_r, trivial⟩, fun _ _ => ⟨fun _ => True, trivial, fun _ => walk_r⟩⟩ h1.2⟩
    · exact h1.elim⟩
/-! ### comprehensions with one name -/
def wipeD (Γ : Gm) (i : Nat) : Gm := Γ.set i .any
def lcD (i : Nat) (ts : DT) (e : DE) (Γ : Gm) : List D → (List D → Prop) → Prop
  | [], k => k []
  | x :: r, k => ts (Γ.set i (.d x)) fun b => cond b (e (Γ.set i (.d x)) fun s => match s with
    | .d y => lcD i ts e Γ r fun ys => k (y :: ys)
    | _ => False) (lcD i ts e Γ r k)
def dLc (i : Nat) (di : DI) (ts : DT) (e : DE) : DE := fun Γ k => di Γ fun xs => xs.length ≤ 100000 ∧ lcD i ts e Γ xs fun ys => k (.d (.lst ys))
def dYes : DT := fun _ k => k true
theorem li_lc {i : Nat} {wi : TI} {tt : TT} {te : TE} {di : DI} {ts : DT} {e : DE} (hi : LiI K W xw wi di) (ht : LiT K W0 xw0 tt ts) (he : Li K W0 xw0 te e) : Li K W xw (tLc wi (gName i) tt te [i]) (dLc i di ts e) := fun c eK hW Γ k hk σ H st Q q => by
  refine hi c eK hW Γ _ hk σ H st _ fun J H1 xs g1 wo hxs => fun q0 nD => ?_
  obtain ⟨hl, hk⟩ := hxs
  obtain ⟨φ, hφ, wk⟩ := wo.own q0 nD
  have nF : ¬ c.F q0 := c.fresh g1.inv nD
  -- beside the new list, with the walk's own and all that stood
  let G : Addr → Prop := fun b => c.G b ∨ b = q0
  have kD : ∀ {H : Hp} {o : HO}, Kp G H (upd H q0 o) := fun {H o} b u nb e => by
    rw [upd_ne (fun y => nb (.inr y))]
    exact e
  have kF : ∀ {H : Hp} {o : HO}, Kp (c.hide q0 nF).F H (upd H q0 o) := fun {H o} => kD.le fun b z => z.elim (fun z => .inl (c.GF z)) .inr
  have kG : ∀ {H H' : Hp}, Kp c.G H H' → Kp G H H' := fun k => k.le fun _ z => .inl z
  refine ⟨fun n m H => m = xs.length - n ∧ n ≤ xs.length ∧ φ H ∧ Kp G H1 H ∧ ∃ (acc : List V) (ys : List D), H q0 = some (.lst acc) ∧ StOk (c.hide q0 nF) σ H Γ ∧ RpAll (c.hide q0 nF) H acc ys ∧ acc.length ≤ n ∧ lcD i ts e Γ (xs.drop n) (fun zs => k (.d (.lst (ys ++ zs)))), ⟨xs.length, by simp, Nat.zero_le _, (wk nF).st kF hφ, kD, [], [], upd_same, (st.go g1).hide nF nD (fun b o e => by rw [upd_ne (ne_of_none e nD)]; exact e) (by rw [upd_same]; exact fun z => nomatch z), .nil, Nat.le_refl _, by simpa using hk⟩, ?_⟩
  rintro n m H2 ⟨rfl, hn, hf, kk, acc, ys, ea, sk, ra, la, hd⟩
  by_cases hlt : n < xs.length
  · refine .inr ⟨(wk nF).go n H2 hf sk.inv hlt, fun H' => n + 1 ≤ xs.length ∧ φ H' ∧ Kp G H1 H' ∧ ∃ (acc : List V) (ys : List D), H' q0 = some (.lst acc) ∧ StOk (c.hide q0 nF) σ H' Γ ∧ RpAll (c.hide q0 nF) H' acc ys ∧ acc.length ≤ n + 1 ∧ lcD i ts e Γ (xs.drop (n + 1)) (fun zs => k (.d (.lst (ys ++ zs)))), fun H' z => ⟨xs.length - (n + 1), by omega, rfl, z⟩, fun x H' y => ?_⟩
    have ex : xs[n]? = some xs[n] := List.getElem?_eq_some_iff.mpr ⟨hlt, rfl⟩
    obtain ⟨g2, rx⟩ := (wk nF).yld n H2 x H' xs[n] hf sk.inv ex y
    rw [List.drop_eq_getElem_cons hlt, lcD] at hd
    have ew : wipe σ [i] = σ.set i none := rfl
    refine ⟨by rw [ew]; simp [wipe], ?_⟩
    rw [ew, List.set_set]
    have s2 : StOk (c.hide q0 nF) (σ.set i (some x)) H' (Γ.set i (.d xs[n])) := (sk.go g2).set ⟨x, rfl, rx⟩
    refine ht (c.hide q0 nF) eK WOk.zero _ _ hd _ H' s2 _ fun b H3 g3 hb => ?_
    have st3 : ∀ {H3 : Hp}, Go (c.hide q0 nF) H2 H3 → φ H3 ∧ Kp G H1 H3 ∧ H3 q0 = some (.lst acc) := fun {H3} g => ⟨(wk nF).st g.kF hf, kk.trans (kG g.keep), g.keep q0 _ (fun z => nF (c.GF z)) ea⟩
    cases b
    · rw [if_neg Bool.false_ne_true]
      have g23 := g2.trans g3
      exact ⟨hlt, (st3 g23).1, (st3 g23).2.1, acc, ys, (st3 g23).2.2, sk.go g23, ra.go g23.kF, by omega, hb⟩
    · rw [if_pos rfl]
      refine he (c.hide q0 nF) eK WOk.zero _ _ hb _ H3 (s2.go g3) _ fun v s H4 g4 rv hv => ?_
      try dsimp only at hv
      have g24 := (g2.trans g3).trans g4
      split at hv
      · rename_i yy
        obtain ⟨w, ew', rr⟩ := rv
        cases ew'
        have sk4 := sk.go g24
        refine ⟨acc, (st3 g24).2.2, Nat.lt_of_le_of_lt la (Nat.lt_of_lt_of_le hlt (sz hl)), hlt, (wk nF).st kF (st3 g24).1, (st3 g24).2.1.trans kD, acc ++ [v], ys ++ [yy], upd_same, sk4.hput, ?_, by rw [List.length_append]; simp; omega, ?_⟩
        · exact RpAll.append ((ra.go g24.kF).go kF) (.cons (rr.go kF) .nil)
        · simpa using hv
      · exact hv.elim
  · have en : n = xs.length := by omega
    subst en
    rw [List.drop_length] at hd
    refine .inl ⟨(wk nF).stop _ H2 hf (Nat.le_refl _), q (.ref q0) (.d (.lst ys)) H2 (g1.trans ⟨fun b u nb eb => kk b u (fun z => z.elim nb fun y => by
      rw [y, nD] at eb
      cases eb) eb, Le.hide.I _ sk.inv⟩) ⟨_, rfl, .lst nF (.inl ea) (ra.le Le.hide)⟩ (by simpa [lcD] using hd)⟩
end
end Dv
set_option Elab.async false
set_option linter.all false
set_option maxRecDepth 100000
set_option maxHeartbeats 4000000
/-! Ds: statements over plain data. -/
namespace Dv
open PySem L2
structure DEnds where
  nx : Gm → Prop
  rt : Sl → Prop := fun _ => False
  bk : Gm → Prop := fun _ => False
  ct : Gm → Prop := fun _ => False
abbrev DS := DEnds → Gm → Prop
structure EndsOk (c : Cfg) (E : Ends) (D : DEnds) : Prop where
  nx : ∀ Γ σ H, StOk c σ H Γ → D.nx Γ → E.nx σ H
  rt : ∀ v s H, c.I H → SlOk c H (some v) s → D.rt s → E.rt v H
  bk : ∀ Γ σ H, StOk c σ H Γ → D.bk Γ → E.bk σ H
  ct : ∀ Γ σ H, StOk c σ H Γ → D.ct Γ → E.ct σ H
theorem EndsOk.le {c c' : Cfg} {E : Ends} {D : DEnds} (l : Le c c') (h : EndsOk c E D) : EndsOk c' E D :=
  ⟨fun Γ σ H s q => h.nx Γ σ H (s.le l) q, fun v s H i r q => h.rt v s H (l.I _ i) (r.le l) q, fun Γ σ H s q => h.bk Γ σ H (s.le l) q, fun Γ σ H s q => h.ct Γ σ H (s.le l) q⟩
def LiS (K : PySem.W.Frag) (W : WX) (xw : XW) (ts : TS) (ds : DS) : Prop := ∀ c : Cfg, c.K = K → WOk c W xw → ∀ (E : Ends) (D : DEnds), EndsOk c E D → ∀ Γ σ H, StOk c σ H Γ → ds D Γ → ts E σ H
structure PDS (X : Cx) (W : WX) (xw : XW) (st : Stmt) (ts : TS) (ds : DS) : Prop where
  ps : Takes X W → PS X st ts
  li : LiS X.K W xw ts ds
structure PDSs (X : Cx) (W : WX) (xw : XW) (st : List Stmt) (ts : TS) (ds : DS) : Prop where
  ps : Takes X W → PSs X st ts
  li : LiS X.K W xw ts ds
section
variable {X : Cx} {W : WX} {xw : XW} {K : PySem.W.Frag} {pos : Pos}
def dNext : DS := fun D Γ => D.nx Γ
def dSeq (a b : DS) : DS := fun D Γ => a { D with nx := b D } Γ
def dBreak : DS := fun D Γ => D.bk Γ
def dCont : DS := fun D Γ => D.ct Γ
def dRet (e : DE) : DS := fun D Γ => e Γ D.rt
def dRetN : DS := fun D _ => D.rt (.d .non)
def dDrop (e : DE) : DS := fun D Γ => e Γ fun _ => D.nx Γ
def dIfS (t : DT) (a b : DS) : DS := fun D Γ => t Γ fun v => cond v (a D Γ) (b D Γ)
def dAsg (i : Nat) (e : DE) : DS := fun D Γ => e Γ fun s => D.nx (Γ.set i s)
section
variable {st : Stmt} {rest : List Stmt} {t u : TS} {d e : DS}
theorem pdss_nil : PDSs X W xw [] tNext dNext := ⟨fun tk => pss_nil, fun c eK hW E D o Γ σ H s h => o.nx Γ σ H s h⟩
theorem li_seq (h1 : LiS K W xw t d) (h2 : LiS K W xw u e) : LiS K W xw (tSeq t u) (dSeq d e) := fun c eK hW E D o Γ σ H s h =>
  h1 c eK hW { E with nx := u E } { D with nx := e D } ⟨fun Γ σ H s q => h2 c eK hW E D o Γ σ H s q, o.rt, o.bk, o.ct⟩ Γ σ H s h
theorem pdss_cons (h1 : PDS X W xw st t d) (h2 : PDSs X W xw rest u e) : PDSs X W xw (st :: rest) (tSeq t u) (dSeq d e) := ⟨fun tk => pss_cons (h1.ps tk) (h2.ps tk), li_seq h1.li h2.li⟩
theorem pdss_one (h1 : PDS X W xw st t d) : PDSs X W xw [st] t d := ⟨fun tk => pss_one (h1.ps tk), h1.li⟩
theorem pds_pass : PDS X W xw (.Pass pos) tNext dNext := ⟨fun tk => ps_pass, fun c eK hW E D o Γ σ H s h => o.nx Γ σ H s h⟩
theorem pds_break : PDS X W xw (.Break pos) tBreak dBreak := ⟨fun tk => ps_break, fun c eK hW E D o Γ σ H s h => o.bk Γ σ H s h⟩
theorem pds_continue : PDS X W xw (.Continue pos) tCont dCont := ⟨fun tk => ps_continue, fun c eK hW E D o Γ σ H s h => o.ct Γ σ H s h⟩
theorem pds_ret {a : Expr} {ta : TE} {da : DE} (h : PD X W xw a ta da) : PDS X W xw (.Return (some a) pos) (tRet ta) (dRet da) :=
  ⟨fun tk => ps_ret (h.pe tk), fun c eK hW E D o Γ σ H s hd => h.li c eK hW Γ _ hd σ H s _ fun v s' H1 g r q => o.rt v s' H1 g.inv r q⟩
theorem pds_retN : PDS X W xw (.Return none pos) tRetN dRetN := ⟨fun tk => ps_retN, fun c eK hW E D o Γ σ H s hd => o.rt .non (.d .non) H s.inv ⟨_, rfl, .non⟩ hd⟩
theorem pds_expr {a : Expr} {ta : TE} {da : DE} (h : PD X W xw a ta da) (hs : swapsWith a none pos.line X.env = pure false := by rfl) : PDS X W xw (.Expr a pos) (tDrop ta) (dDrop da) :=
  ⟨fun tk => ps_expr (h.pe tk) hs, fun c eK hW E D o Γ σ H s hd => h.li c eK hW Γ _ hd σ H s _ fun v s' H1 g r q => o.nx Γ σ H1 (s.go g) q⟩
theorem pds_if {c0 : Expr} {a b : List Stmt} {tc : TT} {dc : DT} (hc : PDT X W xw c0 tc dc) (ha : PDSs X W xw a t d) (hb : PDSs X W xw b u e) : PDS X W xw (.If c0 a b pos) (tIfS tc t u) (dIfS dc d e) :=
  ⟨fun tk => ps_if (hc.pt tk) (ha.ps tk) (hb.ps tk), fun c eK hW E D o Γ σ H s hd => hc.li c eK hW Γ _ hd σ H s _ fun v H1 g h1 => by
    cases v
    · rw [if_neg Bool.false_ne_true]
      exact hb.li c eK hW E D o Γ σ H1 (s.go g) h1
    · rw [if_pos rfl]
      exact ha.li c eK hW E D o Γ σ H1 (s.go g) h1⟩
theorem pds_set {i : Nat} {x : Str} {a : Expr} {ta : TE} {da : DE} {pos' : Pos} (h : PD X W xw a ta da) (hN : X.N.Nodup) (hi : X.N[i]? = some x := by rfl) (hx : Loc X.env.scope x := by first | exact Or.inl rfl | exact Or.inr rfl) (hs : swapsWith a (some (.Name x pos')) pos.line X.env = pure false := by rfl) (hf : X.fn x = true ∨ X.env.scope.names.lookup x = some .local := by first | exact .inl rfl | exact .inr rfl | assumption) :
    PDS X W xw (.Assign [.Name x pos'] a pos) (tAsg ta (gName i)) (dAsg i da) :=
  ⟨fun tk => ps_set hN hi hx (h.pe tk) hs hf, fun c eK hW E D o Γ σ H s hd => h.li c eK hW Γ _ hd σ H s _ fun v s' H1 g r q => o.nx _ _ H1 ((s.go g).set r) q⟩
/-- a, b = x, y -/
def dPar (i j : Nat) (a : DA) : DS := fun D Γ => a Γ fun ss => match ss with
  | [s, t] => D.nx ((Γ.set i s).set j t)
  | _ => False
theorem pds_par {i j : Nat} {x y : Str} {a b : Expr} {ta : TA} {da : DA} {px py pt : Pos} {kt k2 pt2} (h : PDA X W xw [a, b] ta da) (hc : X.calm = true) (hN : X.N.Nodup) (hi : X.N[i]? = some x := by rfl) (hj : X.N[j]? = some y := by rfl) (hij : i ≠ j := by decide)
    (hx : X.env.scope.names.lookup x = some .local := by rfl) (hy : X.env.scope.names.lookup y = some .local := by rfl)
    (hw : swappedStores [.Tuple [.Name x px, .Name y py] kt pt] (.Tuple [a, b] k2 pt2) X.env = pure (some [x, y]) := by rfl)
    (hs : swapsWithSole [.Tuple [.Name x px, .Name y py] kt pt] (.Tuple [a, b] k2 pt2) pos.line X.env = pure false := by rfl) :
    PDS X W xw (.Assign [.Tuple [.Name x px, .Name y py] kt pt] (.Tuple [a, b] k2 pt2) pos) (tPar i j ta) (dPar i j da) :=
  ⟨fun tk => ps_par hc hN hi hj hij hx hy (h.pa tk) hw hs, fun c eK hW E D o Γ σ H s hd => h.li c eK hW Γ _ hd σ H s _ fun vs ss H1 g r q => by
    try dsimp only at q
    split at q
    · obtain ⟨v, w, rfl, r1, r2⟩ := paired2 r
      exact ⟨v, w, rfl, o.nx _ _ H1 (((s.go g).set r1).set r2) q⟩
    · exact q.elim⟩
end
/-! ### targets -/
abbrev DG := D → Gm → (Gm → Prop) → Prop
def LiG (K : PySem.W.Frag) (g : TG) (dg : DG) : Prop := ∀ c : Cfg, c.K = K → ∀ x d Γ σ H k, StOk c σ H Γ → Rp c H x d → dg d Γ k → ∀ Q : St → Hp → Prop, (∀ σ' Γ', StOk c σ' H Γ' → k Γ' → Q σ' H) → g x σ H Q
structure PDG (X : Cx) (tg : Expr) (g : TG) (dg : DG) : Prop where
  pg : PG X tg g
  li : LiG X.K g dg
def dgName (i : Nat) : DG := fun d Γ k => k (Γ.set i (.d d))
theorem pdg_name {i : Nat} {x : Str} (hN : X.N.Nodup) (hi : X.N[i]? = some x := by rfl) (hx : Loc X.env.scope x := by first | exact Or.inl rfl | exact Or.inr rfl) (hf : X.fn x = true ∨ X.env.scope.names.lookup x = some .local := by first | exact .inl rfl | exact .inr rfl | assumption) : PDG X (.Name x pos) (gName i) (dgName i) :=
  ⟨pg_name hN hi hx hf, fun c eK x d Γ σ H k s r h Q q => q _ _ (s.set (s := .d d) ⟨x, rfl, r⟩) h⟩
abbrev DGs := List D → Gm → (Gm → Prop) → Prop
def LiGs (K : PySem.W.Frag) (g : TGs) (dg : DGs) : Prop := ∀ c : Cfg, c.K = K → ∀ xs ds Γ σ H k, StOk c σ H Γ → RpAll c H xs ds → dg ds Γ k → ∀ Q : St → Hp → Prop, (∀ σ' Γ', StOk c σ' H Γ' → k Γ' → Q σ' H) → g xs σ H Q
structure PDGs (X : Cx) (tg : List Expr) (g : TGs) (dg : DGs) : Prop where
  pg : PGs X tg g
  li : LiGs X.K g dg
def dgNil : DGs := fun ds Γ k => match ds with
  | [] => k Γ
  | _ => False
def dgCons (a : DG) (r : DGs) : DGs := fun ds Γ k => match ds with
  | d :: ds => a d Γ fun Γ' => r ds Γ' k
  | [] => False
theorem pdgs_nil : PDGs X [] gNil dgNil := ⟨pgs_nil, fun c eK xs ds Γ σ H k s r h Q q => by
  cases r with
  | nil => exact ⟨rfl, q σ Γ s h⟩
  | cons _ _ => exact h.elim⟩
theorem pdgs_cons {e : Expr} {es : List Expr} {t : TG} {u : TGs} {a : DG} {b : DGs} (h1 : PDG X e t a) (h2 : PDGs X es u b)
    (hs : (assignEach (e :: es) X.env).map (·.2) = assign e X.env :: (assignEach es X.env).map (·.2) := by rfl) : PDGs X (e :: es) (gCons t u) (dgCons a b) :=
  ⟨pgs_cons h1.pg h2.pg hs, fun c eK xs ds Γ σ H k s r h Q q => by
    cases r with
    | nil => exact h.elim
    | cons r1 r2 => exact ⟨_, _, rfl, h1.li c eK _ _ Γ σ H _ s r1 h _ fun σ' Γ' s' h' => h2.li c eK _ _ Γ' σ' H k s' r2 h' Q q⟩⟩
def dgTup (n : Nat) (a : DGs) : DG := fun d Γ k => match d with
  | .tup xs => xs.length = n ∧ a xs Γ k
  | _ => False
theorem pdg_tup {es : List Expr} {k : _} {t : TGs} {a : DGs} {n : Nat} (hc : X.calm = true) (h : PDGs X es t a) (hn : (assignEach es X.env).length = n := by rfl) (hst : (assignEach es X.env).findIdx? (·.1) = none := by rfl) : PDG X (.Tuple es k pos) (gTup X.K n t) (dgTup n a) :=
  ⟨pg_tup hc h.pg hn hst, fun c eK x d Γ σ H k s r hd Q q => by
    unfold dgTup at hd
    split at hd
    · cases r with
      | tup il ra => exact ⟨_, _, rfl, by rw [← eK]; exact il.sq, by rw [ra.length]; exact hd.1, h.li c eK _ _ Γ σ H k s ra hd.2 Q q⟩
    · exact hd.elim⟩
/-- target = value, the value data -/
def dAsgG (g : DG) (e : DE) : DS := fun D Γ => e Γ fun s => match s with
  | .d x => g x Γ D.nx
  | _ => False
theorem pds_asg {tg a : Expr} {ta : TE} {da : DE} {g : TG} {dg : DG} (h : PD X W xw a ta da) (hg : PDG X tg g dg) (hs : swapsWithSole [tg] a pos.line X.env = pure false := by rfl) (hw : swappedStores [tg] a X.env = pure none := by rfl)
    (h1 : (assignEach [tg] X.env).map (·.2) = [assign tg X.env] := by rfl) : PDS X W xw (.Assign [tg] a pos) (tAsg ta g) (dAsgG dg da) :=
  ⟨fun tk => ps_asg (h.pe tk) hg.pg hs hw h1, fun c eK hW E D o Γ σ H s hd => h.li c eK hW Γ _ hd σ H s _ fun v s' H1 g1 r q => by
    try dsimp only at q
    split at q
    · obtain ⟨w, e, rr⟩ := r
      cases e
      exact hg.li c eK _ _ Γ σ H1 _ (s.go g1) rr q _ fun σ' Γ' s2 k2 => o.nx Γ' σ' H1 s2 k2
    · exact q.elim⟩
/-! ### for -/
def forD (g : DG) (b : DS) (E : DEnds) : List D → Gm → Prop
  | [], Γ => E.nx Γ
  | x :: r, Γ => g x Γ fun Γ' => b { E with nx := forD g b E r, ct := forD g b E r, bk := E.nx } Γ'
def dFor (di : DI) (g : DG) (b : DS) : DS := fun D Γ => di Γ fun xs => forD g b D xs Γ
theorem li_for {wi : TI} {g : TG} {tb : TS} {di : DI} {dg : DG} {b : DS} (hi : LiI K W xw wi di) (hg : LiG K g dg) (hb : LiS K W xw tb b) : LiS K W xw (tFor wi g tb) (dFor di dg b) := fun c eK hW E D o Γ σ H s hd => by
  refine hi c eK hW Γ _ hd σ H s _ fun J H1 xs g1 wo hxs => ?_
  obtain ⟨φ, wk, hφ⟩ := wo.now
  let c' := c.wth φ fun k h => wk.st (k.le fun _ z => c.WF z) h
  have lc : Le c c' := Le.wth
  refine ⟨fun n m σ H => m = xs.length - n ∧ n ≤ xs.length ∧ ∃ Γ, StOk c' σ H Γ ∧ forD dg b D (xs.drop n) Γ, ⟨xs.length, by simp, Nat.zero_le _, Γ, (s.go g1).wth hφ, hxs⟩, ?_⟩
  rintro n m σ2 H2 ⟨rfl, hn, Γ2, s2, hd2⟩
  by_cases hlt : n < xs.length
  · refine .inr ⟨wk.go n H2 s2.inv.2 s2.inv.1 hlt, fun σ' H' => n + 1 ≤ xs.length ∧ ∃ Γ', StOk c' σ' H' Γ' ∧ forD dg b D (xs.drop (n + 1)) Γ', fun σ' H' z => ⟨xs.length - (n + 1), by omega, rfl, z⟩, fun x H' y => ?_⟩
    have ex : xs[n]? = some xs[n] := List.getElem?_eq_some_iff.mpr ⟨hlt, rfl⟩
    obtain ⟨g2, rx⟩ := wk.yld n H2 x H' xs[n] s2.inv.2 s2.inv.1 ex y
    rw [List.drop_eq_getElem_cons hlt, forD] at hd2
    have s3 : StOk c' σ2 H' Γ2 := s2.go ⟨g2.keep, g2.inv, wk.st g2.kF s2.inv.2⟩
    refine hg c' eK x _ Γ2 σ2 H' _ s3 (Rp.to (c := c) (c' := c') rfl (fun _ z => z) Kp.self rx) hd2 _ fun σ4 Γ4 s4 h4 => ?_
    refine hb c' eK (hW.le lc) { E with nx := fun σ' H' => n + 1 ≤ xs.length ∧ ∃ Γ', StOk c' σ' H' Γ' ∧ forD dg b D (xs.drop (n + 1)) Γ', ct := fun σ' H' => n + 1 ≤ xs.length ∧ ∃ Γ', StOk c' σ' H' Γ' ∧ forD dg b D (xs.drop (n + 1)) Γ', bk := E.nx } { D with nx := forD dg b D (xs.drop (n + 1)), ct := forD dg b D (xs.drop (n + 1)), bk := D.nx } ⟨?_, (o.le lc).rt, (o.le lc).nx, ?_⟩ Γ4 σ4 H' s4 h4
    · exact fun Γ σ H s q => ⟨hlt, Γ, s, q⟩
    · exact fun Γ σ H s q => ⟨hlt, Γ, s, q⟩
  · have en : n = xs.length := by omega
    subst en
    rw [List.drop_length] at hd2
    exact .inl ⟨wk.stop _ H2 s2.inv.2 (Nat.le_refl _), o.nx Γ2 σ2 H2 (s2.le lc) hd2⟩
theorem pds_for {tg iter : Expr} {body : List Stmt} {wi : TI} {g : TG} {tb : TS} {di : DI} {dg : DG} {b : DS} (hp : PassesOwn (model X.prog X.w) X.A X.env X.xe) (hc : X.calm = true) (hi : PDI X W xw tg iter wi di) (hg : PDG X tg g dg) (hb : PDSs X W xw body tb b)
    (hs : ∀ x, foldedSetIterable iter X.env x = pure x := by intro _; rfl) : PDS X W xw (.For tg iter body [] pos) (tFor wi g tb) (dFor di dg b) := ⟨fun tk => ps_for hp hc (hi.pi tk) hg.pg (hb.ps tk) hs, li_for hi.li hg.li hb.li⟩
/-! ### raise of an error of the program -/
def dRaise (C : Addr) (xw : XW) (a : DA) : DS := fun _ Γ => a Γ fun ss => match ss with
  | [.d x] => xw C (some [(("value" : Str), x)]) Γ
  | _ => False
theorem pds_raise {nm : Str} {C D fI : Addr} {a : Expr} {ta : TA} {da : DA} {p pos pos2 : Pos} {k : Nat} (hc : X.calm = true) (T : PySem.RoomX.RoomTxt X.prog X.K X.mg D fI) (U : PySem.RoomX.RoomCls X.K X.mg nm C D fI) (hr : Room k X.A) (h : PDA X W xw [a] ta da) (hg : Gl X nm := by rfl)
    (he : starEach (a :: []) X.env = (false, eval a X.env) :: starEach [] X.env := by rfl) (hpl : (backTo pos (starEach [] X.env)).any (·.1) = false := by rfl) (hdb : (nm == ("__debug__" : Str)) = false := by decide) :
    PDS X W xw (.Raise (some (.Call (.Name nm p) [a] [] pos)) none pos2) (tRaiseRoom C W ta) (dRaise C xw da) :=
  ⟨fun tk => ps_raiseRoom hc T U hr tk (h.pa tk) hg he hpl hdb, fun c eK hW E D o Γ σ H s hd => h.li c eK hW Γ _ hd σ H s _ fun vs ss H1 g r q => by
    try dsimp only at q
    split at q
    · obtain ⟨v, rfl, w, e, rr⟩ := paired1 r
      cases e
      refine ⟨v, rfl, fun d nd => ?_⟩
      have g2 := Go.new (o := xval v) g.inv nd
      exact hW σ _ Γ C (some d) (some _) ((s.go g).go g2) ⟨_, c.fresh g.inv nd, upd_same, .cons (rr.go g2.kF) .nil⟩ q
    · exact q.elim⟩
end
end Dv
set_option Elab.async false
set_option linter.all false
set_option maxRecDepth 100000
set_option maxHeartbeats 4000000
/-! Df: defs and their contracts over plain data; try; pools. -/
namespace Dv
open PySem L2
def noOwn : List Sl → Bool
  | [] => true
  | .own _ _ :: _ => false
  | _ :: r => noOwn r
theorem paired_sub {c : Cfg} {H : Hp} {vs : List V} {ss : List Sl} (h : Paired (fun v s => SlOk c H (some v) s) vs ss) : noOwn ss = true → Paired (fun v s => SlOk c.sub H (some v) s) vs ss := by
  induction h with
  | nil => exact fun _ => .nil
  | cons a b ih =>
    rename_i v s vs ss
    intro z
    cases s with
    | any => exact .cons trivial (ih z)
    | v x => exact .cons a (ih z)
    | d x =>
      obtain ⟨w, e, r⟩ := a
      exact .cons ⟨w, e, Rp.to (c := c) (c' := c.sub) rfl (fun _ z => z) Kp.self r⟩ (ih z)
    | pool => exact .cons a (ih z)
    | ex b cls dd p => exact .cons ⟨a.1, XOk.to (c := c) (c' := c.sub) rfl (fun _ z => z) Kp.self a.2⟩ (ih z)
    | own k x => cases z
/-- what a def tells: of arguments, of what is wanted of the value, of what is wanted of an error -/
structure Ctr where
  n : Nat
  f : List Sl → DK → (Addr → XP → Prop) → Prop
  mono : ∀ {ss : List Sl} {k k' : DK} {x x' : Addr → XP → Prop}, (∀ s, k s → k' s) → (∀ C p, x C p → x' C p) → f ss k x → f ss k' x'
  no : ∀ {ss : List Sl} {k : DK} {x : Addr → XP → Prop}, f ss k x → noOwn ss = true := by (intro ss k x h; (try dsimp only at h); split at h <;> first | rfl | exact h.elim)
def Ctr.sp (C : Ctr) (K : PySem.W.Frag) : Sp := fun vs H Q E => ∃ (c : Cfg) (ss : List Sl), c.K = K ∧ c.I H ∧ Paired (fun v s => SlOk c H (some v) s) vs ss ∧ ss.length = C.n ∧
  C.f ss (fun s => ∀ v H', Go c H H' → SlOk c H' (some v) s → Q v H') (fun A p => ∀ d H', Go c H H' → XOk c H' d p → E (.ref A) d H')
theorem paired_len {α β : Type} {F : α → β → Prop} {xs : List α} {ys : List β} (h : Paired F xs ys) : xs.length = ys.length := by
  induction h with
  | nil => rfl
  | cons _ _ ih => exact congrArg (· + 1) ih
section
variable {X : Cx} {W : WX} {xw : XW} {K : PySem.W.Frag}
def dCall (C : Ctr) (xw : XW) (a : DA) : DE := fun Γ k => a Γ fun ss => ss.length = C.n ∧ C.f ss k fun A p => xw A p Γ
section
variable {C : Ctr} {f : Addr} {fd : FuncData} {ps : List Str} {k : Nat} {x : Str} {p pos : Pos} {e : Expr} {es : List Expr} {ta : TA} {da : DA}
/-- f(..) that raises nothing here -/
theorem pd_call (F : FnOk X.prog X.w X.K X.mg X.base (L2.CX X.prog X.w) k f fd ps (C.sp X.K)) (hr : Room k X.A) (hm : X.mg x = some (.ref f)) (hk : PySem.W.keepIn X.K (.ref f) = true) (hb : Binds X.K fd ps []) (a : PDA X W xw (e :: es) ta da) (hg : Gl X x := by rfl)
    (hdb : (x == ("__debug__" : Str)) = false := by decide) (he : starEach (e :: es) X.env = (false, eval e X.env) :: starEach es X.env := by rfl) (hpl : (backTo pos (starEach es X.env)).any (·.1) = false := by rfl) :
    PD X W xw (.Call (.Name x p) (e :: es) [] pos) (tCall (C.sp X.K) [] E0 ta) (dCall C xw0 da) :=
  ⟨fun tk => pe_call F hr hg hm hk hb .nil passL (a.pa tk) hdb he hpl, fun c eK hW Γ k hd σ H st Q q => a.li c eK hW Γ _ hd σ H st _ fun vs ss H1 g r h => by
    rw [List.append_nil]
    exact ⟨c, ss, eK, g.inv, r, h.1, C.mono (fun s ks v H' g' r' => q v s H' (g.trans g') r' ks) (fun _ _ z => z.elim) h.2⟩⟩
/-- f(..) that may raise -/
theorem pd_callX (F : FnOk X.prog X.w X.K X.mg X.base (L2.CX X.prog X.w) k f fd ps (C.sp X.K)) (hr : Room k X.A) (hm : X.mg x = some (.ref f)) (hk : PySem.W.keepIn X.K (.ref f) = true) (hb : Binds X.K fd ps []) (a : PDA X W xw (e :: es) ta da) (hg : Gl X x := by rfl)
    (hdb : (x == ("__debug__" : Str)) = false := by decide) (he : starEach (e :: es) X.env = (false, eval e X.env) :: starEach es X.env := by rfl) (hpl : (backTo pos (starEach es X.env)).any (·.1) = false := by rfl) :
    PD X W xw (.Call (.Name x p) (e :: es) [] pos) (tCallS (C.sp X.K) (WE W) ta) (dCall C xw da) :=
  ⟨fun tk => pe_callS F hr hg hm hk hb (fun σ => passAt tk σ) (a.pa tk) hdb he hpl, fun c eK hW Γ k hd σ H st Q q => a.li c eK hW Γ _ hd σ H st _ fun vs ss H1 g r h =>
    ⟨c, ss, eK, g.inv, r, h.1, C.mono (fun s ks v H' g' r' => q v s H' (g.trans g') r' ks) (fun A pp z d H' g' x' => hW σ H' Γ A d pp (st.go (g.trans g')) x' z) h.2⟩⟩
end
end
/-! ### a def keeps its contract -/
def startD (N : List Str) (ss : List Sl) : Gm := ss ++ List.replicate (N.length - ss.length) .any
theorem start_ok {c : Cfg} {H : Hp} {N : List Str} {vs : List V} {ss : List Sl} (hi : c.I H) (r : Paired (fun v s => SlOk c H (some v) s) vs ss) : StOk c (L2.start N vs) H (startD N ss) := by
  have hl := paired_len r
  refine ⟨hi, by simp [L2.start, startD, hl], fun i o s e1 e2 => ?_⟩
  unfold L2.start at e1
  unfold startD at e2
  by_cases h : i < ss.length
  · rw [List.getElem?_append_left (by simpa [hl] using h), List.getElem?_map] at e1
    rw [List.getElem?_append_left h] at e2
    have key : ∀ {vs : List V} {ss : List Sl} {i : Nat}, Paired (fun v s => SlOk c H (some v) s) vs ss → Option.map some vs[i]? = some o → ss[i]? = some s → SlOk c H o s := by
      intro vs ss i r
      induction r generalizing i with
      | nil =>
        intro z
        simp at z
      | cons a b ih =>
        intro z1 z2
        cases i with
        | zero =>
          simp at z1 z2
          subst z1 z2
          exact a
        | succ i => exact ih (by simpa using z1) (by simpa using z2)
    exact key r e1 e2
  · rw [List.getElem?_append_right (by omega)] at e2
    have z : s = .any := by
      have y := List.getElem?_replicate (a := Sl.any) (n := N.length - ss.length) (i := i - ss.length)
      rw [y] at e2
      split at e2
      · exact (Option.some.inj e2).symm
      · cases e2
    rw [z]
    trivial
section
variable {P : Program} {w : World} {K : PySem.W.Frag} {mg : Str → Option Value} {base : Heap}
theorem fn_ok {x qual : Str} {st : Stmt} {f : Addr} {fd : FuncData} {N ps : List Str} {k : Nat} (C : Ctr) (F : Fun K x qual st f fd) (S : FnScope N ps (defScope st)) (hn : ps.length = C.n)
    (body : ∀ (cdv : Value) (A : Around) (outer : List Env) (s : Shared) (H : Hp) (E : XK) (xw : XW), Room k (A.deeper (PyProof.Rows.envOfC qual (defScope st) s.heap.objs.size f cdv)) →
      PassesOwn (model P w) (cxOf (L2.CX P w) P w K mg base N qual (defScope st) f cdv A outer s H E).A (cxOf (L2.CX P w) P w K mg base N qual (defScope st) f cdv A outer s H E).env (cxOf (L2.CX P w) P w K mg base N qual (defScope st) f cdv A outer s H E).xe →
      ∃ ts ds, PDSs (cxOf (L2.CX P w) P w K mg base N qual (defScope st) f cdv A outer s H E) (fun cls d _ H => E cls d H) xw (defBody st) ts ds ∧
        ∀ ss kk xx, ss.length = C.n → C.f ss kk xx → (xw = fun A p _ => xx A p) → ds { nx := fun _ => kk (.d .non), rt := kk } (startD N ss)) : FnOk P w K mg base (L2.CX P w) (k + 1) f fd ps (C.sp K) := by
  refine F.okX S (fun vs H Q E h => ?_) (fun cdv A outer s H vs Q E hr h => ?_)
  · obtain ⟨c, ss, _, _, r, hl, _⟩ := h
    rw [paired_len r, hl, hn]
  · obtain ⟨c, ss, eK, hi, r, hl, hf⟩ := h
    obtain ⟨ts, ds, pd, hd⟩ := body cdv A outer s H E (fun A p _ => ∀ d H', Go c H H' → XOk c H' d p → E (.ref A) d H') hr (passes_of rfl)
    refine ⟨ts, pd.ps (takes_of rfl rfl rfl rfl), ?_⟩
    have q := hd ss _ _ hl hf rfl
    let c' := c.sub.wth (Kp c.G H) (fun {H1 H2} k h => h.trans k)
    have lc : Le c c' := ⟨rfl, fun _ z => z, fun _ h => h.1, fun _ z => z, fun _ _ e => nomatch e⟩
    have s0 : StOk c' (L2.start N vs) H (startD N ss) := (start_ok (c := c.sub) hi (paired_sub r (C.no hf))).wth Kp.self
    refine pd.li c' eK ?_ _ _ ⟨?_, ?_, ?_, ?_⟩ _ _ _ s0 q
    · exact fun σ H' Γ A d p st x z => z d H' ⟨st.inv.2, st.inv.1⟩ (x.le lc)
    · exact fun Γ σ H' st z => z .non H' ⟨st.inv.2, st.inv.1⟩ ⟨_, rfl, .non⟩
    · exact fun v s H' i r z => z v H' ⟨i.2, i.1⟩ (r.le lc)
    · exact fun _ _ _ _ z => z.elim
    · exact fun _ _ _ _ z => z.elim
/-- a def that lets nothing out -/
theorem fn_ok0 {x qual : Str} {st : Stmt} {f : Addr} {fd : FuncData} {N ps : List Str} {k : Nat} (C : Ctr) (F : Fun K x qual st f fd) (S : FnScope N ps (defScope st)) (hn : ps.length = C.n)
    (body : ∀ (cdv : Value) (A : Around) (outer : List Env) (s : Shared) (H : Hp) (E : XK), Room k (A.deeper (PyProof.Rows.envOfC qual (defScope st) s.heap.objs.size f cdv)) →
      PassesOwn (model P w) (cxOf (L2.CX P w) P w K mg base N qual (defScope st) f cdv A outer s H E).A (cxOf (L2.CX P w) P w K mg base N qual (defScope st) f cdv A outer s H E).env (cxOf (L2.CX P w) P w K mg base N qual (defScope st) f cdv A outer s H E).xe →
      ∃ ts ds, PDSs (cxOf (L2.CX P w) P w K mg base N qual (defScope st) f cdv A outer s H E) (fun cls d _ H => E cls d H) xw0 (defBody st) ts ds ∧
        ∀ ss kk xx, ss.length = C.n → C.f ss kk xx → ds { nx := fun _ => kk (.d .non), rt := kk } (startD N ss)) : FnOk P w K mg base (L2.CX P w) (k + 1) f fd ps (C.sp K) := by
  refine F.okX S (fun vs H Q E h => ?_) (fun cdv A outer s H vs Q E hr h => ?_)
  · obtain ⟨c, ss, _, _, r, hl, _⟩ := h
    rw [paired_len r, hl, hn]
  · obtain ⟨c, ss, eK, hi, r, hl, hf⟩ := h
    obtain ⟨ts, ds, pd, hd⟩ := body cdv A outer s H E hr (passes_of rfl)
    refine ⟨ts, pd.ps (takes_of rfl rfl rfl rfl), ?_⟩
    have q := hd ss _ _ hl hf
    let c' := c.sub.wth (Kp c.G H) (fun {H1 H2} k h => h.trans k)
    have lc : Le c c' := ⟨rfl, fun _ z => z, fun _ h => h.1, fun _ z => z, fun _ _ e => nomatch e⟩
    have s0 : StOk c' (L2.start N vs) H (startD N ss) := (start_ok (c := c.sub) hi (paired_sub r (C.no hf))).wth Kp.self
    refine pd.li c' eK WOk.zero _ _ ⟨?_, ?_, ?_, ?_⟩ _ _ _ s0 q
    · exact fun Γ σ H' st z => z .non H' ⟨st.inv.2, st.inv.1⟩ ⟨_, rfl, .non⟩
    · exact fun v s H' i r z => z v H' ⟨i.2, i.1⟩ (r.le lc)
    · exact fun _ _ _ _ z => z.elim
    · exact fun _ _ _ _ z => z.elim
end
end Dv
set_option Elab.async false
set_option linter.all false
set_option maxRecDepth 100000
set_option maxHeartbeats 4000000
/-! Dt: comprehensions as expressions; try; the caught error; pools. -/
namespace Dv
open PySem L2
section
variable {X : Cx} {W : WX} {xw : XW} {K : PySem.W.Frag} {pos : Pos}
structure PDTs (X : Cx) (W : WX) (xw : XW) (es : List Expr) (tt : TT) (dt : DT) : Prop where
  pt : Takes X W → PTs X es tt
  li : LiT X.K W xw tt dt
theorem pdts_nil : PDTs X W xw [] tYes dYes := ⟨fun _ => pts_nil, fun c eK hW Γ k h σ H st Q q => q true H (Go.self st.inv) h⟩
theorem pdts_one {e : Expr} {t : TT} {d : DT} (h : PDT X W xw e t d) : PDTs X W xw [e] t d := ⟨fun tk => pts_one (h.pt tk), h.li⟩
/-- what may hang on the block's place, and does not -/
abbrev Blk (α : Type) := Shared → Hp → Addr → List (Str × Addr) → List Addr → α
abbrev Blk.at0 {α : Type} (X : Cx) (t : Blk α) : α := t X.s_0 X.H_0 0 [] []
/-- [e for x in xs if t] -/
theorem pd_lc {i : Nat} {x : Str} {tp : Pos} {elt iter : Expr} {ifs : List Expr} {scope : Scope} {wi : TI} {tt : Blk TT} {te : Blk TE} {di : DI} {dt : DT} {de : DE} (hc : X.calm = true) (hN : X.N.Nodup) (hi : PDI X W xw (.Name x tp) iter wi di) (ok : BlkOk X.N X.env.scope scope [(x, i)])
    (hg : ∀ (s : Shared) (H : Hp) (C : Addr) (cl : List (Str × Addr)) (fp : List Addr), PG (X.blk s H scope (compEnvC scope cl C X.env) fp) (.Name x tp) (gName i)) (ht : ∀ (s : Shared) (H : Hp) (C : Addr) (cl : List (Str × Addr)) (fp : List Addr), PDTs (X.blk s H scope (compEnvC scope cl C X.env) fp) W0 xw0 ifs (tt s H C cl fp) dt)
    (he : ∀ (s : Shared) (H : Hp) (C : Addr) (cl : List (Str × Addr)) (fp : List Addr), PD (X.blk s H scope (compEnvC scope cl C X.env) fp) W0 xw0 elt (te s H C cl fp) de) (hs : ∀ x, foldedSetIterable iter X.env x = pure x := by intro _; rfl)
    (htt : ∀ s H C cl fp, tt s H C cl fp = Blk.at0 X tt := by intros; rfl) (hte : ∀ s H C cl fp, te s H C cl fp = Blk.at0 X te := by intros; rfl) :
    PD X W xw (.ListComp elt [⟨.Name x tp, iter, ifs, 0⟩] scope pos) (tLc wi (gName i) (Blk.at0 X tt) (Blk.at0 X te) [i]) (dLc i di dt de) :=
  ⟨fun tk => pe_lc (own := [(x, i)]) hc hN (hi.pi tk) ok hg (fun s H C cl fp => htt s H C cl fp ▸ (ht s H C cl fp).pt takes0) (fun s H C cl fp => hte s H C cl fp ▸ (he s H C cl fp).pe takes0) hs, li_lc hi.li (ht X.s_0 X.H_0 0 [] []).li (he X.s_0 X.H_0 0 [] []).li⟩
/-- y = [e for x in xs if t] -/
theorem pds_setLc {j i : Nat} {y x : Str} {py tp : Pos} {elt iter : Expr} {ifs : List Expr} {scope : Scope} {pos spos : Pos} {wi : TI} {tt : Blk TT} {te : Blk TE} {di : DI} {dt : DT} {de : DE} (hc : X.calm = true) (hN : X.N.Nodup)
    (hi : PDI X W xw (.Name x tp) iter wi di) (ok : BlkOk X.N X.env.scope scope [(x, i)])
    (hg : ∀ (s : Shared) (H : Hp) (C : Addr) (cl : List (Str × Addr)) (fp : List Addr), PG (X.blk s H scope (compEnvC scope cl C X.env) fp) (.Name x tp) (gName i)) (ht : ∀ (s : Shared) (H : Hp) (C : Addr) (cl : List (Str × Addr)) (fp : List Addr), PDTs (X.blk s H scope (compEnvC scope cl C X.env) fp) W0 xw0 ifs (tt s H C cl fp) dt)
    (he : ∀ (s : Shared) (H : Hp) (C : Addr) (cl : List (Str × Addr)) (fp : List Addr), PD (X.blk s H scope (compEnvC scope cl C X.env) fp) W0 xw0 elt (te s H C cl fp) de) (hy : X.N[j]? = some y := by rfl) (hyl : X.env.scope.names.lookup y = some .local := by rfl)
    (hsw : swapsWith (.ListComp elt [⟨.Name x tp, iter, ifs, 0⟩] scope pos) (some (.Name y py)) spos.line X.env = pure true := by exact sw_true rfl rfl rfl (by decide +kernel)) (hs : ∀ x, foldedSetIterable iter X.env x = pure x := by intro _; rfl)
    (htt : ∀ s H C cl fp, tt s H C cl fp = Blk.at0 X tt := by intros; rfl) (hte : ∀ s H C cl fp, te s H C cl fp = Blk.at0 X te := by intros; rfl) :
    PDS X W xw (.Assign [.Name y py] (.ListComp elt [⟨.Name x tp, iter, ifs, 0⟩] scope pos) spos) (tAsg (tLc wi (gName i) (Blk.at0 X tt) (Blk.at0 X te) [i]) (gName j)) (dAsg j (dLc i di dt de)) :=
  ⟨fun tk => ps_setLc (own := [(x, i)]) hc hN hy hyl hsw (hi.pi tk) ok hg (fun s H C cl fp => htt s H C cl fp ▸ (ht s H C cl fp).pt takes0) (fun s H C cl fp => hte s H C cl fp ▸ (he s H C cl fp).pe takes0) hs, fun c eK hW E D o Γ σ H s hd =>
    li_lc hi.li (ht X.s_0 X.H_0 0 [] []).li (he X.s_0 X.H_0 0 [] []).li c eK hW Γ _ hd σ H s _ fun v s' H1 g r q => o.nx _ _ H1 ((s.go g).set r) q⟩
/-! ### try .. except C as e -/
def dTry (K : PySem.W.Frag) (c0 : Value) (i : Nat) (xw : XW) (db : XW → DS) (dsu : Addr → Value → Option Addr → DS) : DS := fun D Γ =>
  db (fun A p Γ' => ∃ b, PySem.W.exmOne K (.ref A) c0 = some b ∧ cond b (∀ a d, dsu a (.ref A) d { nx := fun Γ => D.nx (Γ.set i .any), rt := D.rt, bk := fun Γ => D.bk (Γ.set i .any), ct := fun Γ => D.ct (Γ.set i .any) } (Γ'.set i (.ex a (.ref A) d p))) (xw A p Γ')) D Γ
/-- an exception's object of which nothing is asked -/
abbrev oe0 (cls : Value) (d : Option Addr) : Obj := { cls := cls, dict := d, data := .fields #[] }
theorem pds_try {x n : Str} {c0 : Value} {i : Nat} {body suite : List Stmt} {b₀ : Stmt} {np pos' : Pos} {tb : WX → List (Addr × Obj) → (Value → Shared → Prop) → TS} {ts : Addr → Obj → Value → Option Addr → List (Addr × Obj) → TS} {db : XW → DS} {dsu : Addr → Value → Option Addr → DS} (hN : X.N.Nodup) (hc : Names X x c0)
    (hb : ∀ (W' : WX) (xw' : XW) (pn : List (Addr × Obj)) (xe : Value → Shared → Prop), PDSs (X.tr pn xe) W' xw' body (tb W' pn xe) (db xw'))
    (hsu : ∀ (a : Addr) (oe : Obj) (cls : Value) (d : Option Addr) (pn : List (Addr × Obj)), Zc cls d oe → (∃ vs, oe.data = .fields vs) → PDSs (X.suite a ((a, oe) :: pn)) W0 xw0 (b₀ :: suite) (ts a oe cls d pn) (dsu a cls d))
    (hs : X.stack = X.env :: X.outer := by rfl) (hf : X.env.frame = some X.env.locals := by rfl) (hi : X.N[i]? = some n := by rfl) (hln : X.env.kindOf n = some .local := by rfl)
    (htb : ∀ W' pn xe, tb W' pn xe = tb W' X.pn X.xe := by intros; rfl) (hts : ∀ a oe cls d pn, ts a oe cls d pn = ts a (oe0 cls d) cls d [] := by intros; rfl) :
    PDS X W xw (.Try body [.ExceptHandler (some (.Name x np)) (some n) (b₀ :: suite) pos'] [] [] pos) (fun D σ H => tb (wAs X.K c0 i (fun a cls d => ts a (oe0 cls d) cls d []) W D) X.pn X.xe D σ H) (dTry X.K c0 i xw db dsu) :=
  ⟨fun tk => ps_try_as (tb := fun W' => tb W' X.pn X.xe) (ts := fun a cls d => ts a (oe0 cls d) cls d []) hs hf hN hi hln hc tk (fun W' pn xe tk' _ => htb W' pn xe ▸ (hb W' xw0 pn xe).ps tk') (fun a oe cls d pn z f => hts a oe cls d pn ▸ (hsu a oe cls d pn z f).ps takes0), fun c eK hW E D o Γ σ H s hd => by
    refine (hb (wAs X.K c0 i (fun a cls d => ts a (oe0 cls d) cls d []) W E) _ X.pn X.xe).li c eK ?_ E D o Γ σ H s hd
    intro σ1 H1 Γ1 A d p s1 x1 h1
    obtain ⟨b, eb, h1⟩ := h1
    refine ⟨b, eb, fun e a na => ?_, fun e => ?_⟩
    · subst e
      have L := (hsu a (oe0 (.ref A) d) (.ref A) d [] ⟨rfl, rfl⟩ ⟨_, rfl⟩).li
      refine L c eK WOk.zero { nx := fun σ' H' => E.nx (σ'.set i none) H', rt := E.rt, bk := fun σ' H' => E.bk (σ'.set i none) H', ct := fun σ' H' => E.ct (σ'.set i none) H' } { nx := fun Γ => D.nx (Γ.set i .any), rt := D.rt, bk := fun Γ => D.bk (Γ.set i .any), ct := fun Γ => D.ct (Γ.set i .any) } ⟨?_, o.rt, ?_, ?_⟩ _ _ _ (s1.set (s := .ex a (.ref A) d p) ⟨rfl, x1⟩) (h1 a d)
      · exact fun Γ σ H s q => o.nx _ _ H (s.set (s := .any) trivial) q
      · exact fun Γ σ H s q => o.bk _ _ H (s.set (s := .any) trivial) q
      · exact fun Γ σ H s q => o.ct _ _ H (s.set (s := .any) trivial) q
    · subst e
      exact hW σ1 H1 Γ1 A d p s1 x1 h1⟩
/-! ### the caught error -/
def dVal (C a : Addr) (cls : Value) (d : Option Addr) (e : DE) : DE := fun Γ k => e Γ fun s => match s with
  | .ex a' _ d' (some [(n, x)]) => a' = a ∧ cls = .ref C ∧ d' = d ∧ n = ("value" : Str) ∧ k (.d x)
  | _ => False
theorem pd_val {nm : Str} {C D fI a : Addr} {oe : Obj} {cls : Value} {d : Option Addr} {pn : List (Addr × Obj)} {e : Expr} {te : TE} {de : DE} (U : PySem.RoomX.RoomCls X.K X.mg nm C D fI) (hz : Zc cls d oe) (hf : ∃ vs, oe.data = .fields vs) (h : PD (X.suite a ((a, oe) :: pn)) W xw e te de)
    (hb : attributeBase e "value" X.env (eval e X.env) = eval e X.env := by rfl) : PD (X.suite a ((a, oe) :: pn)) W xw (.Attribute e "value" pos) (tValRoom C a cls d te) (dVal C a cls d de) :=
  ⟨fun tk => pe_valRoom U hz hf (h.pe tk) hb, fun c eK hW Γ k hd σ H st Q q => h.li c eK hW Γ _ hd σ H st _ fun v s H1 g r h1 => by
    try dsimp only at h1
    split at h1
    · obtain ⟨ea, e1, ed', en, hk⟩ := h1
      subst en
      have ev := Option.some.inj r.1
      rw [ea] at ev
      obtain ⟨_, xo⟩ := r
      rw [ed'] at xo
      cases z : d with
      | none =>
        rw [z] at xo
        exact xo.elim
      | some d1 =>
        rw [z] at xo
        obtain ⟨vs, nF, ed, rf⟩ := xo
        cases rf with
        | cons rv rn =>
          cases rn
          exact ⟨ev, e1, d1, _, rfl, ed, q _ (.d _) H1 g ⟨_, rfl, rv⟩ hk⟩
    · exact h1.elim⟩
/-- isinstance(e, T), e the caught error, T a built-in class -/
def dIsR (K : PySem.W.Frag) (C a : Addr) (cls : Value) (d : Option Addr) (T : String) (e : DE) : DE := fun Γ k => e Γ fun s => match s with
  | .ex a' _ d' (some _) => a' = a ∧ cls = .ref C ∧ d' = d ∧ ∃ b, PySem.W.kitOne K (.ref C) (.type T) = some b ∧ k (.d (.bl b))
  | _ => False
end
end Dv
namespace L2
open PySem
/-- as rIsR, the class told by the reading -/
def rIsQ (K : PySem.W.Frag) (C a : Addr) (cls : Value) (d : Option Addr) : List V → Hp → VK → Prop := fun xs H Q => cls = .ref C ∧ rIsR K C a d xs H Q
theorem call_isQ {X : Cx} {nm : Str} {C D fI a : Addr} {oe : Obj} {cls : Value} {d : Option Addr} {pn : List (Addr × Obj)} (U : PySem.RoomX.RoomCls X.K X.mg nm C D fI) (Y : RoomIs X.K C) (hz : Zc cls d oe) (hf : ∃ vs, oe.data = .fields vs) : CallR (X.suite a ((a, oe) :: pn)) (.builtin "isinstance") (rIsQ X.K C a cls d) := by
  intro pins s σ H xs us Q I r h
  obtain ⟨e, h⟩ := h
  subst e
  exact call_isR U Y hz hf pins s σ H xs us Q I r h
end L2
namespace Dv
open PySem L2
section
variable {X : Cx} {W : WX} {xw : XW} {K : PySem.W.Frag} {pos : Pos}
theorem pd_isR {nm tn : Str} {T : String} {C D fI a : Addr} {oe : Obj} {cls : Value} {d : Option Addr} {pn : List (Addr × Obj)} {e : Expr} {te : TE} {de : DE} {p p2 : Pos} (U : PySem.RoomX.RoomCls X.K X.mg nm C D fI) (Y : RoomIs X.K C) (hz : Zc cls d oe) (hf : ∃ vs, oe.data = .fields vs) (hm : X.mg "isinstance" = none) (hmT : X.mg tn = none) (hvT : bootBuiltins tn = some (.type T)) (h : PD (X.suite a ((a, oe) :: pn)) W xw e te de)
    (hg : Gl X "isinstance" := by rfl) (hgT : Gl X tn := by rfl) (hnT : tn ≠ "__name__" := by decide) (hdT : (tn == ("__debug__" : Str)) = false := by decide)
    (hs1 : starEach [e, .Name tn p2] X.env = (false, eval e X.env) :: starEach [.Name tn p2] X.env := by rfl) (hpl : (backTo pos (starEach [.Name tn p2] X.env)).any (·.1) = false := by rfl) :
    PD (X.suite a ((a, oe) :: pn)) W xw (.Call (.Name "isinstance" p) [e, .Name tn p2] [] pos) (tCB (rIsQ X.K C a cls d) (tCons te (tCons (tC (.ty T)) tNil))) (dIsR X.K C a cls d T de) :=
  ⟨fun tk => pe_callB (X := X.suite a ((a, oe) :: pn)) (call_isQ U Y hz hf) hg hm (by decide +kernel) (pa_cons (h.pe tk) (pa_cons (pe_bltn (X := X.suite a ((a, oe) :: pn)) hgT hmT hvT rfl hnT hdT) pa_nil) hs1) (by decide) (by decide) hs1 hpl, fun c eK hW Γ k hd σ H st Q q => h.li c eK hW Γ _ hd σ H st _ fun v s H1 g r h1 => by
    try dsimp only at h1
    split at h1
    · obtain ⟨ea, e1, ed', b, hb, hk⟩ := h1
      have ev := Option.some.inj r.1
      rw [ea] at ev
      subst ev
      obtain ⟨_, xo⟩ := r
      rw [ed'] at xo
      cases z : d with
      | none =>
        rw [z] at xo
        exact xo.elim
      | some d1 =>
        rw [z] at xo
        obtain ⟨vs, nF, ed, rf⟩ := xo
        exact ⟨e1, _, _, b, d1, vs, rfl, fun u ru => ru, hb, rfl, ed, q _ (.d (.bl b)) H1 g ⟨_, rfl, .bl b⟩ hk⟩
    · exact h1.elim⟩
end
end Dv
set_option Elab.async false
set_option linter.all false
set_option maxRecDepth 100000
set_option maxHeartbeats 4000000
/-! Dq: pools: made at the beginning of a law's turn, drawn from by take; the law's end. -/
namespace Dv
open PySem L2
/-! ### a pool more -/
def Cfg.ownP (c : Cfg) (p : Addr) (hp : ¬ c.F p) : Cfg where
  K := c.K
  F := fun b => c.F b ∨ b = p
  W := fun b => c.W b ∨ b = p
  G := fun b => c.G b ∨ b = p
  ow := c.ow
  I := fun H => c.I (rem H p) ∧ ∃ l, H p = some (.lst l) ∧ PoolL l
  pl := fun b => c.pl b ∨ b = p
  mono := fun {H H'} k h => ⟨c.mono (fun b u e => by
    obtain ⟨n, e⟩ := rem_sub e
    rw [rem_ne n]
    exact k b u e) h.1, let ⟨l, e, r⟩ := h.2; ⟨l, k p _ e, r⟩⟩
  live := fun {H b} h z => by
    rcases z with z | z
    · intro y
      refine c.live h.1 z ?_
      by_cases e : b = p
      · rw [e, rem_same]
      · rw [rem_ne e]
        exact y
    · obtain ⟨l, e, _⟩ := h.2
      rw [z, e]
      exact fun y => nomatch y
  WF := fun z => z.elim (fun z => .inl (c.WF z)) .inr
  GW := fun z => z.elim (fun z => .inl (c.GW z)) .inr
  plG := fun z => z.elim (fun z => .inl (c.plG z)) .inr
  owW := fun w => ⟨.inl (c.owW w).1, fun z => z.elim (c.owW w).2 fun e => hp (by rw [← e]; exact c.WF (c.owW w).1)⟩
  inj := c.inj
  owPut := fun {H k b o} h w => by
    have n : b ≠ p := fun e => hp (by rw [← e]; exact c.WF (c.owW w).1)
    refine ⟨?_, ?_⟩
    · rw [rem_upd_ne n]
      exact c.owPut h.1 w
    · rw [upd_ne (Ne.symm n)]
      exact h.2
  plAt := fun {H q} h z => by
    rcases z with z | z
    · obtain ⟨l, e, r⟩ := c.plAt h.1 z
      exact ⟨l, (rem_sub e).2, r⟩
    · rw [z]
      exact h.2
  plPut := fun {H q l} h z r => by
    rcases z with z | z
    · have n : q ≠ p := fun e => hp (by rw [← e]; exact c.plF z)
      refine ⟨?_, ?_⟩
      · rw [rem_upd_ne n]
        exact c.plPut h.1 z r
      · rw [upd_ne (Ne.symm n)]
        exact h.2
    · subst z
      refine ⟨?_, l, upd_same, r⟩
      rw [rem_upd]
      exact h.1
theorem Rp.ownP {c : Cfg} {H : Hp} {v : V} {d : D} {p : Addr} {hp : ¬ c.F p} (n : H p = none) (h : Rp c H v d) : Rp (c.ownP p hp) H v d := by
  have no : ∀ {b : Addr} {u : HO}, Rd H b u → b ≠ p := fun {b u} z e => by
    subst e
    rcases z with z | ⟨_, z⟩ <;> (rw [n] at z; cases z)
  refine Rp.rec (motive_1 := fun v d _ => Rp (c.ownP p hp) H v d) (motive_2 := fun vs ds _ => RpAll (c.ownP p hp) H vs ds) (motive_3 := fun vs ds _ => RpFs (c.ownP p hp) H vs ds) (motive_4 := fun vs ds _ => RpKv (c.ownP p hp) H vs ds)
    .non .bl .int .str ?_ ?_ ?_ ?_ ?_ .nil ?_ .nil ?_ .nil ?_ h
  · intro b xs ds m s _ r
    exact .lst (fun z => z.elim m fun e => no s e) s r
  · intro b xs ds s _ r
    exact .scr (s.elim (fun z => .inl ⟨fun y => y.elim z.1 (no z.2), z.2⟩) .inr) r
  · intro b xs ds s _ r
    exact .tup (s.elim (fun z => .inl ⟨fun y => y.elim z.1 (no z.2), z.2⟩) .inr) r
  · intro b C dx fs ds m s _ r
    exact .obj (fun z => z.elim m fun e => no (.inl s) e) s r
  · intro b kvs ds m s _ r
    exact .dic (fun z => z.elim m fun e => no s e) s r
  · intro v d vs ds _ _ a b
    exact .cons a b
  · intro n v d vs ds _ _ a b
    exact .cons a b
  · intro n v d vs ds _ _ a b
    exact .cons a b
theorem RpFs.ownP {c : Cfg} {H : Hp} {a : Addr} {ha : ¬ c.F a} (n : H a = none) : ∀ {vs : List (Str × V)} {ds : List (Str × D)}, RpFs c H vs ds → RpFs (c.ownP a ha) H vs ds
  | _, _, .nil => .nil
  | _, _, .cons r t => .cons (r.ownP n) (RpFs.ownP n t)
theorem RpAll.ownP {c : Cfg} {H : Hp} {a : Addr} {ha : ¬ c.F a} (n : H a = none) : ∀ {vs : List V} {ds : List D}, RpAll c H vs ds → RpAll (c.ownP a ha) H vs ds
  | _, _, .nil => .nil
  | _, _, .cons r t => .cons (r.ownP n) (RpAll.ownP n t)
theorem RpKv.ownP {c : Cfg} {H : Hp} {a : Addr} {ha : ¬ c.F a} (n : H a = none) : ∀ {vs : List (Key × V)} {ds : List (Key × D)}, RpKv c H vs ds → RpKv (c.ownP a ha) H vs ds
  | _, _, .nil => .nil
  | _, _, .cons r t => .cons (r.ownP n) (RpKv.ownP n t)
theorem OwRp.ownP {c : Cfg} {H : Hp} {a b : Addr} {ha : ¬ c.F a} {d : D} (n : H a = none) (h : OwRp c H b d) : OwRp (c.ownP a ha) H b d := by
  cases d <;> try exact h
  · obtain ⟨xs, e, r⟩ := h
    exact ⟨xs, e, r.ownP n⟩
  · obtain ⟨dx, vs, e, r⟩ := h
    exact ⟨dx, vs, e, r.ownP n⟩
  · obtain ⟨vs, e, r⟩ := h
    exact ⟨vs, e, r.ownP n⟩
theorem SlOk.ownP {c : Cfg} {H : Hp} {a : Addr} {ha : ¬ c.F a} {u : Option V} {s : Sl} (n : H a = none) (h : SlOk c H u s) : SlOk (c.ownP a ha) H u s := by
  cases s with
  | any => trivial
  | v x => exact h
  | d x =>
    obtain ⟨v, e, r⟩ := h
    exact ⟨v, e, r.ownP n⟩
  | pool =>
    obtain ⟨p, e, r⟩ := h
    exact ⟨p, e, .inl r⟩
  | ex b cls dd p =>
    refine ⟨h.1, ?_⟩
    have x := h.2
    cases dd <;> cases p <;> first | exact x | skip
    obtain ⟨vs, m, e, r⟩ := x
    refine ⟨vs, fun z => z.elim m fun y => ?_, e, r.ownP n⟩
    rw [y, n] at e
    cases e
  | own k x =>
    obtain ⟨b, e, w, r⟩ := h
    exact ⟨b, e, w, r.ownP n⟩
/-- without pools -/
def unp1 : Sl → Sl
  | .pool => .any
  | s => s
def unp (Γ : Gm) : Gm := Γ.map unp1
theorem SlOk.unp {c : Cfg} {H : Hp} {a : Addr} {ha : ¬ c.F a} {u : Option V} {s : Sl} (h : SlOk (c.ownP a ha) H u s) : SlOk c H u (unp1 s) := by
  cases s with
  | any => trivial
  | v x => exact h
  | d x =>
    obtain ⟨v, e, r⟩ := h
    exact ⟨v, e, Rp.to (c := c.ownP a ha) (c' := c) rfl (fun _ z => Or.inl z) Kp.self r⟩
  | pool => trivial
  | ex b cls dd p => exact ⟨h.1, XOk.to (c := c.ownP a ha) (c' := c) rfl (fun _ z => Or.inl z) Kp.self h.2⟩
  | own k x =>
    obtain ⟨b, e, w, r⟩ := h
    exact ⟨b, e, w, OwRp.to (c := c.ownP a ha) (c' := c) rfl (fun _ z => Or.inl z) Kp.self (fun _ e => e) r⟩
theorem ownP_I {c : Cfg} {H : Hp} {a : Addr} {ha : ¬ c.F a} (h : (c.ownP a ha).I H) : c.I H := c.mono (fun _ _ e => (rem_sub e).2) h.1
theorem StOk.unp {c : Cfg} {H : Hp} {a : Addr} {ha : ¬ c.F a} {σ : St} {Γ : Gm} (h : StOk (c.ownP a ha) σ H Γ) : StOk c σ H (unp Γ) := by
  refine ⟨ownP_I h.inv, by rw [Dv.unp, List.length_map]; exact h.len, fun i o s e1 e2 => ?_⟩
  rw [Dv.unp, List.getElem?_map, Option.map_eq_some_iff] at e2
  obtain ⟨s0, e3, rfl⟩ := e2
  exact (h.at_ i o s0 e1 e3).unp
def intD (ns : List Int) : List D := ns.map D.int
/-- the promise of the maker of pools: a new list -/
def spPool (K : PySem.W.Frag) : Sp := fun vs H Q _ => ∃ (c : Cfg) (a : Addr) (ns : List Int) (j : Int), c.K = K ∧ c.I H ∧ vs = [.ref a, .int j] ∧ SqL K H a (ns.map V.int) ∧ ns.length ≤ 63 ∧ 0 ≤ j ∧ j < 100 ∧
  ∀ (p : Addr) (x y : Int), H p = none → 0 ≤ y → y < 4294967296 → Q (.ref p) (upd H p (.lst [.int x, .int y]))
def dPool (i : Nat) (da : DA) (dr : DS) : DS := fun D Γ => da Γ fun ss => match ss with
  | [.d (.scr xs), .d (.int j)] => (∃ ns : List Int, xs = intD ns ∧ ns.length ≤ 63) ∧ 0 ≤ j ∧ j < 100 ∧ dr { nx := fun Γ => D.nx (unp Γ), rt := fun s => D.rt (unp1 s), bk := fun Γ => D.bk (unp Γ), ct := fun Γ => D.ct (unp Γ) } (Γ.set i .pool)
  | _ => False
theorem rp_ints {c : Cfg} {H : Hp} : ∀ {vs : List V} {ns : List Int}, RpAll c H vs (intD ns) → vs = ns.map V.int
  | [], [], _ => rfl
  | _ :: _, [], h => by cases h
  | [], _ :: _, h => by cases h
  | v :: vs, n :: ns, h => by
    cases h with
    | cons a b => rw [rp_int a, rp_ints b]; rfl
theorem ints_rp {c : Cfg} {H : Hp} : ∀ (ns : List Int), RpAll c H (ns.map V.int) (intD ns)
  | [] => .nil
  | n :: ns => .cons (.int n) (ints_rp ns)
section
variable {X : Cx} {W : WX} {K : PySem.W.Frag}
theorem pdss_pool {f : Addr} {fd : FuncData} {ps : List Str} {k i : Nat} {x fx : Str} {p px pos spos : Pos} {e1 e2 : Expr} {ta : TA} {da : DA} {rest : List Stmt} {tr : TS} {dr : DS} (F : FnOk X.prog X.w X.K X.mg X.base (L2.CX X.prog X.w) k f fd ps (spPool X.K)) (hr : Room k X.A) (hm : X.mg fx = some (.ref f)) (hk : PySem.W.keepIn X.K (.ref f) = true) (hb : Binds X.K fd ps []) (hN : X.N.Nodup)
    (a : PDA X W xw0 [e1, e2] ta da) (r : PDSs X W xw0 rest tr dr) (hg : Gl X fx := by rfl) (hi : X.N[i]? = some x := by rfl) (hx : Loc X.env.scope x := by first | exact Or.inl rfl | exact Or.inr rfl)
    (hdb : (fx == ("__debug__" : Str)) = false := by decide) (he : starEach (e1 :: [e2]) X.env = (false, eval e1 X.env) :: starEach [e2] X.env := by rfl) (hpl : (backTo pos (starEach [e2] X.env)).any (·.1) = false := by rfl)
    (hs : swapsWith (.Call (.Name fx p) [e1, e2] [] pos) (some (.Name x px)) spos.line X.env = pure false := by rfl) (hf : X.fn x = true ∨ X.env.scope.names.lookup x = some .local := by first | exact .inl rfl | exact .inr rfl | assumption) :
    PDSs X W xw0 (.Assign [.Name x px] (.Call (.Name fx p) [e1, e2] [] pos) spos :: rest) (tSeq (tAsg (tCall (spPool X.K) [] E0 ta) (gName i)) tr) (dPool i da dr) :=
  ⟨fun tk => pss_cons (ps_set hN hi hx (pe_call F hr hg hm hk hb .nil passL (a.pa tk) hdb he hpl) hs hf) (r.ps tk), fun c eK hW E D o Γ σ H s hd => a.li c eK hW Γ _ hd σ H s _ fun vs ss H1 g rr h => by
    try dsimp only at h
    split at h
    · obtain ⟨⟨ns, e, hl⟩, h0, h1, hd⟩ := h
      subst e
      obtain ⟨v, w, rfl, ⟨v', ev, rv⟩, rw⟩ := paired2 rr
      cases ev
      have e2 := sl_int rw
      subst e2
      cases rv with
      | scr il ra =>
        have ee := rp_ints ra
        subst ee
        refine ⟨c, _, ns, _, eK, g.inv, rfl, by rw [← eK]; exact il.sq, hl, h0, h1, fun q x y nq y0 y1 => ?_⟩
        have nP : ¬ c.F q := c.fresh g.inv nq
        have sg := s.go g
        have s1 : StOk (c.ownP q nP) σ (upd H1 q (.lst [.int x, .int y])) Γ := by
          refine ⟨⟨by rw [rem_upd, rem_new nq]; exact g.inv, _, upd_same, ⟨x, y, rfl, y0, y1⟩⟩, s.len, fun i o' s' q1 q2 => ?_⟩
          exact ((sg.at_ i o' s' q1 q2).ownP (ha := nP) nq).go (Kp.new nq)
        refine r.li (c.ownP q nP) eK WOk.zero E { nx := fun Γ => D.nx (unp Γ), rt := fun s => D.rt (unp1 s), bk := fun Γ => D.bk (unp Γ), ct := fun Γ => D.ct (unp Γ) } ⟨?_, ?_, ?_, ?_⟩ _ _ _ (s1.set (s := .pool) ⟨q, rfl, .inr rfl⟩) hd
        · exact fun Γ σ H s z => o.nx _ σ H s.unp z
        · exact fun v s H i r z => o.rt v _ H (ownP_I i) r.unp z
        · exact fun Γ σ H s z => o.bk _ σ H s.unp z
        · exact fun Γ σ H s z => o.ct _ σ H s.unp z
    · exact h.elim⟩
end
/-! ### what take tells -/
def cTake : Ctr where
  n := 2
  f := fun ss k _ => match ss with
    | [.pool, .d (.int m)] => 0 < m ∧ m.natAbs.log2 < 9000 ∧ ∀ r : Int, 0 ≤ r → r < m → k (.d (.int r))
    | _ => False
  mono := fun {ss k k' x x'} hk _ h => by
    split at h
    · exact ⟨h.1, h.2.1, fun r h0 h1 => hk _ (h.2.2 r h0 h1)⟩
    · exact h.elim
/-! ### the law's end -/
def cLaw : Ctr where
  n := 1
  f := fun ss k _ => match ss with
    | [.d (.scr xs)] => (∃ ns : List Int, xs = intD ns ∧ ns.length ≤ 63) ∧ k (.d (.bl true))
    | _ => False
  mono := fun {ss k k' x x'} hk _ h => by
    split at h
    · exact ⟨h.1, hk _ h.2⟩
    · exact h.elim
def cBase (K : PySem.W.Frag) : Cfg where
  K := K
  F := fun _ => False
  W := fun _ => False
  G := fun _ => False
  I := fun _ => True
  pl := fun _ => False
  ow := fun _ => none
  mono := fun _ h => h
  live := fun _ z => z.elim
  WF := fun z => z
  GW := fun z => z
  plG := fun z => z
  owW := fun z => nomatch z
  inj := fun z => nomatch z
  plAt := fun _ z => z.elim
  plPut := fun _ z => z.elim
  owPut := fun _ z => nomatch z
theorem law_sp {K : PySem.W.Frag} {H : Hp} {a : Addr} {ns : List Int} (hl : ns.length ≤ 63) (h : SqL K H a (ns.map V.int)) : cLaw.sp K [.ref a] H (fun v _ => v = .bl true) fun _ _ _ => False := by
  refine ⟨cBase K, [.d (.scr (intD ns))], rfl, trivial, .cons ⟨_, rfl, .scr ?_ (ints_rp ns)⟩ .nil, rfl, ⟨ns, rfl, hl⟩, fun v H' _ r => sl_bl r⟩
  rcases h with h | h
  · exact .inl ⟨fun z => z, h⟩
  · exact .inr h
theorem law_cx {P : Program} {w : World} {l : List Env} {H : Hp} {s : Shared} {e : Value} {s' : Shared} (h : L2.CX P w l H s (fun _ _ _ => False) e s') : False := by
  obtain ⟨_, _, _, _, _, _, _, _, _, _, _, _, z⟩ := h
  exact z
end Dv
namespace Dv
open PySem L2
/-! ### what the top has written -/
structure FnAt (K : PySem.W.Frag) (mg : Str → Option Value) (x qual : Str) (st : Stmt) (ps : List Str) (f : Addr) (fd : FuncData) : Prop where
  F : Fun K x qual st f fd
  m : mg x = some (.ref f)
  b : Binds K fd ps []
theorem kit_sub {K : PySem.W.Frag} {C : Addr} {T : String} {b : Bool} (h : PySem.W.subIn K (.ref C) (.type T) = some b) (hT : PySem.W.kitMeta T = true) : PySem.W.kitOne K (.ref C) (.type T) = some b := by
  show (if (Value.ref C == Value.type T) = true then some true else if PySem.W.kitMeta T = true then PySem.W.subIn K (.ref C) (.type T) else none) = some b
  rw [if_neg (show ¬ ((Value.ref C == Value.type T) = true) from Bool.false_ne_true), if_pos hT]
  exact h
theorem kit_ve {K : PySem.W.Frag} {mg : Str → Option Value} {nm : Str} {C D fI : Addr} (U : PySem.RoomX.RoomCls K mg nm C D fI) : PySem.W.kitOne K (.ref C) (.type "ValueError") = some true := kit_sub U.veC (by decide +kernel)
theorem exm_self {K : PySem.W.Frag} {mg : Str → Option Value} {nm : Str} {C D fI : Addr} (U : PySem.RoomX.RoomCls K mg nm C D fI) : PySem.W.exmOne K (.ref C) (.ref C) = some true := PySem.W.exm_ref U.exC U.hdC U.tyC U.scC
theorem exm_other {K : PySem.W.Frag} {mg : Str → Option Value} {nm : Str} {A C D fI : Addr} {b : Bool} (U : PySem.RoomX.RoomCls K mg nm C D fI) (h : PySem.W.subIn K (.ref A) (.ref C) = some b) : PySem.W.exmOne K (.ref A) (.ref C) = some b := PySem.W.exm_ref U.exC U.hdC U.tyC h
/-! ### helps -/
theorem len_ok {n : Nat} (h : Nat.ble n 100000 = true) : n ≤ 100000 := Nat.le_of_ble_eq_true h
theorem forD_inv {g : DG} {b : DS} {E : DEnds} (Inv : Gm → Prop) (hd : ∀ Γ, Inv Γ → E.nx Γ) : ∀ (xs : List D), (∀ x ∈ xs, ∀ Γ, Inv Γ → ∀ N : Gm → Prop, (∀ Γ', Inv Γ' → N Γ') → g x Γ fun Γ' => b { E with nx := N, ct := N, bk := E.nx } Γ') → ∀ Γ, Inv Γ → forD g b E xs Γ
  | [], _, Γ, h => hd Γ h
  | x :: r, hs, Γ, h => hs x List.mem_cons_self Γ h _ fun Γ' h' => forD_inv Inv hd r (fun y hy => hs y (List.mem_cons_of_mem _ hy)) Γ' h'
theorem deq_self {d : D} (h : okD d = true) : deq d d = true := SeqAt.eqv_refl (toPy d) (SeqAt.canLay_of_shaped h)
theorem deq_int (i j : Int) : deq (.int i) (.int j) = decide (i = j) := by
  show PyData.eqv (.int i) (.int j) = _
  rw [PyData.eqv]
  by_cases h : i = j <;> simp [h]
theorem intsFrom_mem {x : D} : ∀ {lo : Int} {n : Nat}, x ∈ intsFrom lo n → ∃ i : Int, x = .int i ∧ lo ≤ i ∧ i < lo + n
  | _, 0, h => by cases h
  | lo, n + 1, h => by
    rw [intsFrom] at h
    rcases List.mem_cons.mp h with rfl | h
    · exact ⟨lo, rfl, by omega, by omega⟩
    · obtain ⟨i, e, h1, h2⟩ := intsFrom_mem h
      exact ⟨i, e, by omega, by omega⟩
theorem mulW_of {i j : Int} {a b : Nat} (hi : i.natAbs < 2 ^ a) (hj : j.natAbs < 2 ^ b) (ha : 0 < a) (hb : 0 < b) (h : a + b ≤ 1000000) : CMulW i j := wide_mul hi hj ha hb h
end Dv
set_option Elab.async false
set_option linter.all false
set_option maxRecDepth 100000
set_option maxHeartbeats 4000000
/-! ObjX: own instances: made, called, combined, where what is raised is wished for at the caller's slots. -/
namespace L2
open PySem PySem.Spec PyProof.Rows
section
variable {X : Cx} {CX : CXT} {k : Nat} {f g C p0 : Addr} {fd : FuncData} {ps : List Str} {sp : Sp} {dvs : List V} {ds : List Value} {E : St → XK} {x m : Str} {p pos apos : Pos} {e o fe : Expr} {es : List Expr} {t : TA} {ta tf : TE}
variable {pins : List (Addr × Obj)} {σ : St} {H : Hp} {s : Shared} {Q : VK} {us : List Value} {vs : List V}
theorem run_rawS (F : FnR X.prog X.w X.K X.mg X.base CX k g sp) (hr : Room k X.A) (hx : PassesAt CX X σ (E σ)) (I : Inv X pins σ H s) (r : Vals vs us) (h : sp vs H Q (E σ)) :
    codeAny (model X.prog X.w) X.A (.call (.ref g) ⟨us, []⟩) (fun r s' => match r with | .ok (.ret v) => EP X pins σ Q v s' | .ok _ => False | .error e => X.xe e s') s := by
  refine codeAny_mono (F X.A X.stack s H us vs Q (E σ) hr I.env0 r h) fun r s' hq => ?_
  cases r with
  | error e => exact hx pins H s e s' I hq
  | ok fl =>
    cases fl with
    | ret u => exact I.after hq
    | next => exact False.elim hq
    | brk => exact False.elim hq
    | cont => exact False.elim hq
/-! ### C(..) -/
def tMakeS (C : Addr) (sp : Sp) (dvs : List V) (E : St → XK) (t : TA) : TE := fun σ H Q => t σ H fun vs H1 => ∀ x dx, H1 x = none → H1 dx = none → dx ≠ x →
  sp (.ref x :: (vs ++ dvs)) (upd (upd H1 dx (.own x)) x (.ins C dx [])) (fun v H2 => v = .non ∧ Q (.ref x) H2) (E σ)
theorem run_makeS (M : Mk X.K C f) (F : FnOk X.prog X.w X.K X.mg X.base CX k f fd ps sp) (hr : Room (k + 1) X.A) (hb : Binds X.K fd ps ds) (hd : Vals dvs ds) (hx : PassesAt CX X σ (E σ)) (I : Inv X pins σ H s) (r : Vals vs us)
    (h : ∀ x dx, H x = none → H dx = none → dx ≠ x → sp (.ref x :: (vs ++ dvs)) (upd (upd H dx (.own x)) x (.ins C dx [])) (fun v H2 => v = .non ∧ Q (.ref x) H2) (E σ)) :
    wpAny (model X.prog X.w) X.A (call (.ref C) us) (EP X pins σ Q) X.xe s := by
  have hq := h (s.heap.objs.size + 1) s.heap.objs.size (I.hok.fresh (Nat.le_succ _)) (I.hok.fresh (Nat.le_refl _)) (Nat.ne_of_lt (Nat.lt_succ_self _))
  have I2 := Inv.made (C := C) I
  have r2 : Vals (V.ref (s.heap.objs.size + 1) :: (vs ++ dvs)) (Value.ref (s.heap.objs.size + 1) :: (us ++ ds)) := .cons rfl (r.append hd)
  have hl : (Value.ref (s.heap.objs.size + 1) :: us ++ ds).length = ps.length := by
    have e := r2.length
    rw [F.len _ _ _ _ hq] at e
    exact e.symm
  refine wpAny_call (make_map (f := f) I.kIn M.makes M.init (beq_iff_eq.mp M.fn) (codeAny_mono (F.run _ X.stack _ _ ⟨Value.ref (s.heap.objs.size + 1) :: us, []⟩ (Value.ref (s.heap.objs.size + 1) :: (us ++ ds)) _ _ (E σ) (hr.make C us [])
    (I2.env0.make C us []) (hb _ (Value.ref (s.heap.objs.size + 1) :: us) I2.kIn hl) r2 hq) fun r s' hq' => ?_))
  cases r with
  | error e => exact hx pins _ _ e s' I2 hq'
  | ok fl =>
    cases fl with
    | ret u =>
      obtain ⟨v, H', I3, rv, ev, q3⟩ := I2.after hq'
      subst ev
      exact ⟨rv, ⟨V.ref (s.heap.objs.size + 1), H', I3, rfl, q3⟩⟩
    | next => exact False.elim hq'
    | brk => exact False.elim hq'
    | cont => exact False.elim hq'
theorem pe_makeS (M : Mk X.K C f) (F : FnOk X.prog X.w X.K X.mg X.base CX k f fd ps sp) (hr : Room (k + 1) X.A) (hg : Gl X x) (hm : X.mg x = some (.ref C)) (hb : Binds X.K fd ps ds) (hd : Vals dvs ds) (hx : ∀ σ, PassesAt CX X σ (E σ))
    (ha : PA X (e :: es) t) (hdb : (x == ("__debug__" : Str)) = false := by decide) (he : starEach (e :: es) X.env = (false, eval e X.env) :: starEach es X.env := by rfl) (hpl : (backTo pos (starEach es X.env)).any (·.1) = false := by rfl) :
    PE X (.Call (.Name x p) (e :: es) [] pos) (tMakeS C sp dvs E t) := by
  refine ⟨fun pins s σ H Q I h => ?_⟩
  refine wpAny_Call_Name_kw (ld_glob I hg hm ?_ hdb)
  refine PySem.W.callWith_K (h₀ := X.base) I.ok.mod.kin M.kp (thn (ha.run pos pins s σ H _ I h) fun us s1 ⟨vs, H1, I1, r, q⟩ => ⟨I1.kIn, ?_⟩) he hpl
  exact run_makeS M F hr hb hd (hx σ) I1 r q
/-! ### C.m(..), m a staticmethod -/
structure SMet (K : PySem.W.Frag) (C : Addr) (mc : Value) (m : Str) (p g : Addr) : Prop where
  rd : PySem.W.readsIn K C mc = true
  ga : PySem.W.specialIn K (.ref C) "__getattribute__" = some (some (.builtin "type.__getattribute__"))
  at_ : PySem.W.findCls K (.ref C) mc m = some (.get (.builtin "staticmethod.__get__") (.ref p) .none (.ref C))
  rc : ∃ rest, PySem.W.recIn K p "staticmethod" = some (.ref g :: rest)
  kp : PySem.W.keepIn K (.ref g) = true
def tSMeth (C : Addr) (sp : Sp) (E : St → XK) (ta : TE) (t : TA) : TE := fun σ H Q => ta σ H fun x H1 => x = .ref C ∧ t σ H1 fun vs H2 => sp vs H2 Q (E σ)
theorem pe_smeth {mc : Value} {pl : Sem Bool} (he : PE X o ta) (c : SMet X.K C mc m p0 g) (F : FnR X.prog X.w X.K X.mg X.base CX k g sp) (hr : Room k X.A) (hx : ∀ σ, PassesAt CX X σ (E σ)) (ha : PA X (e :: es) t)
    (hst : starEach (e :: es) X.env = (false, eval e X.env) :: starEach es X.env := by rfl) (hpl : (backTo pos (starEach es X.env)).any (·.1) = false := by rfl)
    (ht : eval (.Call (.Attribute o m apos) (e :: es) [] pos) X.env = (do
      let ov ← eval o X.env
      standAt apos.atName
      let (f, first) ← holding [ov] (getMethod ov m pl)
      callWith pos f first (backTo pos (starEach (e :: es) X.env)) (backToKw pos (keywordEach [] X.env))) := by rfl) :
    PE X (.Call (.Attribute o m apos) (e :: es) [] pos) (tSMeth C sp E ta t) := by
  refine ⟨fun pins s σ H Q I h => ?_⟩
  refine PySem.W.methodCall_KW (pl := pl) (thn (he.run pins s σ H _ I h) fun u s1 ⟨x, H1, I1, rx, ex, q⟩ => ?_) ht
  subst ex
  obtain rfl : u = Value.ref C := rx
  obtain ⟨rest, hp⟩ := c.rc
  refine PySem.W.method_cls I1.kIn c.ga (PySem.W.cls_bind I1.kIn c.rd c.at_ (wpAny_call (PySem.W.sm_get (s := { s1 with toks := s1.toks + 1 }) I1.kIn hp (PySem.W.handed_on rfl ?_))))
  have I2 : Inv X pins σ H1 { s1 with toks := s1.toks + 1 } := I1.tok _
  refine PySem.W.callWith_K (h₀ := X.base) I2.ok.mod.kin c.kp (thn (ha.run pos pins _ σ H1 _ I2 q) fun us s3 ⟨vs, H2, I3, r, q2⟩ => ⟨I3.kIn, ?_⟩) hst hpl
  exact wpAny_call (run_rawS F hr (hx σ) I3 r q2)
/-! ### o.m(..) -/
def tMethS2 (C : Addr) (m : Str) (sp : Sp) (E : St → XK) (ta : TE) (t : TA) : TE := fun σ H Q => ta σ H fun x H1 => ∃ a dx fs, x = .ref a ∧ H1 a = some (.ins C dx fs) ∧ fs.lookup m = none ∧ t σ H1 fun vs H2 => sp (x :: vs) H2 Q (E σ)
/-! ### o(..) -/
def tCallOS (C : Addr) (sp : Sp) (E : St → XK) (tf : TE) (t : TA) : TE := fun σ H Q => tf σ H fun y H1 => ∃ a, y = V.ref a ∧ t σ H1 fun vs H2 => (∃ dx fs, H2 a = some (.ins C dx fs)) ∧ sp (V.ref a :: vs) H2 Q (E σ)
theorem pe_callOS (hf : PE X fe tf) (c : StX.CallO X.K C g) (F : FnR X.prog X.w X.K X.mg X.base CX k g sp) (hr : Room k X.A) (hx : ∀ σ, PassesAt CX X σ (E σ)) (ha : PA X (e :: es) t)
    (ht : eval (.Call fe (e :: es) [] pos) X.env = (do callWith pos (← eval fe X.env) [] (backTo pos (starEach (e :: es) X.env)) (backToKw pos (keywordEach [] X.env))) := by rfl)
    (he : starEach (e :: es) X.env = (false, eval e X.env) :: starEach es X.env := by rfl) (hpl : (backTo pos (starEach es X.env)).any (·.1) = false := by rfl) : PE X (.Call fe (e :: es) [] pos) (tCallOS C sp E tf t) := by
  refine ⟨fun pins s σ H Q I h => ?_⟩
  refine Call_ (thn (hf.run pins s σ H _ I h) fun u s1 ⟨y, H1, I1, ry, a, ey, q⟩ => ?_) ht
  subst ey
  obtain rfl : u = Value.ref a := ry
  refine StX.callO_with (thn (ha.run pos pins s1 σ H1 _ I1 q) fun us s2 ⟨vs, H2, I2, r, hi, q2⟩ => ?_) he hpl
  obtain ⟨ox, od, J, hd⟩ := StX.insC_at I2 (.inr hi)
  refine ⟨⟨C, ox, od, J, hd⟩, ?_⟩
  exact wpAny_call (PySem.W.kco_code I2.kIn J hd c.at_ c.fn c.fi (run_rawS (us := .ref a :: us) (vs := .ref a :: vs) F hr (hx σ) I2 (.cons rfl r) q2))
/-! ### operators -/
/-- as OpR, with the slots -/
def OpRS (X : Cx) (f : Value → Value → Sem Value) (r : St → R2) : Prop :=
  ∀ (pins : List (Addr × Obj)) (s : Shared) (σ : St) (H : Hp) (x y : V) (v u : Value) (Q : VK), Inv X pins σ H s → RelV x v → RelV y u → r σ x y H Q →
    wpAny (model X.prog X.w) X.A (f v u) (EP X pins σ Q) X.xe s
def tOpS (r : St → R2) (ta tb : TE) : TE := fun σ H Q => ta σ H fun x H1 => tb σ H1 fun y H2 => r σ x y H2 Q
theorem pe_opS {a b : Expr} {ta tb : TE} {op : Operator} {r : St → R2} (ho : OpRS X (binaryOp op) r) (ha : PE X a ta) (hb : PE X b tb) : PE X (.BinOp a op b pos) (tOpS r ta tb) := by
  refine ⟨fun pins s σ H Q I h => ?_⟩
  exact wpAny_BinOp (binT ha hb I h fun v u s2 x y H2 I2 rx ry q => ho pins s2 σ H2 x y v u Q I2 rx ry q)
/-- what K says of an operator of the class at C: the def at g -/
structure OwnOp (K : PySem.W.Frag) (C g : Addr) (op : Operator) : Prop where
  sf : PySem.W.selfFirst K C = true
  at_ : PySem.W.findIn K (.ref C) (PySem.dunder op.info.2) = some (some (.ref g))
  fn : PySem.W.isFn K (.ref g) = true
  rf : PySem.W.findIn K (.ref C) (dunderR op.info.2) = some none
/-- .. beside a value of a built-in class -/
structure OwnOpT (K : PySem.W.Frag) (C : Addr) (op : Operator) (T : String) : Prop where
  h1 : ∃ fo, PySem.W.findIn K (.type T) (PySem.dunder op.info.2) = some fo
  h2 : ∃ ro, PySem.W.findIn K (.type T) (dunderR op.info.2) = some ro
  sub : PySem.W.subIn K (.type T) (.ref C) = some false
/-- a value whose class is T -/
inductive BiT (K : PySem.W.Frag) (H : Hp) : V → String → Prop where
  | non : BiT K H .non "NoneType"
  | bl (b : Bool) : BiT K H (.bl b) "bool"
  | int (i : Int) : BiT K H (.int i) "int"
  | str (x : Str) : BiT K H (.str x) "str"
end
end L2
namespace L2
open PySem PySem.Spec PyProof.Rows PySem.W
section
variable {X : Cx} {CX : CXT} {k : Nat} {g C : Addr} {sp : Sp} {E : St → XK}
variable {pins : List (Addr × Obj)} {σ : St} {H : Hp} {s : Shared}
theorem looks_ty {x : V} {u t : Value} (I : Inv X pins σ H s) (rx : RelV x u) (ty : TyX X.K H x t) : Looks (model X.prog X.w) s.heap (typeOf u) t := by
  obtain ⟨P, Z, z, _⟩ := kit_of I rx ty
  exact Z.ty _ _ I.kIn z
/-- left an own instance, right a value of a built-in class -/
theorem bin_T {prog : Program} {w : World} {A : Around} {E : Value → Shared → Prop} {s : Shared} {K : Frag} {x C f : Addr} {ox : Obj} {od : Option Obj} {T : String} {op : Operator} {b : Value} {fo ro : Option Value} {Q : Value → Shared → Prop} (X : K.In s.heap) (I : InstAt s.heap x ox C od) (hb : Looks (model prog w) s.heap (typeOf b) (.type T)) (hc : selfFirst K C = true)
    (hs : findIn K (.ref C) (PySem.dunder op.info.2) = some (some (.ref f))) (hf : isFn K (.ref f) = true) (hr : findIn K (.ref C) (dunderR op.info.2) = some none)
    (h1 : findIn K (.type T) (PySem.dunder op.info.2) = some fo) (h2 : findIn K (.type T) (dunderR op.info.2) = some ro) (hsub : subIn K (.type T) (.ref C) = some false)
    (h : wpAny (model prog w) A (call (.ref f) [.ref x, b]) (PySem.W.CmpBack Q) E s) : wpAny (model prog w) A (binaryOp op (.ref x) b) Q E s := by
  obtain ⟨cd, rest, hcd, hm⟩ := ksp_first hc
  rcases hi : op.info with ⟨sym, nm⟩
  rw [hi] at hs hr h1 h2
  dsimp only at hs hr h1 h2
  have one := ksp_try X I hs hf h
  obtain ⟨hh, gg, d, tt, os⟩ := s
  have a1 : Looks (model prog w) hh (typeOf (.ref x)) (.ref C) := I.type
  have a2 : Looks (model prog w) hh (typeOf b) (.type T) := hb
  have a3 : Looks (model prog w) hh (fillsNumberSlot (.ref C) nm) true := fills_K X hcd hm hs
  have a4 := ksp_fillsT (M := model prog w) X h1 h2
  have a5 : Looks (model prog w) hh (isSubtype (.type T) (.ref C)) false := looks_subIn X hsub
  have a6 : Looks (model prog w) hh (numberSlotInPython (.ref C) nm) true := ksp_inPy X hs hr (.inl rfl)
  have a7 : Looks (model prog w) hh (numberSlotInPython (.type T) nm) false := Looks.of_pure rfl
  have a8 : Looks (model prog w) hh (typeLookup (.type T) (dunderR nm)) ro := looks_findIn X h2
  generalize ((fo.isSome && !isSeqSlot fo) || (ro.isSome && !isSeqSlot ro)) = right at a4
  have hne : (Value.ref C == Value.type T) = false := Bool.eq_false_iff.mpr fun q => by cases beq_iff_eq.mp q
  simp only [binaryOp, hi]
  refine wpAny_holding (wpAny_bind ?_)
  unfold binaryOp1
  refine wpAny_bind (a1.at (wpAny_bind (a2.at (wpAny_bind (a3.at ?_)))))
  simp only [hne, Bool.false_eq_true, if_false]
  cases right
  all_goals
    ksp_lk
    refine wpAny_mono one (fun r s' z => ?_) fun _ _ e => e
    obtain ⟨v, rfl, hq⟩ := z
    ksp_lk
    exact hq
theorem back_of {P : Value → Shared → Prop} {pins : List (Addr × Obj)} {σ : St} {Q : VK} {v : Value} {s' : Shared} (h : EP X pins σ Q v s') : PySem.W.CmpBack (EP X pins σ Q) v s' := by
  obtain ⟨z, H', I', rz, q⟩ := h
  exact SlX.cmpback rz ⟨z, H', I', rz, q⟩
/-- o + x, o an own instance whose class has the operator; x an instance of the class, or a value of a built-in class -/
def rOwnB (K : Frag) (C : Addr) (op : Operator) (sp : Sp) (E : St → XK) : St → R2 := fun σ x y H Q => ∃ a dx fs, x = .ref a ∧ H a = some (.ins C dx fs) ∧
  ((∃ b dy gs, y = .ref b ∧ H b = some (.ins C dy gs)) ∨ (∃ T, TyX K H y (.type T) ∧ OwnOpT K C op T)) ∧ sp [x, y] H Q (E σ)
theorem op_ownB {op : Operator} (c : OwnOp X.K C g op) (F : FnR X.prog X.w X.K X.mg X.base CX k g sp) (hr : Room k X.A) (hx : ∀ σ, PassesAt CX X σ (E σ)) : OpRS X (binaryOp op) (rOwnB X.K C op sp E) := by
  intro pins s σ H x y v u Q I rx ry h
  obtain ⟨a, dx, fs, rfl, ha, hy, q⟩ := h
  cases (show v = Value.ref a from rx)
  obtain ⟨ox, od, J, _⟩ := StX.insC_at I (.inr ⟨dx, fs, ha⟩)
  obtain ⟨m, hF⟩ := I.fr
  have run : wpAny (model X.prog X.w) X.A (call (.ref g) [.ref a, u]) (PySem.W.CmpBack (EP X pins σ Q)) X.xe s :=
    wpAny_mono (wpAny_call (run_rawS (us := [.ref a, u]) (vs := [.ref a, y]) F hr (hx σ) I (.cons rfl (.cons ry .nil)) q)) (fun w s' z => back_of (P := fun _ _ => True) z) fun _ _ x => x
  rcases hy with ⟨b, dy, gs, rfl, hb⟩ | ⟨T, ty, c2⟩
  · cases (show u = Value.ref b from ry)
    obtain ⟨oy, od', J', _⟩ := StX.insC_at I (.inr ⟨dy, gs, hb⟩)
    exact binop_K hF I.ok.mod.kin J J'.type c.sf c.at_ c.fn run
  · obtain ⟨fo, h1⟩ := c2.h1
    obtain ⟨ro, h2⟩ := c2.h2
    exact bin_T I.kIn J (looks_ty I ry ty) c.sf c.at_ c.fn c.rf h1 h2 c2.sub run
end
end L2
namespace L2
open PySem PySem.Spec PyProof.Rows PySem.W
section
variable {prog : Program} {w : World} {A : Around} {E : Value → Shared → Prop} {s : Shared} {K : Frag} {x C f : Addr} {ox : Obj} {od : Option Obj} {b tb : Value}
/-- a slot of object's, bound -/
theorem ifBound_ne {M : Model} {args : List Value} {Q : Option Value → Shared → Prop} (X : K.In s.heap) (I : InstAt s.heap x ox C od) (hs : findIn K (.ref C) "__ne__" = some (some (.builtin "object.__ne__")))
    (h : wpAny M A (call (.builtin "object.__ne__") (.ref x :: args)) (fun v => Q (some v)) E s) : wpAny M A (callSpecialIfBound? (.ref x) "__ne__" args) Q E s := by
  simp only [callSpecialIfBound?, bindSpecialIfBound?]
  refine wpAny_holding (wpAny_bind (wpAny_bind (wpAny_bind (I.type.here ((looks_findIn X hs).here ?_)))))
  refine wpAny_bind (wpAny_askSetting (wpAny_ite ?_))
  have fin : wpAny M A (call (.builtin "object.__ne__") ([.ref x] ++ args) >>= fun v => pure (some v)) Q E s := wpAny_bind (wpAny_mono h (fun v s' z => wpAny_pure z) fun _ _ z => z)
  split
  · exact wpAny_bind (wpAny_of_eq (F.cmp_object.ne.bind _) (wpAny_pure (by exact fin)))
  · exact wpAny_tryCatch (wpAny_bind (wpAny_of_eq (F.cmp_object.ne.bind _) (wpAny_pure (by exact fin))))
theorem ne_body {Q : Fin → Shared → Prop} (hu : A.units < cLine) (X : K.In s.heap) (I : InstAt s.heap x ox C od) (hs : findIn K (.ref C) "__eq__" = some (some (.ref f))) (hf : isFn K (.ref f) = true)
    (h : wpAny (model prog w) A (call (.ref f) [.ref x, b]) (fun v s' => ∃ c, v = .bool c ∧ Q (.done (.ret (.bool (!c)))) s') E s) : wpAny (model prog w) A (Builtin.«object.__ne__» ⟨[.ref x, b], []⟩) Q E s := by
  unfold Builtin.«object.__ne__»
  refine wpAny_bind (wpAny_of_eq (a := (.ref x, [b])) rfl ?_)
  refine wpAny_bind (wpAny_cRoomFor hu ?_)
  refine wpAny_bind (m := callSpecialIfBound? (.ref x) (Str.ofString "__eq__") [b]) (ifBound_K X I hs hf (wpAny_mono h (fun v s' z => ?_) fun _ _ z => z))
  obtain ⟨c, rfl, q⟩ := z
  exact wpAny_bind (wpAny_truthy_bool (wpAny_pure q))
theorem ne_own {Q : Value → Shared → Prop} (hu : A.units + 1 < cLine) (X : K.In s.heap) (I : InstAt s.heap x ox C od) (hb : Looks (model prog w) s.heap (typeOf b) tb) (hn : notFirst K C tb = true) (hm : mroIn K C (.type "object") = some true)
    (h1 : findIn K (.ref C) "__ne__" = some (some (.builtin "object.__ne__"))) (h2 : findIn K (.ref C) "__eq__" = some (some (.ref f))) (hf : isFn K (.ref f) = true)
    (h : wpAny (model prog w) A.in1 (call (.ref f) [.ref x, b]) (fun v s' => ∃ c, v = .bool c ∧ Q (.bool (!c)) s') E s) : wpAny (model prog w) A (richCompare .NotEq (.ref x) b) Q E s := by
  have one : wpAny (model prog w) A (tryCompare (.ref x) "__ne__" b) (fun r s' => ∃ v, r = some v ∧ Q v s') E s := by
    unfold tryCompare
    refine wpAny_bind (ifBound_ne X I h1 (wpAny_call (codeAny_call_builtin F.cmp_object.ne.plain F.cmpEntry_ne (PySem.W.check_slot F.cmpKind_ne F.cmpSplit_ne (I.type.andThen (looks_mroIn X hm)) (F.cmpArgs_ne _ _)
      (ne_body hu X I h2 hf (wpAny_mono h (fun v s' z => ?_) fun _ _ z => z))))))
    obtain ⟨c, rfl, q⟩ := z
    exact ⟨c, rfl, wpAny_pure ⟨_, rfl, q⟩⟩
  unfold richCompare
  simp only [oneThing_ref, cmpInfo_NotEq]
  refine wpAny_holding (wpAny_bind (wpAny_cRoomFor (Nat.lt_of_succ_lt hu) ?_))
  refine wpAny_bind (I.type.here (wpAny_bind (hb.here ?_)))
  split
  · rename_i q
    have e : subIn K tb (.ref C) = some false := by
      rcases Bool.or_eq_true_iff.mp hn with e | e
      · rw [beq_iff_eq.mp e] at q
        simp at q
      · exact beq_iff_eq.mp e
    refine wpAny_bind ((looks_subIn X e).here ?_)
    simp only [Bool.false_eq_true, if_false]
    refine wpAny_bind (wpAny_mono one (fun r s' z => ?_) fun _ _ e => e)
    obtain ⟨v, rfl, hq⟩ := z
    exact wpAny_pure hq
  · refine wpAny_bind (wpAny_pure ?_)
    simp only [Bool.false_eq_true, if_false]
    refine wpAny_bind (wpAny_mono one (fun r s' z => ?_) fun _ _ e => e)
    obtain ⟨v, rfl, hq⟩ := z
    exact wpAny_pure hq
end
/-- what K says of a class with an own __eq__ -/
structure OwnEqC (K : Frag) (C g : Addr) : Prop where
  eq : findIn K (.ref C) "__eq__" = some (some (.ref g))
  ne : findIn K (.ref C) "__ne__" = some (some (.builtin "object.__ne__"))
  fn : isFn K (.ref g) = true
  ob : mroIn K C (.type "object") = some true
section
variable {X : Cx} {CX : CXT} {k : Nat} {g C : Addr} {sp : Sp} {E : XK}
/-- o == x, o an own instance -/
def rOwnE (K : Frag) (C : Addr) (sp : Sp) (E : XK) (f : Bool → Bool) : R2 := fun x y H Q => ∃ a dx fs t, x = .ref a ∧ H a = some (.ins C dx fs) ∧ ((∃ b dy gs, y = .ref b ∧ H b = some (.ins C dy gs) ∧ t = .ref C) ∨ TyX K H y t) ∧ notFirst K C t = true ∧
  sp [x, y] H (fun v H' => ∃ c, v = .bl c ∧ Q (.bl (f c)) H') E
theorem ty_ins {pins : List (Addr × Obj)} {σ : St} {H : Hp} {s : Shared} {y : V} {u t : Value} (I : Inv X pins σ H s) (ry : RelV y u) (h : (∃ b dy gs, y = .ref b ∧ H b = some (.ins C dy gs) ∧ t = .ref C) ∨ TyX X.K H y t) : Looks (model X.prog X.w) s.heap (typeOf u) t := by
  rcases h with ⟨b, dy, gs, rfl, hb, rfl⟩ | h
  · cases (show u = Value.ref b from ry)
    obtain ⟨oy, od', J', _⟩ := StX.insC_at I (.inr ⟨dy, gs, hb⟩)
    exact J'.type
  · exact looks_ty I ry h
theorem op_ownE (c : OwnEqC X.K C g) (F : FnR X.prog X.w X.K X.mg X.base CX k g sp) (hr : Room k X.A) (hx : Passes CX X E) : OpR X (compareOp .Eq) (rOwnE X.K C sp E fun c => c) := by
  intro pins s σ H x y v u Q I rx ry h
  obtain ⟨a, dx, fs, t, rfl, ha, hy, nf, q⟩ := h
  cases (show v = Value.ref a from rx)
  obtain ⟨ox, od, J, _⟩ := StX.insC_at I (.inr ⟨dx, fs, ha⟩)
  obtain ⟨m, hF⟩ := I.fr
  refine cmp_ofEq (cmp_K (op := .Eq) hr.units0 hF I.ok.mod.kin J (ty_ins I ry hy) nf c.eq c.fn ?_)
  refine wpAny_mono (wpAny_call (run_fnR (us := [.ref a, u]) (vs := [.ref a, y]) F hr hx I (.cons rfl (.cons ry .nil)) q)) (fun w s' z => ?_) fun _ _ x => x
  obtain ⟨z', H', I', rz, cc, rfl, qz⟩ := z
  exact SlX.cmpback rz ⟨_, H', I', rz, qz⟩
theorem op_ownN (c : OwnEqC X.K C g) (F : FnR X.prog X.w X.K X.mg X.base CX k g sp) (hr : Room (k + 1) X.A) (hx : Passes CX X E) : OpR X (compareOp .NotEq) (rOwnE X.K C sp E fun c => !c) := by
  intro pins s σ H x y v u Q I rx ry h
  obtain ⟨a, dx, fs, t, rfl, ha, hy, nf, q⟩ := h
  cases (show v = Value.ref a from rx)
  obtain ⟨ox, od, J, _⟩ := StX.insC_at I (.inr ⟨dx, fs, ha⟩)
  refine cmp_ofNotEq (ne_own (Nat.lt_of_le_of_lt (Nat.add_le_add_left (by decide) _) hr.units) I.kIn J (ty_ins I ry hy) nf c.ob c.ne c.eq c.fn ?_)
  refine wpAny_mono (wpAny_call (SlX.run_at (us := [.ref a, u]) (ws := [.ref a, y]) F hr.in1 I.env0.in1 hx I (.cons rfl (.cons ry .nil)) q)) (fun w s' z => ?_) fun _ _ x => x
  obtain ⟨z', H', I', rz, cc, rfl, qz⟩ := z
  cases (show w = Value.bool cc from rz)
  exact ⟨cc, rfl, ⟨.bl (!cc), H', I', rfl, qz⟩⟩
end
end L2
set_option Elab.async false
set_option linter.all false
set_option maxRecDepth 100000
set_option maxHeartbeats 4000000
/-! Do: own instances as data. -/
namespace Dv
open PySem L2
/-! ### a maker's contract: of the arguments behind self, of the fields in the end, of an error -/
structure CtrI where
  n : Nat
  f : List Sl → (List (Str × D) → Prop) → (Addr → XP → Prop) → Prop
  mono : ∀ {ss : List Sl} {k k' : List (Str × D) → Prop} {x x' : Addr → XP → Prop}, (∀ s, k s → k' s) → (∀ C p, x C p → x' C p) → f ss k x → f ss k' x'
  no : ∀ {ss : List Sl} {k : List (Str × D) → Prop} {x : Addr → XP → Prop}, f ss k x → noOwn ss = true := by (intro ss k x h; (try dsimp only at h); split at h <;> first | rfl | exact h.elim)
def CtrI.sp (C : CtrI) (K : PySem.W.Frag) (Cl : Addr) : Sp := fun vs H Q E => ∃ (c : Cfg) (ss : List Sl) (a dx : Addr) (H0 : Hp) (us : List V), c.K = K ∧ c.I H0 ∧ vs = .ref a :: us ∧ H0 a = none ∧ H0 dx = none ∧ dx ≠ a ∧ H = upd (upd H0 dx (.own a)) a (.ins Cl dx []) ∧
  Paired (fun v s => SlOk c H0 (some v) s) us ss ∧ ss.length = C.n ∧ C.f ss (fun fs => ∀ H', Go c H0 H' → Rp c H' (.ref a) (.obj Cl fs) → Q .non H') (fun A p => ∀ d H', Go c H0 H' → XOk c H' d p → E (.ref A) d H')
theorem noOwn_cons {s : Sl} {r : List Sl} (h : noOwn (s :: r) = true) : (∀ j x, s ≠ .own j x) ∧ noOwn r = true := by
  cases s with
  | own j x => cases h
  | any => exact ⟨fun _ _ z => (nomatch z), h⟩
  | v x => exact ⟨fun _ _ z => (nomatch z), h⟩
  | d x => exact ⟨fun _ _ z => (nomatch z), h⟩
  | pool => exact ⟨fun _ _ z => (nomatch z), h⟩
  | ex a cls dd p => exact ⟨fun _ _ z => (nomatch z), h⟩
theorem clr_noOwn {k : Nat} : ∀ {Γ : Gm}, noOwn Γ = true → clr k Γ = Γ
  | [], _ => rfl
  | s :: r, h => by
    obtain ⟨h1, h2⟩ := noOwn_cons h
    show _ :: clr k r = _
    rw [clr_noOwn h2]
    cases s with
    | own j x => exact (h1 j x rfl).elim
    | any => rfl
    | v x => rfl
    | d x => rfl
    | pool => rfl
    | ex a cls dd p => rfl
theorem noOwn_append : ∀ {l r : List Sl}, noOwn l = true → noOwn r = true → noOwn (l ++ r) = true
  | [], _, _, h => h
  | s :: l, r, h, h' => by
    obtain ⟨h1, h2⟩ := noOwn_cons h
    have z := noOwn_append h2 h'
    cases s with
    | own j x => exact (h1 j x rfl).elim
    | any => exact z
    | v x => exact z
    | d x => exact z
    | pool => exact z
    | ex a cls dd p => exact z
theorem noOwn_any : ∀ n : Nat, noOwn (List.replicate n .any) = true
  | 0 => rfl
  | n + 1 => noOwn_any n
theorem slot_at {σ : St} {Γ : Gm} {i : Nat} {s : Sl} (h : σ.length = Γ.length) (e : Γ[i]? = some s) : ∃ o, σ[i]? = some o := by
  cases z : σ[i]? with
  | some o => exact ⟨o, rfl⟩
  | none =>
    rw [List.getElem?_eq_none_iff, h] at z
    rw [List.getElem?_eq_none z] at e
    cases e
/-- where a maker ends: what self holds -/
def iEnd (Cl : Addr) (kk : List (Str × D) → Prop) : Gm → Prop := fun Γ => ∃ fs, Γ[0]? = some (.own 0 (.obj Cl fs)) ∧ kk fs
/-- a def of the text, with what defaults ever -/
structure FunD (K : PySem.W.Frag) (x qual : Str) (st : Stmt) (f : Addr) (fd : FuncData) : Prop where
  ex : ∃ (oc : Value) (od : Option Addr) (dV kV doc pm : Value) (an : Option Addr) (cdv ct : Value) (osl : Array (Option Value)),
    fd = PySem.W.fnOf x qual (defArgs st) (defBody st) (defScope st) dV kV doc pm an cdv ct ∧ K.lookup f = some ⟨oc, od, .func fd, osl⟩ ∧ PySem.W.codeIn K cdv qual = true
  kp : PySem.W.keepIn K (.ref f) = true
theorem FunD.of {K : PySem.W.Frag} {x qual : Str} {st : Stmt} {f : Addr} {fd : FuncData} (F : Fun K x qual st f fd) : FunD K x qual st f fd := by
  obtain ⟨oc, od, kV, doc, pm, an, cdv, ct, osl, h⟩ := F.ex
  exact ⟨⟨oc, od, .none, kV, doc, pm, an, cdv, ct, osl, h⟩, F.kp⟩
section
variable {P : Program} {w : World} {K : PySem.W.Frag} {mg : Str → Option Value} {base : Heap}
theorem FunD.okX {x qual : Str} {st : Stmt} {f : Addr} {fd : FuncData} {N ps : List Str} {k : Nat} {sp : Sp} (F : FunD K x qual st f fd) (S : FnScope N ps (defScope st)) (len : ∀ vs H Q E, sp vs H Q E → vs.length = ps.length)
    (hbody : ∀ (cdv : Value) (A : Around) (outer : List Env) (s : Shared) (H : Hp) (vs : List V) (Q : VK) (E : XK), Room k (A.deeper (PyProof.Rows.envOfC qual (defScope st) s.heap.objs.size f cdv)) → sp vs H Q E →
      ∃ t, PSs (cxOf (L2.CX P w) P w K mg base N qual (defScope st) f cdv A outer s H E) (defBody st) t ∧ t { nx := fun _ H' => Q .non H', rt := Q } (L2.start N vs) H) : FnOk P w K mg base (L2.CX P w) (k + 1) f fd ps sp := by
  obtain ⟨oc, od, dV, kV, doc, pm, an, cdv, ct, osl, e, lk, hcd⟩ := F.ex
  subst e
  exact fn_of lk hcd S len fun A outer s H vs Q E hr hsp => hbody cdv A outer s H vs Q E hr hsp
theorem fn_init {x qual : Str} {st : Stmt} {f Cl : Addr} {fd : FuncData} {N ps : List Str} {k : Nat} (C : CtrI) (F : FunD K x qual st f fd) (S : FnScope N ps (defScope st)) (hn : ps.length = C.n + 1)
    (body : ∀ (cdv : Value) (A : Around) (outer : List Env) (s : Shared) (H : Hp) (E : XK) (xw : XW), Room k (A.deeper (PyProof.Rows.envOfC qual (defScope st) s.heap.objs.size f cdv)) →
      PassesOwn (model P w) (cxOf (L2.CX P w) P w K mg base N qual (defScope st) f cdv A outer s H E).A (cxOf (L2.CX P w) P w K mg base N qual (defScope st) f cdv A outer s H E).env (cxOf (L2.CX P w) P w K mg base N qual (defScope st) f cdv A outer s H E).xe →
      ∃ ts ds, PDSs (cxOf (L2.CX P w) P w K mg base N qual (defScope st) f cdv A outer s H E) (fun cls d _ H => E cls d H) xw (defBody st) ts ds ∧
        ∀ ss kk xx, ss.length = C.n → C.f ss kk xx → (xw = fun A p _ => xx A p) → ds { nx := iEnd Cl kk } (startD N (.own 0 (.obj Cl []) :: ss))) : FnOk P w K mg base (L2.CX P w) (k + 1) f fd ps (C.sp K Cl) := by
  refine F.okX S (fun vs H Q E h => ?_) (fun cdv A outer s H vs Q E hr h => ?_)
  · obtain ⟨c, ss, a, dx, H0, us, _, _, rfl, _, _, _, _, r, hl, _⟩ := h
    rw [List.length_cons, paired_len r, hl, hn]
  · obtain ⟨c, ss, a, dx, H0, us, eK, hi, rfl, na, nd, ne, rfl, r, hl, hf⟩ := h
    obtain ⟨ts, ds, pd, hd⟩ := body cdv A outer s _ E (fun A p _ => ∀ d H', Go c H0 H' → XOk c H' d p → E (.ref A) d H') hr (passes_of rfl)
    refine ⟨ts, pd.ps (takes_of rfl rfl rfl rfl), ?_⟩
    have q := hd ss _ _ hl hf rfl
    let c1 := c.sub.wth (Kp c.G H0) (fun {H1 H2} k h => h.trans k)
    have ha : ¬ c1.F a := c.fresh hi na
    have nO := C.no hf
    have rp : Paired (fun v s => SlOk c.sub H0 (some v) s) (.ref a :: us) (.any :: ss) := .cons (show SlOk c.sub H0 (some (.ref a)) .any from trivial) (paired_sub r nO)
    have s0 : StOk c1 (L2.start N (.ref a :: us)) H0 (startD N (.any :: ss)) := (start_ok (c := c.sub) hi rp).wth Kp.self
    have kp : ∀ b o, H0 b = some o → (upd (upd H0 dx (.own a)) a (.ins Cl dx [])) b = some o := fun b o e => by
      rw [upd_ne (ne_of_none e na), upd_ne (ne_of_none e nd)]
      exact e
    have s1 := s0.mine (k := 0) ha na kp (by rw [upd_same]; exact fun z => nomatch z)
    rw [show clr 0 (startD N (.any :: ss)) = startD N (.any :: ss) from clr_noOwn (noOwn_append (l := .any :: ss) nO (noOwn_any _))] at s1
    have s2 := s1.set (i := 0) (o := some (.ref a)) (s := .own 0 (.obj Cl [])) ⟨a, rfl, (by show (if (0 : Nat) = 0 then some a else c1.ow 0) = some a; exact if_pos rfl), dx, [], upd_same, .nil⟩
    have g1 : ∀ {H' : Hp}, (c1.mine 0 a ha).I H' → Go c H0 H' := fun {H'} i => ⟨fun b o nb e => (rem_sub (i.1.2 b o nb e)).2, c.mono (fun _ _ e => (rem_sub e).2) i.1.1⟩
    have lF : ∀ b, c.F b → (c1.mine 0 a ha).F b := fun _ z => .inl z
    refine pd.li (c1.mine 0 a ha) eK ?_ _ _ ⟨?_, ?_, ?_, ?_⟩ _ _ _ s2 q
    · exact fun σ H' Γ A d p st x z => z d H' (g1 st.inv) (XOk.to (c := c1.mine 0 a ha) (c' := c) rfl lF Kp.self x)
    · rintro Γ σ H' st ⟨fs, e0, kk⟩
      obtain ⟨o1, e1⟩ := slot_at st.len e0
      obtain ⟨b, eb, wb, rb⟩ := st.at_ 0 _ _ e1 e0
      have ww : some a = some b := wb
      cases ww
      exact kk H' (g1 st.inv) ((OwRp.to (c := c1.mine 0 a ha) (c' := c) rfl lF Kp.self (fun _ e => e) rb).rp ha)
    · exact fun _ _ _ _ _ z => z.elim
    · exact fun _ _ _ _ z => z.elim
    · exact fun _ _ _ _ z => z.elim
end
section
variable {X : Cx} {W : WX} {xw : XW} {K : PySem.W.Frag} {pos : Pos}
/-! ### C(..) -/
def dNew (CI : CtrI) (Cl : Addr) (dd : List D) (xw : XW) (a : DA) : DE := fun Γ k => a Γ fun ss => (ss ++ dd.map Sl.d).length = CI.n ∧ CI.f (ss ++ dd.map Sl.d) (fun fs => k (.d (.obj Cl fs))) fun A p => xw A p Γ
theorem paired_append {α β : Type} {F : α → β → Prop} : ∀ {xs us : List α} {ys zs : List β}, Paired F xs ys → Paired F us zs → Paired F (xs ++ us) (ys ++ zs)
  | _, _, _, _, .nil, r => r
  | _, _, _, _, .cons a b, r => .cons a (paired_append b r)
theorem rp_paired {c : Cfg} {H : Hp} : ∀ {vs : List V} {ds : List D}, RpAll c H vs ds → Paired (fun v s => SlOk c H (some v) s) vs (ds.map Sl.d)
  | _, _, .nil => .nil
  | _, _, .cons a b => .cons ⟨_, rfl, a⟩ (rp_paired b)
theorem pd_new {CI : CtrI} {Cl f : Addr} {fd : FuncData} {ps : List Str} {k : Nat} {x : Str} {p : Pos} {dvs : List V} {ds : List Value} {dd : List D} {e : Expr} {es : List Expr} {ta : TA} {da : DA} (M : Mk X.K Cl f) (F : FnOk X.prog X.w X.K X.mg X.base (L2.CX X.prog X.w) k f fd ps (CI.sp X.K Cl)) (hr : Room (k + 1) X.A) (hm : X.mg x = some (.ref Cl)) (hb : Binds X.K fd ps ds) (hd : Vals dvs ds) (hdd : ∀ c H, RpAll c H dvs dd)
    (a : PDA X W xw (e :: es) ta da) (hg : Gl X x := by rfl) (hdb : (x == ("__debug__" : Str)) = false := by decide) (he : starEach (e :: es) X.env = (false, eval e X.env) :: starEach es X.env := by rfl) (hpl : (backTo pos (starEach es X.env)).any (·.1) = false := by rfl) :
    PD X W xw (.Call (.Name x p) (e :: es) [] pos) (tMakeS Cl (CI.sp X.K Cl) dvs (WE W) ta) (dNew CI Cl dd xw da) :=
  ⟨fun tk => pe_makeS M F hr hg hm hb hd (fun σ => passAt tk σ) (a.pa tk) hdb he hpl, fun c eK hW Γ k hk σ H st Q q => a.li c eK hW Γ _ hk σ H st _ fun vs ss H1 g r h => fun y dx ny nd ne =>
    ⟨c, ss ++ dd.map Sl.d, y, dx, H1, vs ++ dvs, eK, g.inv, rfl, ny, nd, ne, rfl, paired_append r (rp_paired (hdd c H1)), h.1,
      CI.mono (fun fs ks H' g' r' => ⟨rfl, q _ (.d (.obj Cl fs)) H' (g.trans g') ⟨_, rfl, r'⟩ ks⟩) (fun A pp z d H' g' x' => hW σ H' Γ A d pp (st.go (g.trans g')) x' z) h.2⟩⟩
/-! ### o.f -/
theorem RpFs.look {c : Cfg} {H : Hp} {f : Str} {x : D} : ∀ {vs : List (Str × V)} {fs : List (Str × D)}, RpFs c H vs fs → fs.lookup f = some x → ∃ v, vs.lookup f = some v ∧ Rp c H v x
  | _, _, .nil, e => nomatch e
  | _, _, .cons (n := n) a b, e => by
    rw [List.lookup_cons] at e ⊢
    cases z : f == n with
    | true =>
      rw [z] at e
      cases e
      exact ⟨_, rfl, a⟩
    | false =>
      rw [z] at e
      exact RpFs.look b e
def dFld (Cl : Addr) (f : Str) (e : DE) : DE := fun Γ k => e Γ fun s => match s with
  | .d (.obj C fs) => C = Cl ∧ ∃ x, fs.lookup f = some x ∧ k (.d x)
  | .own _ (.obj C fs) => C = Cl ∧ ∃ x, fs.lookup f = some x ∧ k (.d x)
  | _ => False
theorem pd_fld {Cl : Addr} {f : Str} {e : Expr} {te : TE} {de : DE} (cl : Cls X.K Cl) (na : NoAttr X.K Cl f) (h : PD X W xw e te de) (hb : attributeBase e f X.env (eval e X.env) = eval e X.env := by rfl) : PD X W xw (.Attribute e f pos) (tFld X.K te f) (dFld Cl f de) :=
  ⟨fun tk => pe_fld (h.pe tk) hb, fun c eK hW Γ k hk σ H st Q q => h.li c eK hW Γ _ hk σ H st _ fun v s H1 g r h1 => by
    try dsimp only at h1
    split at h1
    · obtain ⟨e0, x, e1, kx⟩ := h1
      subst e0
      obtain ⟨w, e, rr⟩ := r
      cases e
      cases rr with
      | obj nf hh rf =>
        obtain ⟨u, e2, ru⟩ := rf.look e1
        exact ⟨_, _, _, _, u, rfl, hh, cl, na, e2, q _ (.d x) H1 g ⟨_, rfl, ru⟩ kx⟩
    · obtain ⟨e0, x, e1, kx⟩ := h1
      subst e0
      obtain ⟨b, e, w, dx, vs, hh, rf⟩ := r
      cases e
      obtain ⟨u, e2, ru⟩ := rf.look e1
      exact ⟨_, _, _, _, u, rfl, hh, cl, na, e2, q _ (.d x) H1 g ⟨_, rfl, ru⟩ kx⟩
    · exact h1.elim⟩
/-! ### self.f = e, self owned -/
def putD (f : Str) (v : D) : List (Str × D) → List (Str × D)
  | [] => [(f, v)]
  | (g, x) :: r => if g = f then (g, v) :: r else (g, x) :: putD f v r
theorem RpFs.put {c : Cfg} {H : Hp} {f : Str} {v : V} {x : D} (h : Rp c H v x) : ∀ {vs : List (Str × V)} {fs : List (Str × D)}, RpFs c H vs fs → RpFs c H (putF f v vs) (putD f x fs)
  | _, _, .nil => .cons h .nil
  | _, _, .cons (n := n) a b => by
    show RpFs c H (if n = f then _ else _) (if n = f then _ else _)
    by_cases e : n = f
    · rw [if_pos e, if_pos e]
      exact .cons h b
    · rw [if_neg e, if_neg e]
      exact .cons a (RpFs.put h b)
theorem RpFs.length {c : Cfg} {H : Hp} : ∀ {vs : List (Str × V)} {fs : List (Str × D)}, RpFs c H vs fs → vs.length = fs.length
  | _, _, .nil => rfl
  | _, _, .cons _ b => congrArg (· + 1) b.length
def dSetF (Cl : Addr) (i : Nat) (f : Str) (e : DE) : DS := fun D Γ => e Γ fun s => match s, Γ[i]? with
  | .d x, some (.own k (.obj C fs)) => C = Cl ∧ fs.length < 1000 ∧ D.nx ((clr k Γ).set i (.own k (.obj C (putD f x fs))))
  | _, _ => False
theorem pds_fld {Cl : Addr} {i : Nat} {x f : Str} {e : Expr} {te : TE} {de : DE} {p p' : Pos} (cl : Cls X.K Cl) (na : NoAttr X.K Cl f) (h : PD X W xw e te de) (hN : X.N[i]? = some x := by rfl) (hv : Vis X.env.scope x := by first | exact Or.inl rfl | exact Or.inr (Or.inl rfl) | exact Or.inr (Or.inr rfl)) (hd : (x == ("__debug__" : Str)) = false := by decide) (hcd : (x == ("__classdict__" : Str)) = false := by decide)
    (hs : swapsWith e (some (.Attribute (.Name x p) f p')) pos.line X.env = pure false := by rfl) : PDS X W xw (.Assign [.Attribute (.Name x p) f p'] e pos) (sFld X.K (tVar i) te f) (dSetF Cl i f de) :=
  ⟨fun tk => ps_fld (pe_var hN hv hd hcd) (h.pe tk) hs, fun c eK hW E D o Γ σ H st hk => h.li c eK hW Γ _ hk σ H st _ fun v s H1 g r h1 => by
    try dsimp only at h1
    split at h1
    · rename_i y n C fs e0
      obtain ⟨ec, hl, kx⟩ := h1
      subst ec
      obtain ⟨w, e, rr⟩ := r
      cases e
      have st1 := st.go g
      obtain ⟨o1, e1⟩ := slot_at st.len e0
      obtain ⟨b, eb, wb, dx, vs, hh, rf⟩ := st1.at_ i _ _ e1 e0
      have e2 : σ[i]? = some (some (.ref b)) := by rw [e1, eb]
      have kk : Kp c.F H1 (upd H1 b (.ins C dx (putF f v vs))) := fun b' u nb e => by
        rw [upd_ne (fun y => nb (by rw [y]; exact c.WF (c.owW wb).1))]
        exact e
      refine ⟨.ref b, e2, b, C, dx, vs, rfl, hh, cl, na, by rw [rf.length]; exact hl, o.nx _ σ _ (st1.put wb e2 ?_) kx⟩
      exact ⟨dx, _, upd_same, RpFs.put (rr.go kk) (rf.to rfl (fun _ z => z) kk)⟩
    · exact h1.elim⟩
end
end Dv
set_option Elab.async false
set_option linter.all false
set_option maxRecDepth 100000
set_option maxHeartbeats 4000000
/-! Do2: own instances with operators, called, compared; static methods; texts of ints. -/
namespace Dv
open PySem L2
/-! ### built-in classes beside an own one -/
def bT : D → Option String
  | .non => some "NoneType"
  | .bl _ => some "bool"
  | .int _ => some "int"
  | .str _ => some "str"
  | .lst _ => some "list"
  | .tup _ => some "tuple"
  | .dic _ => some "dict"
  | _ => none
theorem rp_bT {c : Cfg} {H : Hp} {v : V} {d : D} {T : String} (h : Rp c H v d) (e : bT d = some T) : TyX c.K H v (.type T) := by
  cases h with
  | non => cases e; exact .base .non
  | bl b => cases e; exact .base (.bl _)
  | int b => cases e; exact .base (.int _)
  | str b => cases e; exact .base (.str _)
  | lst nf il ra =>
    cases e
    rcases il with il | ⟨o, il⟩
    · exact .base (.lst il)
    · exact .base (.frz il)
  | scr _ _ => cases e
  | tup il ra =>
    cases e
    rcases il with ⟨_, il | ⟨o, il⟩⟩ | ⟨o, _, _, e, cl, _⟩
    · exact .base (.tup il)
    · exact .fTuple il
    · exact .kTuple e cl
  | obj _ _ _ => cases e
  | dic nf il ra =>
    cases e
    rcases il with il | ⟨o, il⟩
    · exact .base (.dK il)
    · exact .fDict il
def isB (T : String) : Prop := T = "NoneType" ∨ T = "bool" ∨ T = "int" ∨ T = "str" ∨ T = "list" ∨ T = "tuple" ∨ T = "dict"
theorem bT_isB {d : D} {T : String} (e : bT d = some T) : isB T := by
  cases d <;> cases e <;> simp [isB]
theorem sub_own {K : PySem.W.Frag} {C : Addr} {T : String} (h : (fastFind? T).isSome = true) : PySem.W.subIn K (.type T) (.ref C) = some false := by
  obtain ⟨t, e⟩ := Option.isSome_iff_exists.mp h
  show (fastBuiltinMro T).map (·.contains (.ref C)) = some false
  rw [fastBuiltinMro, e]
  show some ((t.mro.map Value.type).contains (.ref C)) = some false
  congr 1
  induction t.mro with
  | nil => rfl
  | cons a r ih => rw [List.map_cons, List.contains_cons, ih]; rfl
theorem sub_isB {K : PySem.W.Frag} {C : Addr} {T : String} (h : isB T) : PySem.W.subIn K (.type T) (.ref C) = some false := by
  rcases h with rfl | rfl | rfl | rfl | rfl | rfl | rfl <;> exact sub_own (by decide +kernel)
theorem first_isB {K : PySem.W.Frag} {C : Addr} {T : String} (h : isB T) : PySem.W.notFirst K C (.type T) = true := by
  unfold PySem.W.notFirst
  rw [sub_isB h]
  exact Bool.or_true _
theorem first_self {K : PySem.W.Frag} {C : Addr} : PySem.W.notFirst K C (.ref C) = true := by
  unfold PySem.W.notFirst
  rw [beq_self_eq_true]
  exact Bool.true_or _
def opB (op : Operator) (T : String) : Bool := (fastLookup T (PySem.dunder op.info.2)).isSome && (fastLookup T (dunderR op.info.2)).isSome
theorem ownT {K : PySem.W.Frag} {C : Addr} {op : Operator} {T : String} (h : opB op T = true) (hT : isB T) : OwnOpT K C op T := by
  obtain ⟨h1, h2⟩ := Bool.and_eq_true_iff.mp h
  exact ⟨Option.isSome_iff_exists.mp h1, Option.isSome_iff_exists.mp h2, sub_isB hT⟩
theorem ownAdd {K : PySem.W.Frag} {C : Addr} {T : String} (hT : isB T) : OwnOpT K C .Add T := by
  have z := hT
  rcases z with rfl | rfl | rfl | rfl | rfl | rfl | rfl <;> exact ownT (by decide +kernel) hT
theorem ownSub {K : PySem.W.Frag} {C : Addr} {T : String} (hT : isB T) : OwnOpT K C .Sub T := by
  have z := hT
  rcases z with rfl | rfl | rfl | rfl | rfl | rfl | rfl <;> exact ownT (by decide +kernel) hT
theorem ownMul {K : PySem.W.Frag} {C : Addr} {T : String} (hT : isB T) : OwnOpT K C .Mult T := by
  have z := hT
  rcases z with rfl | rfl | rfl | rfl | rfl | rfl | rfl <;> exact ownT (by decide +kernel) hT
/-- what may stand on the right -/
def rOk (Cl : Addr) : D → Prop
  | .obj C _ => C = Cl
  | .scr _ => False
  | _ => True
theorem rOk_ty {Cl : Addr} {c : Cfg} {H : Hp} {v : V} {d : D} (r : Rp c H v d) (h : rOk Cl d) : (∃ b dy gs, v = .ref b ∧ H b = some (.ins Cl dy gs)) ∨ ∃ T, isB T ∧ TyX c.K H v (.type T) := by
  cases z : bT d with
  | some T => exact .inr ⟨T, bT_isB z, rp_bT r z⟩
  | none =>
    cases r with
    | obj nf hh rf =>
      cases (show _ = Cl from h)
      exact .inl ⟨_, _, _, rfl, hh⟩
    | scr _ _ => exact h.elim
    | _ => cases z
section
variable {X : Cx} {W : WX} {xw : XW} {K : PySem.W.Frag} {pos : Pos}
section
variable {Ct : Ctr} {Cl g : Addr} {fd : FuncData} {ps : List Str} {k : Nat} {a b : Expr} {ta tb : TE} {da db : DE}
abbrev spB (Ct : Ctr) (K : PySem.W.Frag) : Sp := fun vs H Q E => Ct.sp K (vs ++ []) H Q E
/-! ### o + x -/
def dOpO (Ct : Ctr) (Cl : Addr) (xw : XW) (a b : DE) : DE := fun Γ k => a Γ fun s => b Γ fun t => match s, t with
  | .d (.obj C fs), .d y => C = Cl ∧ rOk Cl y ∧ Ct.f [.d (.obj C fs), .d y] k fun A p => xw A p Γ
  | _, _ => False
theorem pd_opO {op : Operator} (oo : OwnOp X.K Cl g op) (F : FnOk X.prog X.w X.K X.mg X.base (L2.CX X.prog X.w) k g fd ps (Ct.sp X.K)) (hr : Room k X.A) (hb : Binds X.K fd ps []) (hn : Ct.n = 2) (hT : ∀ T, isB T → OwnOpT X.K Cl op T) (x : PD X W xw a ta da) (y : PD X W xw b tb db) :
    PD X W xw (.BinOp a op b pos) (tOpS (rOwnB X.K Cl op (spB Ct X.K) (WE W)) ta tb) (dOpO Ct Cl xw da db) :=
  ⟨fun tk => pe_opS (op_ownB oo (F.raw hb .nil) hr (fun σ => passAt tk σ)) (x.pe tk) (y.pe tk), fun c eK hW Γ k hk σ H st Q q => x.li c eK hW Γ _ hk σ H st _ fun v s H1 g1 r1 h1 => y.li c eK hW Γ _ h1 σ H1 (st.go g1) _ fun u t H2 g2 r2 h2 => by
    try dsimp only at h2
    split at h2
    · obtain ⟨e0, hy, hf⟩ := h2
      subst e0
      have r1' := r1.go g2.keep
      have pr : Paired (fun v s => SlOk c H2 (some v) s) [v, u] [_, _] := .cons r1' (.cons r2 .nil)
      obtain ⟨w, ew, rw⟩ := r1'
      cases ew
      obtain ⟨w2, ew2, rw2⟩ := r2
      cases ew2
      cases rw with
      | obj nf hh rf =>
        refine ⟨_, _, _, rfl, hh, ?_, c, _, eK, g2.inv, pr, hn.symm, Ct.mono (fun s ks v H' g' r' => q v s H' ((g1.trans g2).trans g') r' ks) (fun A pp z d H' g' x' => hW σ H' Γ A d pp (st.go ((g1.trans g2).trans g')) x' z) hf⟩
        rcases rOk_ty rw2 hy with z | ⟨T, hB, ty⟩
        · exact .inl z
        · exact .inr ⟨T, by rw [← eK]; exact ty, hT T hB⟩
    · exact h2.elim⟩
/-! ### o == x, o != x; what is no instance is compared as before -/
def rOr (r r' : R2) : R2 := fun x y H Q => r x y H Q ∨ r' x y H Q
theorem op_or {X : Cx} {f : Value → Value → Sem Value} {r r' : R2} (h : OpR X f r) (h' : OpR X f r') : OpR X f (rOr r r') := fun pins s σ H x y v u Q I rx ry z => z.elim (h pins s σ H x y v u Q I rx ry) (h' pins s σ H x y v u Q I rx ry)
def gEqO (Ct : Ctr) (Cl : Addr) (f : Bool → Bool) (gp : Sl → Sl → DK → Prop) : Sl → Sl → DK → Prop := fun s t k => match s with
  | .d (.obj C fs) => (match t with
    | .d y => C = Cl ∧ rOk Cl y ∧ Ct.f [.d (.obj C fs), .d y] (fun u => ∃ b, u = .d (.bl b) ∧ k (.d (.bl (f b)))) fun _ _ => False
    | _ => False)
  | s => gp s t k
theorem o2_eqO {f : Bool → Bool} {rp : R2} {gp : Sl → Sl → DK → Prop} (hn : Ct.n = 2) (o : O2 K rp gp) : O2 K (rOr (rOwnE K Cl (spB Ct K) E0 f) rp) (gEqO Ct Cl f gp) := fun c H x y s t k Q eK hi rs rt h q => by
  unfold gEqO at h
  split at h
  · split at h
    · obtain ⟨e0, hy, hf⟩ := h
      subst e0
      refine .inl ?_
      have pr : Paired (fun v s => SlOk c H (some v) s) [x, y] [_, _] := .cons rs (.cons rt .nil)
      obtain ⟨w, ew, rw⟩ := rs
      cases ew
      obtain ⟨w2, ew2, rw2⟩ := rt
      cases ew2
      have fin : ∀ t, PySem.W.notFirst K _ t = true → ((∃ b dy gs, y = .ref b ∧ H b = some (.ins _ dy gs) ∧ t = .ref _) ∨ TyX K H y t) → rOwnE K _ (spB Ct K) E0 f x y H Q := fun t nf ty => by
        cases rw with
        | obj nf' hh rf =>
          exact ⟨_, _, _, t, rfl, hh, ty, nf, c, _, eK, hi, pr, hn.symm, Ct.mono (fun s ks v H' g' r' => by
            obtain ⟨b, rfl, kb⟩ := ks
            exact ⟨b, sl_bl r', q _ (.d (.bl (f b))) H' g' ⟨_, rfl, .bl _⟩ kb⟩) (fun A pp z => z.elim) hf⟩
      rcases rOk_ty rw2 hy with ⟨b, dy, gs, ey, hb⟩ | ⟨T, hB, ty⟩
      · exact fin _ first_self (.inl ⟨b, dy, gs, ey, hb, rfl⟩)
      · exact fin _ (first_isB hB) (.inr (by rw [← eK]; exact ty))
    · exact h.elim
  · exact .inr (o c H x y s t k Q eK hi rs rt h q)
theorem pd_eqO (c : OwnEqC X.K Cl g) (F : FnOk X.prog X.w X.K X.mg X.base (L2.CX X.prog X.w) k g fd ps (Ct.sp X.K)) (hr : Room k X.A) (hb : Binds X.K fd ps []) (hn : Ct.n = 2) (x : PD X W xw a ta da) (y : PD X W xw b tb db) :
    PD X W xw (.Compare a [.Eq] [b] pos) (tOp (rOr (rOwnE X.K Cl (spB Ct X.K) E0 fun c => c) (rEqD X.K)) ta tb) (dOp (gEqO Ct Cl (fun c => c) gEq) da db) :=
  ⟨fun tk => pe_cmpR (op_or (op_ownE c (F.raw hb .nil) hr passL) (op_eqD hr.units)) (x.pe tk) (y.pe tk) (nomark _), li_op (o2_eqO hn o2_eq) x.li y.li⟩
theorem pd_neO (c : OwnEqC X.K Cl g) (F : FnOk X.prog X.w X.K X.mg X.base (L2.CX X.prog X.w) k g fd ps (Ct.sp X.K)) (hr : Room (k + 1) X.A) (hb : Binds X.K fd ps []) (hn : Ct.n = 2) (x : PD X W xw a ta da) (y : PD X W xw b tb db) :
    PD X W xw (.Compare a [.NotEq] [b] pos) (tOp (rOr (rOwnE X.K Cl (spB Ct X.K) E0 fun c => !c) (rNeD X.K)) ta tb) (dOp (gEqO Ct Cl (fun c => !c) gNe) da db) :=
  ⟨fun tk => pe_cmpR (op_or (op_ownN c (F.raw hb .nil) hr passL) (op_neD hr.units)) (x.pe tk) (y.pe tk) (nomark _), li_op (o2_eqO hn o2_ne) x.li y.li⟩
theorem pdt_eqO (c : OwnEqC X.K Cl g) (F : FnOk X.prog X.w X.K X.mg X.base (L2.CX X.prog X.w) k g fd ps (Ct.sp X.K)) (hr : Room k X.A) (hb : Binds X.K fd ps []) (hn : Ct.n = 2) (x : PD X W xw a ta da) (y : PD X W xw b tb db) :
    PDT X W xw (.Compare a [.Eq] [b] pos) (tTest (tOp (rOr (rOwnE X.K Cl (spB Ct X.K) E0 fun c => c) (rEqD X.K)) ta tb)) (dB (dOp (gEqO Ct Cl (fun c => c) gEq) da db)) := pdt_cmp (op_or (op_ownE c (F.raw hb .nil) hr passL) (op_eqD hr.units)) (o2_eqO hn o2_eq) x y (nomark _)
theorem pdt_neO (c : OwnEqC X.K Cl g) (F : FnOk X.prog X.w X.K X.mg X.base (L2.CX X.prog X.w) k g fd ps (Ct.sp X.K)) (hr : Room (k + 1) X.A) (hb : Binds X.K fd ps []) (hn : Ct.n = 2) (x : PD X W xw a ta da) (y : PD X W xw b tb db) :
    PDT X W xw (.Compare a [.NotEq] [b] pos) (tTest (tOp (rOr (rOwnE X.K Cl (spB Ct X.K) E0 fun c => !c) (rNeD X.K)) ta tb)) (dB (dOp (gEqO Ct Cl (fun c => !c) gNe) da db)) := pdt_cmp (op_or (op_ownN c (F.raw hb .nil) hr passL) (op_neD hr.units)) (o2_eqO hn o2_ne) x y (nomark _)
end
end
end Dv
set_option Elab.async false
set_option linter.all false
set_option maxRecDepth 100000
set_option maxHeartbeats 4000000
namespace L2
open PySem PySem.W PyProof.Rows
/-- f"{a:+d}" -/
def plus (a : Int) : PySem.Str := if a < 0 then PySem.Str.ofString (toString a) else (⟨#[43]⟩ : PySem.Str) ++ PySem.Str.ofString (toString a)
def fPlus : Builtin.Float.FormatSpec := { align := 62, sign := some 43, type := some 100 }
theorem text_neg (m : Nat) : PySem.Str.ofString (toString (Int.negSucc m)) = ⟨(45 :: (Nat.toDigits 10 (m + 1)).map Char.toNat).toArray⟩ := by
  show PySem.Str.ofString ("-" ++ Nat.repr (m + 1)) = _
  rw [PySem.Str.ofString_eq_toList]
  simp [Nat.repr]
theorem field_plus (a : Int) : intField' fPlus (decide (a < 0)) [] ((Nat.toDigits 10 a.natAbs).map Char.toNat) [] 3 = plus a := by
  have hd : ((Nat.toDigits 10 a.natAbs).map Char.toNat).isEmpty = false := by
    cases h : Nat.toDigits 10 a.natAbs with
    | nil =>
      have := Nat.length_toDigits_pos (b := 10) (n := a.natAbs)
      rw [h] at this
      simp at this
    | cons _ _ => rfl
  unfold plus
  cases a with
  | ofNat m =>
    have nn : ¬ (Int.ofNat m < 0) := Int.not_lt.mpr (Int.natCast_nonneg m)
    rw [if_neg nn, text_ofNat]
    have hd' : ((Nat.toDigits 10 m).map Char.toNat).isEmpty = false := hd
    have e : (Int.ofNat m).natAbs = m := rfl
    have e2 : decide (Int.ofNat m < 0) = false := decide_eq_false nn
    unfold intField' fPlus
    rw [e, e2]
    simp [hd']
    show PySem.Str.mk _ = PySem.Str.mk (#[43] ++ (List.map Char.toNat (Nat.toDigits 10 m)).toArray)
    congr 1
    simp
  | negSucc m =>
    rw [if_pos (by omega), text_neg]
    have e : (Int.negSucc m).natAbs = m + 1 := rfl
    have hd' : ((Nat.toDigits 10 (m + 1)).map Char.toNat).isEmpty = false := hd
    have e2 : decide (Int.negSucc m < 0) = true := decide_eq_true (by omega)
    unfold intField' fPlus
    rw [e, e2]
    simp [hd']
theorem plus_len {a : Int} (h : a.natAbs.log2 < 1920) : (plus a).length ≤ 1000 := by
  have h1 : a.natAbs < 10 ^ 900 := by
    by_cases z : a.natAbs = 0
    · rw [z]; exact Nat.pow_pos (by decide)
    · exact Nat.lt_trans (Nat.lt_of_lt_of_le (Nat.lt_log2_self (n := a.natAbs)) (Nat.pow_le_pow_right (by decide) h)) (by decide +kernel)
  have h2 : (Nat.toDigits 10 a.natAbs).length ≤ 900 := by
    have e := (Nat.length_repr_le_iff (n := a.natAbs) (by decide : 0 < 900)).mpr h1
    rwa [← String.length_toList, Nat.toList_repr] at e
  unfold plus
  cases a with
  | ofNat m =>
    have nn : ¬ (Int.ofNat m < 0) := Int.not_lt.mpr (Int.natCast_nonneg m)
    rw [if_neg nn, text_ofNat]
    have h3 : (Nat.toDigits 10 m).length ≤ 900 := h2
    show (#[43] ++ (List.map Char.toNat (Nat.toDigits 10 m)).toArray).size ≤ 1000
    clear h1 h2 h
    simp
    omega
  | negSucc m =>
    rw [if_pos (by omega), text_neg]
    have h3 : (Nat.toDigits 10 (m + 1)).length ≤ 900 := h2
    simp [PySem.Str.length]
    omega
theorem fmt_plus {a : Int} {t u : Tok} (hd : a.natAbs.log2 < 1920) : Meets (Builtin.«int.__format__» ⟨[.int a t, .str ("+d" : PySem.Str) u], []⟩) (fun _ R s => ∀ t' k, R (.ok (.ret (.str (plus a) t'))) { s with toks := k }) := by
  apply KPc.meets_of
  intro prog w A s Q E hq
  unfold Builtin.«int.__format__»
  refine wpAny_bind (wpAny_of_eq (a := (_, _)) rfl ?_)
  refine wpAny_bind (wpAny_of_eq (a := _) rfl ?_)
  kxf_if
  refine wpAny_bind (wpAny_typeNameOf (T := "str") (typeIs_str _ _ _) (by decide) fun _ => ?_)
  refine wpAny_bind (wpAny_of_eq (a := some _) rfl ?_)
  kxf_if
  kxf_if
  refine wpAny_bind (wpAny_typeNameOfCut_int ?_)
  (repeat kxf_if)
  refine wpAny_bind (wpAny_of_eq (PyProof.Rows.overDigitLimit_small hd) ?_)
  (repeat kxf_if)
  have eq := field_plus a
  have hL := plus_len hd
  rw [← eq] at hL
  refine KXf.ret_text (T := plus a) (.trans ?_ eq) (Nat.le_trans ?_ (show 1000 ≤ sizeLine by decide)) hq
  · rfl
  · exact hL
end L2
set_option Elab.async false
set_option linter.all false
set_option maxRecDepth 100000
set_option maxHeartbeats 4000000
/-! Do3: f-strings, instances called, static methods, isinstance of an own class, f(), lists repeated. -/
namespace L2
open PySem PySem.Spec PyProof.Rows
section
variable {X : Cx}
/-- {x:+d} -/
def tFmtP (te : TE) : TE := fun σ H Q => te σ H fun x H1 => ∃ i : Int, x = .int i ∧ i.natAbs.log2 < 1920 ∧ Q (.str (plus i)) H1
theorem pe_fmtP {e : Expr} {te : TE} {j : _} {p1 p2 pos : Pos} (he : PE X e te) : PE X (.FormattedValue e (-1) (some (.JoinedStr [.Constant (.str "+d") j p1] p2)) pos) (tFmtP te) := by
  have hc : PE X (.JoinedStr [.Constant (.str "+d") j p1] p2) (tC (.str "+d")) := pe_joined1 pe_str
  refine ⟨fun pins s σ H Q I h => ?_⟩
  refine wpAny_FormattedValue_spec (thn (he.run pins s σ H _ I h) fun v s1 hv => ?_)
  obtain ⟨x, H1, I1, r1, i, rfl, hz, q⟩ := hv
  obtain ⟨t, rfl⟩ := r1
  refine thn (hc.run pins s1 σ H1 (fun y H2 => y = .str "+d" ∧ H2 = H1) I1 ⟨rfl, rfl⟩) fun r s2 hr => ?_
  obtain ⟨y, H2, I2, r2, rfl, rfl⟩ := hr
  obtain ⟨t2, rfl⟩ := r2
  exact ⟨_, _, rfl, PySem.W.KXf.field_int rfl (by decide) (by decide) (fun u => fmt_plus hz) fun t' k => ⟨.str (plus i), H2, I2.tok _, ⟨_, rfl⟩, q⟩⟩
end
end L2
namespace Dv
open PySem L2
section
variable {X : Cx} {W : WX} {xw : XW} {K : PySem.W.Frag} {pos : Pos}
/-! ### f-strings -/
def dFmt (e : DE) : DE := fun Γ k => e Γ fun s => match s with
  | .d (.str y) => y.length ≤ 100000 ∧ k (.d (.str y))
  | .d (.int i) => i.natAbs.log2 < 1920 ∧ k (.d (.str (Str.ofString (toString i))))
  | _ => False
theorem pd_fmt {e : Expr} {te : TE} {de : DE} (h : PD X W xw e te de) : PD X W xw (.FormattedValue e (-1) none pos) (tFmt te) (dFmt de) :=
  ⟨fun tk => pe_fmt (h.pe tk), fun c eK hW Γ k hk σ H st Q q => h.li c eK hW Γ _ hk σ H st _ fun v s H1 g r h1 => by
    try dsimp only at h1
    split at h1
    · exact .inl ⟨_, sl_str r, sz h1.1, q _ (.d (.str _)) H1 g ⟨_, rfl, .str _⟩ h1.2⟩
    · exact .inr ⟨_, sl_int r, h1.1, q _ (.d (.str _)) H1 g ⟨_, rfl, .str _⟩ h1.2⟩
    · exact h1.elim⟩
def dFmtP (e : DE) : DE := fun Γ k => e Γ fun s => match s with
  | .d (.int i) => i.natAbs.log2 < 1920 ∧ k (.d (.str (plus i)))
  | _ => False
theorem pd_fmtP {e : Expr} {te : TE} {de : DE} {j : _} {p1 p2 : Pos} (h : PD X W xw e te de) : PD X W xw (.FormattedValue e (-1) (some (.JoinedStr [.Constant (.str "+d") j p1] p2)) pos) (tFmtP te) (dFmtP de) :=
  ⟨fun tk => pe_fmtP (h.pe tk), fun c eK hW Γ k hk σ H st Q q => h.li c eK hW Γ _ hk σ H st _ fun v s H1 g r h1 => by
    try dsimp only at h1
    split at h1
    · exact ⟨_, sl_int r, h1.1, q _ (.d (.str _)) H1 g ⟨_, rfl, .str _⟩ h1.2⟩
    · exact h1.elim⟩
structure PDJ (X : Cx) (W : WX) (xw : XW) (es : List Expr) (ts : List TE) (ds : List DE) : Prop where
  pj : Takes X W → PJ X es ts
  li : Paired (Li X.K W xw) ts ds
theorem pdj_nil : PDJ X W xw [] [] [] := ⟨fun _ => .nil, .nil⟩
theorem pdj_cons {e : Expr} {t : TE} {d : DE} {es : List Expr} {ts : List TE} {ds : List DE} (h : PD X W xw e t d) (r : PDJ X W xw es ts ds) : PDJ X W xw (e :: es) (t :: ts) (d :: ds) := ⟨fun tk => .cons (h.pe tk) (r.pj tk), .cons h.li r.li⟩
def dJs : List DE → Str → Gm → (Str → Prop) → Prop
  | [], acc, _, k => k acc
  | d :: ds, acc, Γ, k => d Γ fun s => match s with
    | .d (.str y) => (acc ++ y).length ≤ 100000 ∧ dJs ds (acc ++ y) Γ k
    | _ => False
theorem li_js {W : WX} {xw : XW} {c : Cfg} {σ : St} {Γ : Gm} {ts : List TE} {ds : List DE} (hW : WOk c W xw) (h : Paired (Li c.K W xw) ts ds) : ∀ (acc : Str) (H : Hp) (k : Str → Prop) (Q : Str → Hp → Prop), StOk c σ H Γ → dJs ds acc Γ k → (∀ y H2, Go c H H2 → k y → Q y H2) → tJs ts acc σ H Q := by
  induction h with
  | nil => exact fun acc H k Q st hk q => q acc H (Go.self st.inv) hk
  | cons a b ih =>
    intro acc H k Q st hk q
    refine a c rfl hW Γ _ hk σ H st _ fun v s H1 g r h1 => ?_
    try dsimp only at h1
    split at h1
    · exact ⟨_, sl_str r, sz h1.1, ih _ H1 k Q (st.go g) h1.2 fun y H2 g2 ky => q y H2 (g.trans g2) ky⟩
    · exact h1.elim
def dJoin (ds : List DE) : DE := fun Γ k => dJs ds Str.empty Γ fun y => k (.d (.str y))
theorem pd_joined {v1 v2 : Expr} {rest : List Expr} {ts : List TE} {ds : List DE} (h : PDJ X W xw (v1 :: v2 :: rest) ts ds) : PD X W xw (.JoinedStr (v1 :: v2 :: rest) pos) (fun σ H Q => tJs ts Str.empty σ H fun out H1 => Q (.str out) H1) (dJoin ds) :=
  ⟨fun tk => pe_joined (h.pj tk), fun c eK hW Γ k hk σ H st Q q => by
    have l := h.li
    rw [← eK] at l
    exact li_js hW l Str.empty H _ _ st hk fun y H2 g ky => q _ (.d (.str y)) H2 g ⟨_, rfl, .str _⟩ ky⟩
/-! ### str(i) -/
def gStrI : List Sl → DK → Prop := fun ss k => match ss with
  | [.d (.int i)] => i.natAbs.log2 < 1920 ∧ k (.d (.str (Str.ofString (toString i))))
  | _ => False
theorem oc_strI : OC K (fun xs H Q => ∃ i, xs = [V.int i] ∧ i.natAbs.log2 < 1920 ∧ Q (.str (Str.ofString (toString i))) H) gStrI := fun c H vs ss k Q eK hi r h q => by
  unfold gStrI at h
  split at h
  · obtain ⟨v, rfl, rr⟩ := paired1 r
    have e := sl_int rr
    subst e
    exact ⟨_, rfl, h.1, q _ (.d (.str _)) H (Go.self hi) ⟨_, rfl, .str _⟩ h.2⟩
  · exact h.elim
/-! ### f() -/
theorem pd_call0 {C : Ctr} {f : Addr} {fd : FuncData} {ps : List Str} {k : Nat} {x : Str} {p : Pos} (F : FnOk X.prog X.w X.K X.mg X.base (L2.CX X.prog X.w) k f fd ps (C.sp X.K)) (hr : Room k X.A) (hm : X.mg x = some (.ref f)) (hk : PySem.W.keepIn X.K (.ref f) = true) (hb : Binds X.K fd ps []) (hg : Gl X x := by rfl)
    (hdb : (x == ("__debug__" : Str)) = false := by decide) : PD X W xw (.Call (.Name x p) [] [] pos) (tCall (C.sp X.K) [] E0 tNil) (dCall C xw0 dNil) :=
  ⟨fun tk => pe_call0 F hr hg hm hk hb .nil passL hdb, fun c eK hW Γ k hd σ H st Q q => by
    exact ⟨c, [], eK, st.inv, .nil, hd.1, C.mono (fun s ks v H' g' r' => q v s H' g' r' ks) (fun _ _ z => z.elim) hd.2⟩⟩
/-! ### [..] * n -/
def dRep (a : DA) (b : DE) : DE := fun Γ k => a Γ fun ss => match unD ss with
  | some ds => ds.length ≤ 100000 ∧ b Γ fun t => (match t with
    | .d (.int n) => -(2 ^ 63) ≤ n ∧ n < 2 ^ 63 ∧ ds.length * n.toNat ≤ 100000 ∧ k (.d (.lst (List.replicate n.toNat ds).flatten))
    | _ => False)
  | none => False
theorem rp_rep {c : Cfg} {H : Hp} {vs : List V} {ds : List D} (r : RpAll c H vs ds) : ∀ n : Nat, RpAll c H (List.replicate n vs).flatten (List.replicate n ds).flatten
  | 0 => .nil
  | n + 1 => by
    rw [List.replicate_succ, List.replicate_succ, List.flatten_cons, List.flatten_cons]
    exact RpAll.append r (rp_rep r n)
theorem pd_rep {es : List Expr} {b : Expr} {ta : TA} {tb : TE} {da : DA} {db : DE} {p : Pos} (a : PDA X W xw es ta da) (y : PD X W xw b tb db) : PD X W xw (.BinOp (.List es p) .Mult b pos) (tOp rRep (tLst ta) tb) (dRep da db) :=
  ⟨fun tk => pe_op op_rep (pe_lst (a.pa tk)) (y.pe tk), fun c eK hW Γ k hk σ H st Q q => a.li c eK hW Γ _ hk σ H st _ fun vs ss H1 g1 r1 h1 => by
    try dsimp only at h1
    split at h1
    · rename_i ds e
      have rr := unD_ok r1 e
      refine ⟨by rw [rr.length]; exact sz h1.1, fun p np => ?_⟩
      have g2 := Go.new (o := .lst vs) g1.inv np
      refine y.li c eK hW Γ _ h1.2 σ _ ((st.go g1).go g2) _ fun u t H2 g3 r2 h2 => ?_
      try dsimp only at h2
      split at h2
      · obtain ⟨b1, b2, b3, hk⟩ := h2
        have nF := c.fresh g1.inv np
        refine ⟨p, _, vs, rfl, sl_int r2, g3.keep p _ (fun z => nF (c.GF z)) upd_same, b1, b2, by rw [rr.length]; exact sz b3, fun p2 np2 => ?_⟩
        have rr2 := (rr.go g2.kF).go g3.kF
        exact q _ (.d (.lst _)) _ (((g1.trans g2).trans g3).trans (Go.new g3.inv np2)) ⟨_, rfl, rp_newL g3.inv np2 (rp_rep rr2 _)⟩ hk
      · exact h2.elim
    · exact h1.elim⟩
end
end Dv
set_option Elab.async false
set_option linter.all false
set_option maxRecDepth 100000
set_option maxHeartbeats 4000000
/-! Do4: instances called, static methods, isinstance of an own class. -/
namespace Dv
open PySem L2
section
variable {X : Cx} {W : WX} {xw : XW} {K : PySem.W.Frag} {pos : Pos}
variable {Ct : Ctr} {Cl g : Addr} {fd : FuncData} {ps : List Str} {k : Nat} {e fe o : Expr} {es : List Expr} {ta : TA} {da : DA} {tf to : TE} {df do_ : DE}
/-! ### o(..) -/
def dCallO (Ct : Ctr) (Cl : Addr) (xw : XW) (f : DE) (a : DA) : DE := fun Γ k => f Γ fun s => match s with
  | .d (.obj C fs) => C = Cl ∧ a Γ fun ss => (ss.length + 1 = Ct.n) ∧ Ct.f (.d (.obj C fs) :: ss) k fun A p => xw A p Γ
  | _ => False
theorem pd_callO (c : StX.CallO X.K Cl g) (F : FnOk X.prog X.w X.K X.mg X.base (L2.CX X.prog X.w) k g fd ps (Ct.sp X.K)) (hr : Room k X.A) (hb : Binds X.K fd ps []) (f : PD X W xw fe tf df) (a : PDA X W xw (e :: es) ta da)
    (ht : eval (.Call fe (e :: es) [] pos) X.env = (do callWith pos (← eval fe X.env) [] (backTo pos (starEach (e :: es) X.env)) (backToKw pos (keywordEach [] X.env))) := by rfl)
    (he : starEach (e :: es) X.env = (false, eval e X.env) :: starEach es X.env := by rfl) (hpl : (backTo pos (starEach es X.env)).any (·.1) = false := by rfl) :
    PD X W xw (.Call fe (e :: es) [] pos) (tCallOS Cl (spB Ct X.K) (WE W) tf ta) (dCallO Ct Cl xw df da) :=
  ⟨fun tk => pe_callOS (f.pe tk) c (F.raw hb .nil) hr (fun σ => passAt tk σ) (a.pa tk) ht he hpl, fun cc eK hW Γ k hk σ H st Q q => f.li cc eK hW Γ _ hk σ H st _ fun v s H1 g1 r1 h1 => by
    try dsimp only at h1
    split at h1
    · obtain ⟨e0, h1⟩ := h1
      subst e0
      obtain ⟨w, ew, rw⟩ := r1
      cases ew
      cases rw with
      | obj nf hh rf =>
        refine ⟨_, rfl, a.li cc eK hW Γ _ h1 σ H1 (st.go g1) _ fun vs ss H2 g2 r2 h2 => ⟨⟨_, _, g2.keep _ _ (fun z => nf (cc.GF z)) hh⟩, ?_⟩⟩
        have ro : Rp cc H2 _ _ := (Rp.obj nf hh rf).go g2.kF
        refine ⟨cc, .d (.obj _ _) :: ss, eK, g2.inv, ?_, h2.1, Ct.mono (fun s ks v H' g' r' => q v s H' ((g1.trans g2).trans g') r' ks) (fun A pp z d H' g' x' => hW σ H' Γ A d pp (st.go ((g1.trans g2).trans g')) x' z) h2.2⟩
        rw [List.append_nil]
        exact .cons ⟨_, rfl, ro⟩ r2
    · exact h1.elim⟩
/-! ### C.m(..), m static -/
def dSM (Ct : Ctr) (xw : XW) (a : DA) : DE := fun Γ k => a Γ fun ss => ss.length = Ct.n ∧ Ct.f ss k fun A p => xw A p Γ
theorem pd_sm {x m : Str} {mc : Value} {p0 : Addr} {pl : Sem Bool} {p apos : Pos} (c : SMet X.K Cl mc m p0 g) (F : FnOk X.prog X.w X.K X.mg X.base (L2.CX X.prog X.w) k g fd ps (Ct.sp X.K)) (hr : Room k X.A) (hb : Binds X.K fd ps []) (hm : X.mg x = some (.ref Cl)) (a : PDA X W xw (e :: es) ta da)
    (hg : Gl X x := by rfl) (hd : (x == ("__debug__" : Str)) = false := by decide) (hst : starEach (e :: es) X.env = (false, eval e X.env) :: starEach es X.env := by rfl) (hpl : (backTo pos (starEach es X.env)).any (·.1) = false := by rfl)
    (ht : eval (.Call (.Attribute (.Name x p) m apos) (e :: es) [] pos) X.env = (do
      let ov ← eval (.Name x p) X.env
      standAt apos.atName
      let (f, first) ← holding [ov] (getMethod ov m pl)
      callWith pos f first (backTo pos (starEach (e :: es) X.env)) (backToKw pos (keywordEach [] X.env))) := by rfl) :
    PD X W xw (.Call (.Attribute (.Name x p) m apos) (e :: es) [] pos) (tSMeth Cl (spB Ct X.K) (WE W) (tC (.ref Cl)) ta) (dSM Ct xw da) :=
  ⟨fun tk => pe_smeth (pe_glob hg hm rfl hd) c (F.raw hb .nil) hr (fun σ => passAt tk σ) (a.pa tk) hst hpl ht, fun cc eK hW Γ k hk σ H st Q q => ⟨rfl, a.li cc eK hW Γ _ hk σ H st _ fun vs ss H1 g r h => by
    refine ⟨cc, ss, eK, g.inv, by rw [List.append_nil]; exact r, h.1, Ct.mono (fun s ks v H' g' r' => q v s H' (g.trans g') r' ks) (fun A pp z d H' g' x' => hW σ H' Γ A d pp (st.go (g.trans g')) x' z) h.2⟩⟩⟩
/-! ### isinstance(x, C) -/
def isC (Cl : Addr) : D → Bool
  | .obj C _ => decide (C = Cl)
  | _ => false
def gIsC (Cl : Addr) : List Sl → DK → Prop := fun ss k => match ss with
  | [.d x, .v (.ref C)] => C = Cl ∧ rOk Cl x ∧ k (.d (.bl (isC Cl x)))
  | _ => False
/-- what K says of the class for isinstance -/
structure IsOwn (K : PySem.W.Frag) (Cl : Addr) : Prop where
  ins : C8.InsC K Cl
  cls : (PySem.W.clsIn K Cl).isSome = true
  ty : PySem.W.typeIn K (.ref Cl) = some (.type "type")
theorem kit_own {K : PySem.W.Frag} {Cl : Addr} {T : String} (h : IsOwn K Cl) (hT : isB T) : PySem.W.kitOne K (.type T) (.ref Cl) = some false := by
  show (if (Value.type T == Value.ref Cl) = true then some true else if ((PySem.W.clsIn K Cl).isSome && PySem.W.typeIn K (.ref Cl) == some (.type "type")) = true then PySem.W.subIn K (.type T) (.ref Cl) else none) = some false
  rw [if_neg (show ¬ ((Value.type T == Value.ref Cl) = true) from Bool.false_ne_true), if_pos (by rw [h.cls, h.ty]; rfl)]
  exact sub_isB hT
def rIsC (K : PySem.W.Frag) (Cl : Addr) : List V → Hp → VK → Prop := fun xs H Q => rIsi K xs H Q ∨ ∃ a dx fs, xs = [.ref a, .ref Cl] ∧ H a = some (.ins Cl dx fs) ∧ Q (.bl true) H
theorem call_isOwn (h : IsOwn X.K Cl) : CallR X (.builtin "isinstance") (rIsC X.K Cl) := fun pins s σ H xs us Q I r z => z.elim (call_isi pins s σ H xs us Q I r) (C8.call_isC h.ins pins s σ H xs us Q I r)
theorem oc_isC (h : IsOwn K Cl) : OC K (rIsC K Cl) (gIsC Cl) := fun c H vs ss k Q eK hi r hg q => by
  unfold gIsC at hg
  split at hg
  · rename_i x C
    obtain ⟨e0, ho, hk⟩ := hg
    subst e0
    obtain ⟨v, w, rfl, ⟨z, ez, rr⟩, r2⟩ := paired2 r
    cases ez
    have ew : V.ref C = w := (Option.some.inj r2).symm
    subst ew
    cases zz : bT x with
    | some T =>
      have hB := bT_isB zz
      have ei : isC C x = false := by cases x <;> first | rfl | cases zz
      rw [ei] at hk
      exact .inl ⟨_, _, _, _, _, rfl, .own _, by rw [← eK]; exact rp_bT rr zz, kit_own h hB, q _ (.d (.bl false)) H (Go.self hi) ⟨_, rfl, .bl _⟩ hk⟩
    | none =>
      cases rr with
      | obj nf hh rf =>
        have e1 : _ = C := ho
        subst e1
        have ei : ∀ (c : Addr) (f : List (Str × D)), isC c (.obj c f) = true := fun c f => decide_eq_true rfl
        rw [ei] at hk
        exact .inr ⟨_, _, _, rfl, hh, q _ (.d (.bl true)) H (Go.self hi) ⟨_, rfl, .bl _⟩ hk⟩
      | scr _ _ => exact ho.elim
      | _ => cases zz
  · exact hg.elim
end
end Dv
set_option Elab.async false
set_option linter.all false
set_option maxRecDepth 100000
set_option maxHeartbeats 4000000
/-! Dc: what the top has written of a class. -/
namespace Dv
open PySem L2
structure MetAt (K : PySem.W.Frag) (x qual : Str) (st : Stmt) (ps : List Str) (f : Addr) (fd : FuncData) : Prop where
  F : FunD K x qual st f fd
  b : Binds K fd ps []
structure ClsAt (K : PySem.W.Frag) (mg : Str → Option Value) (x : Str) (C : Addr) : Prop where
  gC : mg x = some (.ref C)
  cl : Cls K C
  is : IsOwn K C
/-- a method without defaults -/
theorem met_mk {K : PySem.W.Frag} {x qual : Str} {st : Stmt} {ps : List Str} {f : Addr} {fd : FuncData} (F : Fun K x qual st f fd) (b : Binds K fd ps []) : MetAt K x qual st ps f fd := ⟨.of F, b⟩
/-- a method with one default, an int -/
structure MetAt1 (K : PySem.W.Frag) (x qual : Str) (st : Stmt) (ps : List Str) (i : Int) (f : Addr) (fd : FuncData) : Prop where
  F : FunD K x qual st f fd
  b : Binds K fd ps []
  b1 : ∃ ds, Vals [V.int i] ds ∧ Binds K fd ps ds
theorem met_mk1 {K : PySem.W.Frag} {x qual : Str} {st : Stmt} {ps : List Str} {i : Int} {f T : Addr} {oc ot : Value} {od an ot2 : Option Addr} {osl tsl : Array (Option Value)} {kV doc pm cdv ct u : Value} {m n : Nat} (l : K.lookup f = some ⟨oc, od, .func (PySem.W.fnOf x qual (defArgs st) (defBody st) (defScope st) (.ref T) kV doc pm an cdv ct), osl⟩)
    (c : PySem.W.codeIn K cdv qual = true) (k : PySem.W.keepIn K (.ref f) = true) (lT : K.lookup T = some ⟨ot, ot2, .seq #[u] m, tsl⟩) (ru : RelV (.int i) u) (hn : n + 1 = ps.length)
    (h0 : ∀ (T : Addr) (kV doc pm : Value) (an : Option Addr) (cdv ct : Value) (us its : List Value), us.length = n + 1 → its.length = 1 →
      ∃ k, bindArgs (PySem.W.fnOf x qual (defArgs st) (defBody st) (defScope st) (.ref T) kV doc pm an cdv ct) ⟨us, []⟩ = seqItems? (.ref T) >>= k ∧ k (some its.toArray) = pure (ps.zip (us ++ its.drop 1)))
    (h1 : ∀ (T : Addr) (kV doc pm : Value) (an : Option Addr) (cdv ct : Value) (us its : List Value), us.length = n → its.length = 1 →
      ∃ k, bindArgs (PySem.W.fnOf x qual (defArgs st) (defBody st) (defScope st) (.ref T) kV doc pm an cdv ct) ⟨us, []⟩ = seqItems? (.ref T) >>= k ∧ k (some its.toArray) = pure (ps.zip (us ++ its.drop 0))) :
    MetAt1 K x qual st ps i f (PySem.W.fnOf x qual (defArgs st) (defBody st) (defScope st) (.ref T) kV doc pm an cdv ct) := by
  have F : L2.FunD K x qual (defArgs st) (defBody st) (defScope st) [V.int i] [] f (PySem.W.fnOf x qual (defArgs st) (defBody st) (defScope st) (.ref T) kV doc pm an cdv ct) :=
    ⟨⟨_, _, _, _, _, _, _, _, _, _, rfl, l, c, .inr ⟨by simp, T, _, [u], m, rfl, lT, rfl, .cons ru .nil⟩, .inl rfl⟩, k⟩
  obtain ⟨d0, v0, b0⟩ := F.binds1 (ps := ps) (n + 1) 1 (by simp) (by simpa using hn) h0
  have e0 : d0 = [] := by
    cases v0
    rfl
  rw [e0] at b0
  exact ⟨⟨⟨_, _, _, _, _, _, _, _, _, _, rfl, l, c⟩, k⟩, b0, F.binds1 (ps := ps) n 0 (by simp) (by simpa using hn) h1⟩
section
variable {X : Cx} {W : WX} {xw : XW} {pos : Pos} {CI : CtrI} {Cl f : Addr} {fd : FuncData} {ps : List Str} {k : Nat} {x : Str} {p : Pos} {e : Expr} {es : List Expr} {ta : TA} {da : DA}
/-- C(..), every parameter given -/
theorem pd_newA (M : Mk X.K Cl f) (F : FnOk X.prog X.w X.K X.mg X.base (L2.CX X.prog X.w) k f fd ps (CI.sp X.K Cl)) (hr : Room (k + 1) X.A) (hm : X.mg x = some (.ref Cl)) (hb : Binds X.K fd ps []) (a : PDA X W xw (e :: es) ta da) (hg : Gl X x := by rfl)
    (hdb : (x == ("__debug__" : Str)) = false := by decide) (he : starEach (e :: es) X.env = (false, eval e X.env) :: starEach es X.env := by rfl) (hpl : (backTo pos (starEach es X.env)).any (·.1) = false := by rfl) :
    PD X W xw (.Call (.Name x p) (e :: es) [] pos) (tMakeS Cl (CI.sp X.K Cl) [] (WE W) ta) (dNew CI Cl [] xw da) := pd_new M F hr hm hb .nil (fun _ _ => .nil) a hg hdb he hpl
/-- C(..), the last parameter by its default -/
theorem pd_newD {i : Int} (M : Mk X.K Cl f) (F : FnOk X.prog X.w X.K X.mg X.base (L2.CX X.prog X.w) k f fd ps (CI.sp X.K Cl)) (hr : Room (k + 1) X.A) (hm : X.mg x = some (.ref Cl)) (hb : ∃ ds, Vals [V.int i] ds ∧ Binds X.K fd ps ds) (a : PDA X W xw (e :: es) ta da) (hg : Gl X x := by rfl)
    (hdb : (x == ("__debug__" : Str)) = false := by decide) (he : starEach (e :: es) X.env = (false, eval e X.env) :: starEach es X.env := by rfl) (hpl : (backTo pos (starEach es X.env)).any (·.1) = false := by rfl) :
    PD X W xw (.Call (.Name x p) (e :: es) [] pos) (tMakeS Cl (CI.sp X.K Cl) [V.int i] (WE W) ta) (dNew CI Cl [.int i] xw da) := by
  obtain ⟨ds, v, b⟩ := hb
  exact pd_new M F hr hm b v (fun _ _ => .cons (.int i) .nil) a hg hdb he hpl
end
end Dv
set_option Elab.async false
set_option linter.all false
set_option maxRecDepth 100000
set_option maxHeartbeats 4000000
/-! Dk: isinstance(x, T), x an own instance too. -/
namespace Dv
open PySem L2
/-- what K says of the class beside the built-in ones -/
structure NotB (K : PySem.W.Frag) (Cl : Addr) : Prop where
  is : IsOwn K Cl
  int : PySem.W.subIn K (.ref Cl) (.type "int") = some false
  bool : PySem.W.subIn K (.ref Cl) (.type "bool") = some false
  str : PySem.W.subIn K (.ref Cl) (.type "str") = some false
  list : PySem.W.subIn K (.ref Cl) (.type "list") = some false
  tuple : PySem.W.subIn K (.ref Cl) (.type "tuple") = some false
  dict : PySem.W.subIn K (.ref Cl) (.type "dict") = some false
def gIsX (Cl : Addr) (T : Ty) : List Sl → DK → Prop := fun ss k => match ss with
  | [.d x, .v (.ty n)] => n = T.nm ∧ rOk Cl x ∧ k (.d (.bl (isTy T x)))
  | _ => False
theorem kit_not {K : PySem.W.Frag} {Cl : Addr} (h : NotB K Cl) (T : Ty) : PySem.W.kitOne K (.ref Cl) (.type T.nm) = some false := by
  cases T
  · exact kit_sub h.int (by decide +kernel)
  · exact kit_sub h.bool (by decide +kernel)
  · exact kit_sub h.str (by decide +kernel)
  · exact kit_sub h.list (by decide +kernel)
  · exact kit_sub h.tuple (by decide +kernel)
  · exact kit_sub h.dict (by decide +kernel)
section
variable {K : PySem.W.Frag} {Cl : Addr}
theorem oc_isX (h : NotB K Cl) (T : Ty) : OC K (rIsi K) (gIsX Cl T) := fun c H vs ss k Q eK hi r hg q => by
  unfold gIsX at hg
  split at hg
  · rename_i x n
    obtain ⟨en, ho, hk⟩ := hg
    cases zz : isObj x with
    | false => exact oc_is T c H vs _ k Q eK hi r ⟨en, zz, hk⟩ q
    | true =>
      obtain ⟨v, w, rfl, ⟨z, ez, rr⟩, r2⟩ := paired2 r
      cases ez
      have ew : V.ty n = w := (Option.some.inj r2).symm
      subst ew
      subst en
      cases rr with
      | obj nf hh rf =>
        have e1 : _ = Cl := ho
        subst e1
        have i := h.is.ins
        refine ⟨_, _, _, _, _, rfl, .ty _, .base (TyOf.ins hh i.cl i.ha i.hn i.htk i.hm), kit_not h T, q _ (.d (.bl _)) H (Go.self hi) ⟨_, rfl, .bl _⟩ ?_⟩
        cases T <;> exact hk
      | scr _ _ => exact ho.elim
      | _ => cases zz
  · exact hg.elim
end
section
variable {P : Program} {w : World} {K : PySem.W.Frag} {mg : Str → Option Value} {base : Heap}
/-- fn_ok for a method, with what defaults ever -/
theorem fn_okD {x qual : Str} {st : Stmt} {f : Addr} {fd : FuncData} {N ps : List Str} {k : Nat} (C : Ctr) (F : FunD K x qual st f fd) (S : FnScope N ps (defScope st)) (hn : ps.length = C.n)
    (body : ∀ (cdv : Value) (A : Around) (outer : List Env) (s : Shared) (H : Hp) (E : XK) (xw : XW), Room k (A.deeper (PyProof.Rows.envOfC qual (defScope st) s.heap.objs.size f cdv)) →
      PassesOwn (model P w) (cxOf (L2.CX P w) P w K mg base N qual (defScope st) f cdv A outer s H E).A (cxOf (L2.CX P w) P w K mg base N qual (defScope st) f cdv A outer s H E).env (cxOf (L2.CX P w) P w K mg base N qual (defScope st) f cdv A outer s H E).xe →
      ∃ ts ds, PDSs (cxOf (L2.CX P w) P w K mg base N qual (defScope st) f cdv A outer s H E) (fun cls d _ H => E cls d H) xw (defBody st) ts ds ∧
        ∀ ss kk xx, ss.length = C.n → C.f ss kk xx → (xw = fun A p _ => xx A p) → ds { nx := fun _ => kk (.d .non), rt := kk } (startD N ss)) : FnOk P w K mg base (L2.CX P w) (k + 1) f fd ps (C.sp K) := by
  refine F.okX S (fun vs H Q E h => ?_) (fun cdv A outer s H vs Q E hr h => ?_)
  · obtain ⟨c, ss, _, _, r, hl, _⟩ := h
    rw [paired_len r, hl, hn]
  · obtain ⟨c, ss, eK, hi, r, hl, hf⟩ := h
    obtain ⟨ts, ds, pd, hd⟩ := body cdv A outer s H E (fun A p _ => ∀ d H', Go c H H' → XOk c H' d p → E (.ref A) d H') hr (passes_of rfl)
    refine ⟨ts, pd.ps (takes_of rfl rfl rfl rfl), ?_⟩
    have q := hd ss _ _ hl hf rfl
    let c' := c.sub.wth (Kp c.G H) (fun {H1 H2} k h => h.trans k)
    have lc : Le c c' := ⟨rfl, fun _ z => z, fun _ h => h.1, fun _ z => z, fun _ _ e => nomatch e⟩
    have s0 : StOk c' (L2.start N vs) H (startD N ss) := (start_ok (c := c.sub) hi (paired_sub r (C.no hf))).wth Kp.self
    refine pd.li c' eK ?_ _ _ ⟨?_, ?_, ?_, ?_⟩ _ _ _ s0 q
    · exact fun σ H' Γ A d p st x z => z d H' ⟨st.inv.2, st.inv.1⟩ (x.le lc)
    · exact fun Γ σ H' st z => z .non H' ⟨st.inv.2, st.inv.1⟩ ⟨_, rfl, .non⟩
    · exact fun v s H' i r z => z v H' ⟨i.2, i.1⟩ (r.le lc)
    · exact fun _ _ _ _ z => z.elim
    · exact fun _ _ _ _ z => z.elim
end
end Dv
set_option Elab.async false
set_option linter.all false
set_option maxRecDepth 100000
set_option maxHeartbeats 4000000
/-! Dl: != of lists that hold own instances and are equal. -/
namespace GN
open PySem PySem.SeqAt
open AutoSeq1 (wpAny_loadPart')
open MeetsSeq MeetsSeq2 MeetsSeq3 SeqRoads2
section
variable {prog : Program} {w : World} {A : Around} {R : Result → Shared → Prop}
/-- at each turn both lists stand, N long, and the two at i are equal -/
def TwoL (prog : Program) (w : World) (A : Around) (E : Value → Shared → Prop) (p q : Addr) (N : Nat) (J : Nat → Shared → Prop) : Prop :=
  ∀ i s, J i s → ∃ (xs ys : Array Value) (m m2 : Nat) (dd dd2 : Option Addr) (sl sl2 : Array (Option Value)), s.heap.get? p = some ⟨.type "list", dd, .seq xs m, sl⟩ ∧ s.heap.get? q = some ⟨.type "list", dd2, .seq ys m2, sl2⟩ ∧ xs.size = N ∧ ys.size = N ∧
    ∀ (g1 : i < xs.size) (g2 : i < ys.size), wpAny (model prog w) A.in1 (eqBool xs[i] ys[i]) (fun r s' => r = true ∧ J (i + 1) s') E s
theorem loopN (p q : Addr) (N : Nat) (J : Nat → Shared → Prop) (hl : TwoL prog w A (fun e s' => R (.error e) s') p q N J) (fin : ∀ s, J N s → R (.ok (.ret (.bool false))) s) (k : Nat) :
    ∀ i : Nat, N - i = k → i ≤ N → ∀ s, J i s → wpAny (model prog w) A.in1 (Builtin.«list.__eq__.loop» ⟨[.ref p, .ref q, rawInt i, rawInt 3], []⟩) (GQ.FinOf prog w A R) (fun e s' => R (.error e) s') s := by
  induction k with
  | zero =>
    intro i hk hi s h
    obtain ⟨xs, ys, m, m2, dd, dd2, sl, sl2, a1, a2, z1, z2, _⟩ := hl _ _ h
    have ei : i = N := by omega
    have hR : R (.ok (.ret (.bool false))) s := fin s (ei ▸ h)
    obtain ⟨hp, g, d, tk, os⟩ := s
    wp_walk using wpAny_loadPart' a1, wpAny_loadPart' a2
    have n1 : xs[((i : Nat) : Int).toNat]? = none := by simp; omega
    have n2 : ys[((i : Nat) : Int).toNat]? = none := by simp; omega
    rw [n1, n2]
    wp_walk using wpAny_loadPart' a1, wpAny_loadPart' a2
    show R (.ok (.ret (.bool (xs.size != ys.size)))) _
    rw [z1, z2]
    simpa using hR
  | succ k ih =>
    intro i hk hi s h
    obtain ⟨xs, ys, m, m2, dd, dd2, sl, sl2, a1, a2, z1, z2, turn⟩ := hl _ _ h
    have l1 : i < xs.size := by omega
    have l2 : i < ys.size := by omega
    have ht := turn l1 l2
    obtain ⟨hp, g, d, tk, os⟩ := s
    wp_walk using wpAny_loadPart' a1, wpAny_loadPart' a2
    have n1 : xs[((i : Nat) : Int).toNat]? = some xs[i] := by simp [l1]
    have n2 : ys[((i : Nat) : Int).toNat]? = some ys[i] := by simp [l2]
    have hc : ((i : Int) + 1) = ((i + 1 : Nat) : Int) := by omega
    rw [n1, n2]
    refine wpAny_bind (wpAny_mono ht (fun r s2 q2 => ?_) fun _ _ x => x)
    obtain ⟨hr, q2⟩ := q2
    subst hr
    have again := ih (i + 1) (by omega) (by omega) s2 q2
    obtain ⟨hp2, g2, d2, tk2, os2⟩ := s2
    wp_walk
    rw [hc]
    exact ⟨plainId_quiet plain_eq_loop _, codeAny_builtin entry_eq_loop (by rw [Around.under_plainId plain_eq_loop _]; exact again)⟩
theorem listN (p q : Addr) (N : Nat) (J : Nat → Shared → Prop) (hl : TwoL prog w A (fun e s' => R (.error e) s') p q N J) (fin : ∀ s, J N s → R (.ok (.ret (.bool false))) s) {s : Shared} (h : J 0 s) :
    wpAny (model prog w) A.in1 (Builtin.«list.__ne__» ⟨[.ref p, .ref q], []⟩) (GQ.FinOf prog w A R) (fun e s' => R (.error e) s') s := by
  obtain ⟨xs, ys, m, m2, dd, dd2, sl, sl2, a1, a2, z1, z2, _⟩ := hl _ _ h
  have again := loopN (A := A) (R := R) p q N J hl fin _ 0 rfl (Nat.zero_le _) s h
  obtain ⟨hp, g, d, tk, os⟩ := s
  have f3 := AutoSeq1.sub_list_list
  have hne : ¬ (xs.size != ys.size) = true := by simp [z1, z2]
  wp_walk using wpAny_loadPart' a1, wpAny_loadPart' a2
  exact ⟨plainId_quiet plain_eq_loop _, codeAny_builtin entry_eq_loop (by rw [Around.under_plainId plain_eq_loop _]; exact again)⟩
end
section
variable {prog : Program} {w : World} {A : Around} {E : Value → Shared → Prop} {s : Shared}
theorem rc_listN {p q : Addr} {N : Nat} {Q : Value → Shared → Prop} (hu : A.units < cLine) (J : Nat → Shared → Prop) (hl : TwoL prog w A E p q N J) (fin : ∀ s, J N s → Q (.bool false) s) (h : J 0 s) : wpAny (model prog w) A (richCompare .NotEq (.ref p) (.ref q)) Q E s := by
  obtain ⟨xs, ys, m, m2, dd, dd2, sl, sl2, a1, a2, _, _, _⟩ := hl _ _ h
  refine wpAny_richCompare_same_room (op := .NotEq) ⟨_, a1, rfl⟩ ⟨_, a2, rfl⟩ F.slot_list_ne (GQ.call_here F.slot_list_ne ⟨_, a1, rfl⟩ F.entry_list_ne (F.args_list_ne_2 _ _) ?_) hu
  exact listN (R := wants (fun v s' => v ≠ .notImplemented ∧ Q v s') E) p q N J hl (fun s' q => ⟨(fun x => nomatch x), fin s' q⟩) h
end
end GN
namespace L2
open PySem
section
variable {X : Cx} {n : Nat} {D : Eqv}
def DLst (K : PySem.W.Frag) (D : Eqv) : Eqv := fun x y H => ∃ a b xs ys, x = .ref a ∧ y = .ref b ∧ SqL K H a xs ∧ SqL K H b ys ∧ Prs D xs ys H
def rNeG (D : Eqv) : R2 := fun x y H Q => D x y H ∧ ∀ H', Ext H H' → Q (.bl false) H'
theorem op_neG (hD : Mon D) (h : EqG X n D) (hr : Room (n + 1) X.A) : OpR X (compareOp .NotEq) (rNeG (DLst X.K D)) := by
  intro pins s σ H x y v u Q I rx ry hq
  obtain ⟨⟨a, b, xs, ys, rfl, rfl, ha, hb, pp⟩, q⟩ := hq
  cases rx
  cases ry
  refine PySem.W.cmp_ofNotEq ?_
  refine GN.rc_listN (N := xs.length) hr.units0 (fun _ s' => LoopI X pins σ H s') (fun i s' z => ?_) (fun s' z => ?_) ⟨H, I, Ext.rfl'⟩
  · obtain ⟨H1, I1, e1⟩ := id z
    obtain ⟨its, r, ⟨⟨c1, d1, dt1, s1⟩, k1, g1, g2, g3, g4⟩, _⟩ := I1.list (ha.ext e1)
    obtain ⟨its2, r2, ⟨⟨c2, d2, dt2, s2⟩, k2, f1, f2, f3, f4⟩, _⟩ := I1.list (hb.ext e1)
    dsimp only at g2 g4 f2 f4
    subst g2 g4 f2 f4
    exact ⟨its.toArray, its2.toArray, k1, k2, d1, d2, s1, s2, g1, f1, by rw [List.size_toArray, ← r.length], by rw [List.size_toArray, ← r2.length, ← pp.1], fun h1 h2 => turnG hD h ⟨hr, rfl⟩ pp r r2 i h1 h2 s' z⟩
  · obtain ⟨H1, I1, e1⟩ := z
    exact ⟨.bl false, H1, I1, rfl, q H1 e1⟩
end
end L2
namespace Dv
open PySem L2
section
variable {X : Cx} {W : WX} {xw : XW} {K : PySem.W.Frag} {pos : Pos} {Ct : Ctr} {Cl g : Addr} {fd : FuncData} {ps : List Str} {k : Nat} {a b : Expr} {ta tb : TE} {da db : DE}
/-- two instances that the own == finds equal -/
def TwoO (Ct : Ctr) (K : PySem.W.Frag) (Cl a b : Addr) (H : Hp) : Prop := ∃ fs gs, Rp (cBase K) H (.ref a) (.obj Cl fs) ∧ Rp (cBase K) H (.ref b) (.obj Cl gs) ∧ Ct.f [.d (.obj Cl fs), .d (.obj Cl gs)] (fun u => u = .d (.bl true)) fun _ _ => False
theorem two_ext {H H' : Hp} {a b : Addr} (e : Ext H H') (h : TwoO Ct K Cl a b H) : TwoO Ct K Cl a b H' := by
  obtain ⟨fs, gs, r1, r2, f⟩ := h
  exact ⟨fs, gs, r1.to rfl (fun _ z => z) (fun a o _ z => e a o z), r2.to rfl (fun _ z => z) (fun a o _ z => e a o z), f⟩
theorem two_fn {P : Program} {w : World} {mg : Str → Option Value} {base : Heap} (F : FnOk P w K mg base (L2.CX P w) k g fd ps (Ct.sp K)) (hn : Ct.n = 2) : FnOk P w K mg base (L2.CX P w) k g fd ps (spEq fun a b H => TwoO Ct K Cl a b H) :=
  F.imp fun vs H Q E h => by
    obtain ⟨a, b, rfl, ⟨fs, gs, r1, r2, f⟩, q⟩ := h
    refine ⟨cBase K, [.d (.obj Cl fs), .d (.obj Cl gs)], rfl, trivial, .cons ⟨_, rfl, r1⟩ (.cons ⟨_, rfl, r2⟩ .nil), hn.symm, Ct.mono (fun s e v H' go r => ?_) (fun _ _ z => z.elim) f⟩
    subst e
    rw [sl_bl r]
    exact q H' fun a o z => go.keep a o (fun y => y) z
/-- a text and an instance, in two lists -/
def gNeL (Ct : Ctr) (Cl : Addr) : Sl → Sl → DK → Prop := fun s t k => match s, t with
  | .d (.lst [.str x, .obj C fs]), .d (.lst [.str y, .obj C' gs]) => x = y ∧ C = Cl ∧ C' = Cl ∧ Ct.f [.d (.obj C fs), .d (.obj C' gs)] (fun u => u = .d (.bl true)) (fun _ _ => False) ∧ k (.d (.bl false))
  | _, _ => False
abbrev DTwo (Ct : Ctr) (K : PySem.W.Frag) (Cl : Addr) : Eqv := fun x y H => DFlat x y H ∨ DIns Cl (fun a b H => TwoO Ct K Cl a b H) x y H
theorem rp_base {c : Cfg} {H : Hp} {v : V} {d : D} (h : Rp c H v d) : Rp (cBase c.K) H v d := Rp.to (c := c) (c' := cBase c.K) rfl (fun _ z => z.elim) Kp.self h
theorem o2_neL : O2 K (rNeG (DLst K (DTwo Ct K Cl))) (gNeL Ct Cl) := fun c H x y s t k Q eK hi rs rt h q => by
  unfold gNeL at h
  split at h
  · obtain ⟨e1, e2, e3, f, hk⟩ := h
    subst e1 e2 e3 eK
    obtain ⟨w, ew, r⟩ := rs
    cases ew
    obtain ⟨w', ew', r'⟩ := rt
    cases ew'
    cases r with
    | lst n1 h1 ra =>
      cases r' with
      | lst n2 h2 rb =>
        cases ra with
        | cons x1 ra =>
          cases ra with
          | cons x2 ra =>
            cases ra
            cases rb with
            | cons y1 rb =>
              cases rb with
              | cons y2 rb =>
                cases rb
                cases x1
                cases y1
                have b2 := rp_base x2
                have b2' := rp_base y2
                cases x2 with
                | obj m1 i1 g1 =>
                  cases y2 with
                  | obj m2 i2 g2 =>
                    refine ⟨⟨_, _, _, _, rfl, rfl, .inl h1, .inl h2, .cons (.inl ⟨rfl, rfl, ?_⟩) (.cons (.inr ⟨_, _, _, _, _, _, rfl, rfl, i1, i2, _, _, b2, b2', f⟩) .nil)⟩, fun H' e => ?_⟩
                    · simp [eqV]
                    · exact q _ (.d (.bl false)) H' ⟨fun a o _ z => e a o z, c.mono (fun a o z => e a o z) hi⟩ ⟨_, rfl, .bl _⟩ hk
  · exact h.elim
theorem pdt_neL (cc : OwnEqC X.K Cl g) (F : FnOk X.prog X.w X.K X.mg X.base (L2.CX X.prog X.w) k g fd ps (Ct.sp X.K)) (hr : Room (k + 1) X.A) (hb : Binds X.K fd ps []) (hn : Ct.n = 2) (x : PD X W xw a ta da) (y : PD X W xw b tb db) :
    PDT X W xw (.Compare a [.NotEq] [b] pos) (tTest (tOp (rNeG (DLst X.K (DTwo Ct X.K Cl))) ta tb)) (dB (dOp (gNeL Ct Cl) da db)) :=
  pdt_cmp (op_neG (mon_flat.or (mon_ins fun a b H H' e r => two_ext e r)) ((eqG_flat.mono (Nat.zero_le _)).or (eqG_ins (two_fn F hn) cc.eq cc.fn hb passL)) hr) o2_neL x y (nomark _)
end
end Dv
set_option Elab.async false
set_option linter.all false
set_option maxRecDepth 100000
set_option maxHeartbeats 4000000
/-! Dm: texts: str of an own instance, join, partition, c in s, int(text); C(k = ..). -/
namespace L2
open PySem PySem.Spec PyProof.Rows PySem.W
section
variable {X : Cx} {CX : CXT} {k : Nat} {g C : Addr} {sp : Sp} {E : XK}
/-- what K says of a class with an own __str__ -/
structure OwnStrC (K : Frag) (C g : Addr) : Prop where
  st : findIn K (.ref C) "__str__" = some (some (.ref g))
  fn : isFn K (.ref g) = true
/-- str(o) -/
def rStrO (C : Addr) (sp : Sp) (E : XK) : List V → Hp → VK → Prop := fun xs H Q => ∃ a dx fs, xs = [.ref a] ∧ H a = some (.ins C dx fs) ∧ sp [.ref a] H (fun v H' => ∃ x, v = .str x ∧ Q v H') E
theorem call_strO (c : OwnStrC X.K C g) (F : FnR X.prog X.w X.K X.mg X.base CX k g sp) (hr : Room (k + 2) X.A) (hx : Passes CX X E) : CallR X (.type "str") (rStrO C sp E) := by
  intro pins s σ H xs us Q I r h
  obtain ⟨a, dx, fs, rfl, ha, q⟩ := h
  cases r with
  | cons r1 rs =>
    cases rs
    cases (show _ = Value.ref a from r1)
    obtain ⟨ox, od, J, _⟩ := StX.insC_at I (.inr ⟨dx, fs, ha⟩)
    refine kso_call hr.in1.in1.units0 I.kIn J c.st c.fn ?_
    refine wpAny_mono (wpAny_call (SlX.run_at (us := [.ref a]) (ws := [.ref a]) F hr.in1.in1 I.env0.in1.in1 hx I (.cons rfl .nil) q)) (fun w s' z => ?_) fun _ _ x => x
    obtain ⟨z', H', I', rz, x, rfl, qz⟩ := z
    obtain ⟨t, rfl⟩ := rz
    exact ⟨.str x, H', I', ⟨_, rfl⟩, qz⟩
end
end L2
namespace Dv
open PySem L2
section
variable {X : Cx} {W : WX} {xw : XW} {K : PySem.W.Frag} {pos : Pos} {Ct : Ctr} {Cl g : Addr} {fd : FuncData} {ps : List Str} {k : Nat}
def gStrO (Ct : Ctr) (Cl : Addr) : List Sl → DK → Prop := fun ss k => match ss with
  | [.d (.obj C fs)] => C = Cl ∧ Ct.f [.d (.obj C fs)] (fun u => ∃ x, u = .d (.str x) ∧ k u) fun _ _ => False
  | _ => False
theorem oc_strO (hn : Ct.n = 1) : OC K (rStrO Cl (spB Ct K) E0) (gStrO Ct Cl) := fun c H vs ss k Q eK hi r h q => by
  unfold gStrO at h
  split at h
  · obtain ⟨e0, hf⟩ := h
    subst e0
    have pr := r
    obtain ⟨v, rfl, w, ew, rw⟩ := paired1 r
    cases ew
    cases rw with
    | obj nf hh rf =>
      refine ⟨_, _, _, rfl, hh, c, _, eK, hi, pr, hn.symm, Ct.mono (fun s ks v H' g' r' => ?_) (fun A pp z => z.elim) hf⟩
      obtain ⟨x, rfl, kx⟩ := ks
      exact ⟨x, sl_str r', q v _ H' g' r' kx⟩
  · exact h.elim
theorem pd_strO {e : Expr} {ta : TA} {da : DA} {p : Pos} (cc : OwnStrC X.K Cl g) (F : FnOk X.prog X.w X.K X.mg X.base (L2.CX X.prog X.w) k g fd ps (Ct.sp X.K)) (hr : Room (k + 2) X.A) (hb : Binds X.K fd ps []) (hn : Ct.n = 1) (hm : X.mg "str" = none) (a : PDA X W xw [e] ta da) (hg : Gl X "str" := by rfl)
    (he : starEach [e] X.env = (false, eval e X.env) :: starEach [] X.env := by rfl) (hpl : (backTo pos (starEach [] X.env)).any (·.1) = false := by rfl) :
    PD X W xw (.Call (.Name "str" p) [e] [] pos) (tCB (rStrO Cl (spB Ct X.K) E0) ta) (dCB (gStrO Ct Cl) da) :=
  pd_callTy (call_strO cc (F.raw hb .nil) hr passL) (oc_strO hn) hm (by decide +kernel) a hg (he := he) (hpl := hpl)
/-! ### methods of texts with one argument -/
def dM1 (gg : Str → Sl → DK → Prop) (a b : DE) : DE := fun Γ k => a Γ fun s => match s with
  | .d (.str z) => b Γ fun t => gg z t k
  | _ => False
/-- what a method of a text promises, over data -/
def OM (K : PySem.W.Frag) (r : V → List V → Hp → VK → Prop) (gg : Str → Sl → DK → Prop) : Prop := ∀ (c : Cfg) (H : Hp) (z : Str) (y : V) (t : Sl) (k : DK) (Q : VK), c.K = K → c.I H → SlOk c H (some y) t → gg z t k → (∀ v s H2, Go c H H2 → SlOk c H2 (some v) s → k s → Q v H2) → r (.str z) [y] H Q
theorem li_m1 {r : V → List V → Hp → VK → Prop} {gg : Str → Sl → DK → Prop} {to te : TE} {do_ de : DE} (hg : OM K r gg) (x : Li K W xw to do_) (y : Li K W xw te de) : Li K W xw (tM1 r to te) (dM1 gg do_ de) := fun c eK hW Γ k hk σ H st Q q =>
  x c eK hW Γ _ hk σ H st _ fun v s H1 g1 r1 h1 => by
    try dsimp only at h1
    split at h1
    · have e := sl_str r1
      subst e
      refine ⟨⟨_, rfl⟩, y c eK hW Γ _ h1 σ H1 (st.go g1) _ fun u t H2 g2 r2 h2 => ?_⟩
      exact hg c H2 _ u t k Q eK g2.inv r2 h2 fun w s' H3 g3 r3 k3 => q w s' H3 ((g1.trans g2).trans g3) r3 k3
    · exact h1.elim
def gPart : Str → Sl → DK → Prop := fun z t k => match t with
  | .d (.str b) => (b.length == 0) = false ∧ z.length ≤ 100000 ∧ k (.d (.tup [.str (Txt.partition z b).1, .str (Txt.partition z b).2.1, .str (Txt.partition z b).2.2]))
  | _ => False
theorem om_part : OM K (fun x xs H Q => ∃ a b, x = .str a ∧ xs = [.str b] ∧ (b.length == 0) = false ∧ a.length ≤ sizeLine ∧
    ∀ p, H p = none → Q (.ref p) (upd H p (.tup [.str (Txt.partition a b).1, .str (Txt.partition a b).2.1, .str (Txt.partition a b).2.2]))) gPart := fun c H z y t k Q eK hi r h q => by
  unfold gPart at h
  split at h
  · have e := sl_str r
    subst e
    refine ⟨_, _, rfl, rfl, h.1, sz h.2.1, fun p np => q _ (.d (.tup _)) _ (Go.new hi np) ⟨_, rfl, ?_⟩ h.2.2⟩
    exact .tup (.inl ⟨fun z => c.live hi z np, .inl upd_same⟩) (.cons (.str _) (.cons (.str _) (.cons (.str _) .nil)))
  · exact h.elim
theorem pd_part {o e : Expr} {to te : TE} {do_ de : DE} {apos : Pos} (ho : PD X W xw o to do_) (he : PD X W xw e te de) (hs : starEach [e] X.env = [(false, eval e X.env)] := by rfl) (hbase : attributeBase o "partition" X.env (eval o X.env) = eval o X.env := by rfl) (hline : (apos.endLine == pos.line) = true := by rfl) :
    PD X W xw (.Call (.Attribute o "partition" apos) [e] [] pos) (tM1 (fun x xs H Q => ∃ a b, x = .str a ∧ xs = [.str b] ∧ (b.length == 0) = false ∧ a.length ≤ sizeLine ∧
      ∀ p, H p = none → Q (.ref p) (upd H p (.tup [.str (Txt.partition a b).1, .str (Txt.partition a b).2.1, .str (Txt.partition a b).2.2]))) to te) (dM1 gPart do_ de) := ⟨fun tk => pe_partition (ho.pe tk) (he.pe tk) hs hbase hline, li_m1 om_part ho.li he.li⟩
def unS : List D → Option (List Str)
  | [] => some []
  | .str x :: r => (unS r).map (x :: ·)
  | _ :: _ => none
theorem unS_ok {c : Cfg} {H : Hp} : ∀ {vs : List V} {ds : List D} {ys : List Str}, RpAll c H vs ds → unS ds = some ys → vs = ys.map V.str
  | _, _, _, .nil, e => by
    cases e
    rfl
  | _, d :: ds, _, .cons r t, e => by
    cases d with
    | str x =>
      unfold unS at e
      obtain ⟨es, e1, e2⟩ := Option.map_eq_some_iff.mp e
      subst e2
      rw [unS_ok t e1]
      cases r
      rfl
    | _ => cases e
def gJoin : Str → Sl → DK → Prop := fun z t k => match t with
  | .d (.lst xs) => (match unS xs with
    | some ys => (ys.map (·.length)).sum + ys.length * z.length ≤ 16777216 ∧ k (.d (.str (Txt.join z ys)))
    | none => False)
  | _ => False
theorem om_join : OM K (fun x xs H Q => ∃ a p, ∃ ys : List Str, x = .str a ∧ xs = [.ref p] ∧ (SqL K H p (ys.map V.str) ∨ SqT K H p (ys.map V.str)) ∧
    (ys.map (·.length)).sum + ys.length * a.length ≤ 16777216 ∧ Q (.str (Txt.join a ys)) H) gJoin := fun c H z y t k Q eK hi r h q => by
  unfold gJoin at h
  split at h
  · split at h
    · rename_i e
      obtain ⟨w, ew, rr⟩ := r
      cases ew
      cases rr with
      | lst nf hh ra =>
        have ev := unS_ok ra e
        subst ev
        exact ⟨_, _, _, rfl, rfl, .inl (.inl hh), h.1, q _ (.d (.str _)) H (Go.self hi) ⟨_, rfl, .str _⟩ h.2⟩
    · exact h.elim
  · exact h.elim
theorem pd_join {o e : Expr} {to te : TE} {do_ de : DE} {apos : Pos} (ho : PD X W xw o to do_) (he : PD X W xw e te de) (hs : starEach [e] X.env = [(false, eval e X.env)] := by rfl) (hbase : attributeBase o "join" X.env (eval o X.env) = eval o X.env := by rfl) (hline : (apos.endLine == pos.line) = true := by rfl) :
    PD X W xw (.Call (.Attribute o "join" apos) [e] [] pos) (tM1 (fun x xs H Q => ∃ a p, ∃ ys : List Str, x = .str a ∧ xs = [.ref p] ∧ (SqL X.K H p (ys.map V.str) ∨ SqT X.K H p (ys.map V.str)) ∧
      (ys.map (·.length)).sum + ys.length * a.length ≤ 16777216 ∧ Q (.str (Txt.join a ys)) H) to te) (dM1 gJoin do_ de) := ⟨fun tk => pe_join (ho.pe tk) (he.pe tk) hs hbase hline, li_m1 om_join ho.li he.li⟩
/-! ### c in s, one sign -/
def gInS (f : Bool → Bool) : Sl → Sl → DK → Prop := fun s t k => match s, t with
  | .d (.str x), .d (.str z) => ∃ c : Nat, x = ⟨#[c]⟩ ∧ k (.d (.bl (f (decide (c ∈ z.cps.toList)))))
  | _, _ => False
theorem o2_inS {f : Bool → Bool} : O2 K (fun x y H Q => ∃ (c : Nat) (z : Str), x = .str ⟨#[c]⟩ ∧ y = .str z ∧ Q (.bl (f (decide (c ∈ z.cps.toList)))) H) (gInS f) := fun c H x y s t k Q eK hi rs rt h q => by
  unfold gInS at h
  split at h
  · obtain ⟨n, e, hk⟩ := h
    subst e
    have e1 := sl_str rs
    have e2 := sl_str rt
    subst e1 e2
    exact ⟨n, _, rfl, rfl, q _ (.d (.bl _)) H (Go.self hi) ⟨_, rfl, .bl _⟩ hk⟩
  · exact h.elim
section
variable {a b : Expr} {ta tb : TE} {da db : DE}
theorem pdt_inS (x : PD X W xw a ta da) (y : PD X W xw b tb db) (hm : lastMarks [.In] [b] = false := by with_unfolding_all rfl) : PDT X W xw (.Compare a [.In] [b] pos) (tTest (tOp (fun x y H Q => ∃ (c : Nat) (z : Str), x = .str ⟨#[c]⟩ ∧ y = .str z ∧ Q (.bl (decide (c ∈ z.cps.toList))) H) ta tb)) (dB (dOp (gInS fun c => c) da db)) := pdt_cmp op_in_sign (o2_inS (f := fun c => c)) x y hm
theorem pdt_notInS (x : PD X W xw a ta da) (y : PD X W xw b tb db) (hm : lastMarks [.NotIn] [b] = false := by with_unfolding_all rfl) : PDT X W xw (.Compare a [.NotIn] [b] pos) (tTest (tOp (fun x y H Q => ∃ (c : Nat) (z : Str), x = .str ⟨#[c]⟩ ∧ y = .str z ∧ Q (.bl (!decide (c ∈ z.cps.toList))) H) ta tb)) (dB (dOp (gInS fun c => !c) da db)) := pdt_cmp op_notIn_sign (o2_inS (f := fun c => !c)) x y hm
theorem pd_inS (x : PD X W xw a ta da) (y : PD X W xw b tb db) (hm : lastMarks [.In] [b] = false := by with_unfolding_all rfl) : PD X W xw (.Compare a [.In] [b] pos) (tOp (fun x y H Q => ∃ (c : Nat) (z : Str), x = .str ⟨#[c]⟩ ∧ y = .str z ∧ Q (.bl (decide (c ∈ z.cps.toList))) H) ta tb) (dOp (gInS fun c => c) da db) := ⟨fun tk => pe_cmpR op_in_sign (x.pe tk) (y.pe tk) hm, li_op (o2_inS (f := fun c => c)) x.li y.li⟩
end
/-! ### int(x), x an int, a truth or a text -/
def gIntA : List Sl → DK → Prop := fun ss k => match ss with
  | [.d (.str x)] => ∃ n, PySem.intText? x = some n ∧ x.length ≤ 640 ∧ k (.d (.int n))
  | ss => gInt ss k
theorem oc_intA {r : List V → Hp → VK → Prop} (o : OC K r gInt) : OC K (fun xs H Q => (∃ a n, xs = [V.str a] ∧ PySem.intText? a = some n ∧ a.length ≤ 640 ∧ Q (.int n) H) ∨ r xs H Q) gIntA := fun c H vs ss k Q eK hi rr h q => by
  unfold gIntA at h
  split at h
  · obtain ⟨n, h1, h2, h3⟩ := h
    obtain ⟨v, rfl, r1⟩ := paired1 rr
    have e := sl_str r1
    subst e
    exact .inl ⟨_, n, rfl, h1, h2, q _ (.d (.int n)) H (Go.self hi) ⟨_, rfl, .int _⟩ h3⟩
  · exact .inr (o c H vs _ k Q eK hi rr h q)
/-! ### C(k = ..) -/
structure PDK (X : Cx) (W : WX) (xw : XW) (es : List Keyword) (ta : TA) (da : DA) : Prop where
  pk : Takes X W → PK X es ta
  li : LiA X.K W xw ta da
theorem pdk_nil : PDK X W xw [] tNil dNil := ⟨fun _ => pk_nil, pda_nil.li⟩
theorem pdk_cons {e : Expr} {es : List Keyword} {t : TE} {ts : TA} {d : DE} {ds : DA} {nm : Option Str} {kp : Pos} (a : PD X W xw e t d) (r : PDK X W xw es ts ds) : PDK X W xw (⟨nm, e, kp⟩ :: es) (tCons t ts) (dCons d ds) := ⟨fun tk => pk_cons (a.pe tk) (r.pk tk), fun c eK hW Γ k h σ H st Q q => a.li c eK hW Γ _ h σ H st _ fun v s H1 g1 r1 h1 => r.li c eK hW Γ _ h1 σ H1 (st.go g1) _ fun vs ss H2 g2 r2 h2 => q (v :: vs) (s :: ss) H2 (g1.trans g2) (.cons (r1.go g2.keep) r2) h2⟩
def dNewK (CI : CtrI) (Cl : Addr) (a : DA) : DE := fun Γ k => a Γ fun ss => ss.length = CI.n ∧ CI.f ss (fun fs => k (.d (.obj Cl fs))) fun _ _ => False
theorem pd_newK {CI : CtrI} {f : Addr} {ks : List Str} {gg : List Value → List Value → List Value} {x : Str} {p : Pos} {kws : List Keyword} {ta : TA} {da : DA} (M : Mk X.K Cl f) (F : FnOk X.prog X.w X.K X.mg X.base (L2.CX X.prog X.w) k f fd ps (CI.sp X.K Cl)) (hr : Room (k + 1) X.A) (hm : X.mg x = some (.ref Cl)) (hb : KBn X.K fd ps 1 ks gg (fun vs zs => vs ++ zs)) (hl : ks.length = CI.n) (a : PDK X W xw kws ta da) (hg : Gl X x := by rfl)
    (hall : (backToKw pos (keywordEach kws X.env)).all (·.1.isSome) = true := by rfl) (hks : (backToKw pos (keywordEach kws X.env)).filterMap (·.1) = ks := by rfl) (hdb : (x == ("__debug__" : Str)) = false := by decide)
    (hpl : ((backTo pos (starEach [] X.env)).any (·.1) || (backToKw pos (keywordEach kws X.env)).any (·.1.isNone)) = false := by rfl) :
    PD X W xw (.Call (.Name x p) [] kws pos) (tMakeK Cl 0 ks.length (CI.sp X.K Cl) (fun vs zs => vs ++ zs) E0 tNil ta) (dNewK CI Cl da) :=
  ⟨fun tk => pe_makeK0 M F hr hg hm hb passL (a.pk tk) hall hks hdb hpl, fun c eK hW Γ k hk σ H st Q q => a.li c eK hW Γ _ hk σ H st _ fun vs ss H1 g r h => ⟨rfl, (paired_len r).trans (h.1.trans hl.symm), fun y dx ny nd ne =>
    ⟨c, ss, y, dx, H1, vs, eK, g.inv, rfl, ny, nd, ne, rfl, r, h.1, CI.mono (fun fs ks H' g' r' => ⟨rfl, q _ (.d (.obj Cl fs)) H' (g.trans g') ⟨_, rfl, r'⟩ ks⟩) (fun A pp z => z.elim) h.2⟩⟩⟩
end
/-- a method with one default, by keywords alone -/
theorem met_kw {K : PySem.W.Frag} {x qual : Str} {st : Stmt} {ps ks : List Str} {i : Int} {f T : Addr} {oc ot : Value} {od an ot2 : Option Addr} {osl tsl : Array (Option Value)} {kV doc pm cdv ct u : Value} {m : Nat} (l : K.lookup f = some ⟨oc, od, .func (PySem.W.fnOf x qual (defArgs st) (defBody st) (defScope st) (.ref T) kV doc pm an cdv ct), osl⟩)
    (c : PySem.W.codeIn K cdv qual = true) (k : PySem.W.keepIn K (.ref f) = true) (lT : K.lookup T = some ⟨ot, ot2, .seq #[u] m, tsl⟩) (ru : RelV (.int i) u)
    (h : ∀ (T : Addr) (kV doc pm : Value) (an : Option Addr) (cdv ct : Value) (us its ws : List Value), us.length = 1 → its.length = 1 → ws.length = ks.length →
      ∃ k, bindArgs (PySem.W.fnOf x qual (defArgs st) (defBody st) (defScope st) (.ref T) kV doc pm an cdv ct) ⟨us, ks.zip ws⟩ = seqItems? (.ref T) >>= k ∧ k (some its.toArray) = pure (ps.zip (us ++ ws))) :
    KBn K (PySem.W.fnOf x qual (defArgs st) (defBody st) (defScope st) (.ref T) kV doc pm an cdv ct) ps 1 ks (fun us ws => us ++ ws) (fun vs zs => vs ++ zs) := by
  have F : L2.FunD K x qual (defArgs st) (defBody st) (defScope st) [V.int i] [] f (PySem.W.fnOf x qual (defArgs st) (defBody st) (defScope st) (.ref T) kV doc pm an cdv ct) :=
    ⟨⟨_, _, _, _, _, _, _, _, _, _, rfl, l, c, .inr ⟨by simp, T, _, [u], m, rfl, lT, rfl, .cons ru .nil⟩, .inl rfl⟩, k⟩
  obtain ⟨its, z⟩ := F.kbindsD (ps := ps) 1 ks (fun us _ ws => us ++ ws) (by simp) (fun r1 _ r3 => r1.append r3) h
  exact z
end Dv
set_option Elab.async false
set_option linter.all false
set_option maxRecDepth 100000
set_option maxHeartbeats 4000000
/-! Tn: texts of whole numbers: read back. -/
namespace TX
open PySem PySem.NumText TL L2
abbrev tx (i : Int) : Str := Str.ofString (toString i)
theorem tl_nat (n : Nat) : tl (tx (Int.ofNat n)) = numL n := tl_num n
theorem tl_neg (m : Nat) : tl (tx (Int.negSucc m)) = 45 :: numL (m + 1) := by
  show tl (Str.ofString (toString (Int.negSucc m))) = _
  rw [text_neg]
  rfl
theorem tl_inj {x y : Str} (h : tl x = tl y) : x = y := by
  have e : x.cps = y.cps := Array.toList_inj.mp h
  cases x
  cases y
  cases e
  rfl
/-- a sign and digits -/
theorem seen_all {x : Str} (h : ∀ c ∈ x.cps.toList, 33 ≤ c ∧ c < 128) : numTextOf x = x.cps.toList ∧ numSeenOf x = x.cps.toList := by
  have e1 : numTextOf x = x.cps.toList := by
    refine if_pos ?_
    rw [← Array.all_toList, List.all_eq_true]
    exact fun c hc => decide_eq_true (h c hc).2
  refine ⟨e1, ?_⟩
  show (numTextOf x).takeWhile _ = _
  rw [e1]
  exact takeWhile_all fun c hc => bne_iff_ne.mpr (by have := h c hc; omega)
theorem int_sign {x : Str} {cs : List Nat} (hx : x.cps.toList = 43 :: cs) (h : AllDigits cs) (h1 : cs ≠ []) (h2 : x.length ≤ 4300) : intText? x = some ((digitsVal cs : Nat) : Int) := by
  have hs : ∀ c ∈ x.cps.toList, 33 ≤ c ∧ c < 128 := by
    rw [hx]
    intro c hc
    rcases List.mem_cons.mp hc with e | hc
    · omega
    · have := h c hc
      omega
  obtain ⟨e1, e2⟩ := seen_all hs
  have hl : x.cps.toList.length = x.length := Array.length_toList
  unfold intText?
  rw [e1, e2, if_pos (beq_self_eq_true _), hx]
  rw [hx, List.length_cons] at hl
  have es : sign ((43 :: cs).dropWhile blank) = (false, cs) := by rw [dropWhile_of (by decide)]; rfl
  have ec : core (43 :: cs) = cs := by
    unfold core
    rw [es]
    show (cs.reverse.dropWhile blank).reverse = cs
    rw [dropWhile_digits h.reverse, List.reverse_reverse]
  rw [ec, es, digits_of h h1]
  have hsz := push_size cs #[]
  have hv := push_foldl cs #[]
  show (if _ ≤ 4300 then some (worth false _) else none) = _
  rw [if_pos (by rw [hsz]; simp only [Array.size_empty]; omega)]
  unfold worth digitsVal
  rw [hv]
  rfl
theorem numL_600 {n : Nat} (h : n < 10 ^ 600) : (numL n).length ≤ 600 := numL_len (by decide) h
theorem len_tx {i : Int} (h : i.natAbs < 10 ^ 600) : (tx i).length ≤ 601 := by
  cases i with
  | ofNat n =>
    rw [len_tl, tl_nat]
    exact Nat.le_trans (numL_600 h) (by decide)
  | negSucc m =>
    rw [len_tl, tl_neg, List.length_cons]
    exact Nat.succ_le_succ (numL_600 h)
theorem int_tx {i : Int} (h : i.natAbs < 10 ^ 600) : intText? (tx i) = some i := by
  cases i with
  | ofNat n => exact int_num (Nat.le_trans (numL_600 h) (by decide))
  | negSucc m =>
    have e := intText_neg (x := tx (Int.negSucc m)) (tl_neg m) (numL_digits _) (numL_ne _) (Nat.le_trans (len_tx h) (by decide))
    rw [e, numL_val]
    rfl
theorem tl_plus (i : Int) : tl (plus i) = if i < 0 then tl (tx i) else 43 :: tl (tx i) := by
  unfold plus
  split
  · rfl
  · rw [tl_append]
    rfl
theorem len_plus {i : Int} (h : i.natAbs < 10 ^ 600) : (plus i).length ≤ 602 := by
  rw [len_tl, tl_plus]
  have z := len_tx h
  rw [len_tl] at z
  split
  · omega
  · rw [List.length_cons]
    omega
theorem int_plus {i : Int} (h : i.natAbs < 10 ^ 600) : intText? (plus i) = some i := by
  cases i with
  | negSucc m =>
    have e : plus (Int.negSucc m) = tx (Int.negSucc m) := by
      unfold plus
      rw [if_pos (Int.negSucc_lt_zero m)]
    rw [e]
    exact int_tx h
  | ofNat n =>
    have e : tl (plus (Int.ofNat n)) = 43 :: numL n := by
      rw [tl_plus, if_neg (show ¬ Int.ofNat n < 0 from Int.not_lt.mpr (Int.natCast_nonneg n)), tl_nat]
    rw [int_sign (x := plus (Int.ofNat n)) e (numL_digits _) (numL_ne _) (Nat.le_trans (len_plus h) (by decide)), numL_val]
    rfl
theorem m_tx (i : Int) : 109 ∉ tl (tx i) := by
  cases i with
  | ofNat n =>
    rw [tl_nat]
    exact numL_free (by decide)
  | negSucc m =>
    rw [tl_neg]
    intro h
    rcases List.mem_cons.mp h with e | h
    · cases e
    · exact numL_free (by decide) h
theorem m_plus (i : Int) : 109 ∉ tl (plus i) := by
  rw [tl_plus]
  split
  · exact m_tx i
  · intro h
    rcases List.mem_cons.mp h with e | h
    · cases e
    · exact m_tx i h
theorem tx_ne (i : Int) : tl (tx i) ≠ [] ∧ tl (tx i) ≠ [45] := by
  cases i with
  | ofNat n =>
    rw [tl_nat]
    refine ⟨numL_ne n, fun e => ?_⟩
    have := numL_digits n 45 (by rw [e]; simp)
    omega
  | negSucc m =>
    rw [tl_neg]
    refine ⟨by simp, fun e => ?_⟩
    injection e with _ e
    exact numL_ne _ e
theorem plus_ne (i : Int) : tl (plus i) ≠ [] := by
  rw [tl_plus]
  split
  · exact (tx_ne i).1
  · simp
/-! ### the text of a line -/
def hd (j : Int) : Str := if j = 1 then "m" else if j = -1 then "-m" else tx j ++ "m"
def ltext (i j : Int) : Str := if j = 0 then tx i else if i = 0 then hd j else hd j ++ plus i
theorem tl_m : tl ("m" : Str) = [109] := by decide +kernel
theorem tl_mm : tl ("-m" : Str) = [45, 109] := by decide +kernel
theorem tl_minus : tl ("-" : Str) = [45] := by decide +kernel
theorem tl_e : tl Str.empty = [] := rfl
/-- head and tail of a text -/
def HdOk (h : Str) (j : Int) : Prop := (h = Str.empty ∧ j = 1) ∨ (h = "-" ∧ j = -1) ∨ (h = tx j ∧ j ≠ 1 ∧ j ≠ -1)
def TlOk (t : Str) (i : Int) : Prop := (t = Str.empty ∧ i = 0) ∨ (t = plus i ∧ i ≠ 0)
theorem hd_form (j : Int) : ∃ h, hd j = h ++ "m" ∧ 109 ∉ tl h ∧ HdOk h j := by
  unfold hd
  split
  · exact ⟨Str.empty, (Str.empty_append _).symm, by simp [tl_e], .inl ⟨rfl, by assumption⟩⟩
  · split
    · refine ⟨"-", tl_inj (by rw [tl_append, tl_mm, tl_minus, tl_m]; rfl), by rw [tl_minus]; decide, .inr (.inl ⟨rfl, by assumption⟩)⟩
    · exact ⟨tx j, rfl, m_tx j, .inr (.inr ⟨rfl, by assumption, by assumption⟩)⟩
theorem ltext_form {i j : Int} (hj : j ≠ 0) : ∃ h t, ltext i j = h ++ "m" ++ t ∧ 109 ∉ tl h ∧ HdOk h j ∧ TlOk t i := by
  obtain ⟨h, e, m, o⟩ := hd_form j
  unfold ltext
  rw [if_neg hj, e]
  by_cases z : i = 0
  · rw [if_pos z]
    exact ⟨h, Str.empty, (Str.append_empty _).symm, m, o, .inl ⟨rfl, z⟩⟩
  · rw [if_neg z]
    exact ⟨h, plus i, rfl, m, o, .inr ⟨rfl, z⟩⟩
theorem ltext_part {h t : Str} (m : 109 ∉ tl h) : Txt.partition (h ++ "m" ++ t) "m" = (h, ("m" : Str), t) := partition_app (S := []) tl_m m
theorem ltext_m {i j : Int} : 109 ∈ tl (ltext i j) ↔ j ≠ 0 := by
  by_cases hj : j = 0
  · subst hj
    have e : ltext i 0 = tx i := if_pos rfl
    rw [e]
    exact ⟨fun h => (m_tx i h).elim, fun h => (h rfl).elim⟩
  · obtain ⟨h, t, e, _⟩ := ltext_form (i := i) hj
    rw [e]
    refine ⟨fun _ => hj, fun _ => ?_⟩
    rw [tl_append, tl_append, tl_m]
    simp
theorem hd_inj {h : Str} {j j' : Int} (b : j.natAbs < 10 ^ 600) (b' : j'.natAbs < 10 ^ 600) (o : HdOk h j) (o' : HdOk h j') : j = j' := by
  have em : tl ("-" : Str) = [45] := tl_minus
  rcases o with ⟨e, v⟩ | ⟨e, v⟩ | ⟨e, v⟩ <;> rcases o' with ⟨e', v'⟩ | ⟨e', v'⟩ | ⟨e', v'⟩
  · rw [v, v']
  · rw [e] at e'
    have z := congrArg tl e'
    rw [em] at z
    cases z
  · rw [e] at e'
    exact ((tx_ne j').1 (congrArg tl e').symm).elim
  · rw [e] at e'
    have z := congrArg tl e'
    rw [em] at z
    cases z
  · rw [v, v']
  · rw [e] at e'
    have z := congrArg tl e'
    rw [em] at z
    exact ((tx_ne j').2 z.symm).elim
  · rw [e'] at e
    exact ((tx_ne j).1 (congrArg tl e).symm).elim
  · rw [e'] at e
    have z := congrArg tl e
    rw [em] at z
    exact ((tx_ne j).2 z.symm).elim
  · rw [e] at e'
    have z := congrArg intText? e'
    rw [int_tx b, int_tx b'] at z
    exact Option.some.inj z
theorem tl_inj2 {t : Str} {i i' : Int} (b : i.natAbs < 10 ^ 600) (b' : i'.natAbs < 10 ^ 600) (o : TlOk t i) (o' : TlOk t i') : i = i' := by
  rcases o with ⟨e, v⟩ | ⟨e, v⟩ <;> rcases o' with ⟨e', v'⟩ | ⟨e', v'⟩
  · rw [v, v']
  · rw [e] at e'
    exact (plus_ne i' (congrArg tl e').symm).elim
  · rw [e'] at e
    exact (plus_ne i (congrArg tl e).symm).elim
  · rw [e] at e'
    have z := congrArg intText? e'
    rw [int_plus b, int_plus b'] at z
    exact Option.some.inj z
theorem ltext_inj {i j i' j' : Int} (a : i.natAbs < 10 ^ 600) (b : j.natAbs < 10 ^ 600) (a' : i'.natAbs < 10 ^ 600) (b' : j'.natAbs < 10 ^ 600) (h : ltext i j = ltext i' j') : i = i' ∧ j = j' := by
  by_cases hj : j = 0
  · have hj' : j' = 0 := by
      by_cases z : j' = 0
      · exact z
      · have q : 109 ∈ tl (ltext i' j') := ltext_m.mpr z
        rw [← h] at q
        exact (ltext_m.mp q hj).elim
    subst hj hj'
    have e : ltext i 0 = tx i := if_pos rfl
    have e' : ltext i' 0 = tx i' := if_pos rfl
    rw [e, e'] at h
    have z := congrArg intText? h
    rw [int_tx a, int_tx a'] at z
    exact ⟨Option.some.inj z, rfl⟩
  · have hj' : j' ≠ 0 := by
      have q : 109 ∈ tl (ltext i j) := ltext_m.mpr hj
      rw [h] at q
      exact ltext_m.mp q
    obtain ⟨hh, t, e, m, o, p⟩ := ltext_form (i := i) hj
    obtain ⟨hh', t', e', m', o', p'⟩ := ltext_form (i := i') hj'
    rw [e, e'] at h
    have z : Txt.partition (hh ++ "m" ++ t) "m" = Txt.partition (hh' ++ "m" ++ t') "m" := by rw [h]
    rw [ltext_part m, ltext_part m'] at z
    injection z with z1 z2
    injection z2 with _ z2
    subst z1 z2
    exact ⟨tl_inj2 a a' p p', hd_inj b b' o o'⟩
theorem len_hd {j : Int} (b : j.natAbs < 10 ^ 600) : (hd j).length ≤ 602 := by
  unfold hd
  split
  · decide
  · split
    · decide
    · rw [Str.length_append]
      exact Nat.add_le_add (len_tx b) (show ("m" : Str).length ≤ 1 by decide)
theorem len_lt {i j : Int} (a : i.natAbs < 10 ^ 600) (b : j.natAbs < 10 ^ 600) : (ltext i j).length ≤ 1204 := by
  unfold ltext
  split
  · exact Nat.le_trans (len_tx a) (by decide)
  · split
    · exact Nat.le_trans (len_hd b) (by decide)
    · rw [Str.length_append]
      exact Nat.add_le_add (len_hd b) (len_plus a)
/-! ### signs below 128 -/
def low (x : Str) : Prop := ∀ c ∈ tl x, c < 128
theorem low_app {x y : Str} (h : low x) (h' : low y) : low (x ++ y) := by
  intro c hc
  rw [tl_append] at hc
  rcases List.mem_append.mp hc with z | z
  · exact h c z
  · exact h' c z
theorem low_numL {n : Nat} : ∀ c ∈ numL n, c < 128 := fun c hc => by
  have := numL_digits n c hc
  omega
theorem low_tx (i : Int) : low (tx i) := by
  intro c hc
  cases i with
  | ofNat n =>
    rw [tl_nat] at hc
    exact low_numL c hc
  | negSucc m =>
    rw [tl_neg] at hc
    rcases List.mem_cons.mp hc with e | hc
    · omega
    · exact low_numL c hc
theorem low_plus (i : Int) : low (plus i) := by
  intro c hc
  rw [tl_plus] at hc
  split at hc
  · exact low_tx i c hc
  · rcases List.mem_cons.mp hc with e | hc
    · omega
    · exact low_tx i c hc
theorem low_m : low "m" := by
  intro c hc
  rw [tl_m] at hc
  simp at hc
  omega
theorem low_hd (j : Int) : low (hd j) := by
  unfold hd
  split
  · exact low_m
  · split
    · intro c hc
      rw [tl_mm] at hc
      simp at hc
      omega
    · exact low_app (low_tx j) low_m
theorem low_lt (i j : Int) : low (ltext i j) := by
  unfold ltext
  split
  · exact low_tx i
  · split
    · exact low_hd j
    · exact low_app (low_hd j) (low_plus i)
theorem ok_low {x : Str} (h : low x) : Dv.okD (.str x) = true := by
  have e : PyData.strOk x = true := by
    unfold PyData.strOk
    rw [← Array.all_toList, List.all_eq_true]
    exact fun c hc => decide_eq_true (Nat.lt_trans (h c hc) (by decide))
  simp [Dv.okD, Dv.toPy, SeqAt.shaped, PyData.canLay0, PyData.depth, e]
theorem deq_str (x y : Str) : Dv.deq (.str x) (.str y) = decide (x = y) := by
  show PyData.eqv (.str x) (.str y) = _
  rw [PyData.eqv]
  by_cases h : x = y <;> simp [h]
end TX
set_option Elab.async false
set_option linter.all false
set_option maxRecDepth 100000
set_option maxHeartbeats 4000000
namespace G
open TX
open PySem L2 Dv
def top (i : Nat) : Stmt := PySem.Challenge.pw_leastrooms_k50_lines_as_text.main.body.getD i (.Pass ⟨0, 0, 0, 0⟩)
abbrev s__wall : Stmt := top 0
abbrev s_is_integer : Stmt := top 7
abbrev s_is_between : Stmt := top 8
abbrev s_check_line_number : Stmt := top 11
abbrev s_line_text : Stmt := top 12
abbrev s__law_pool : Stmt := top 15
abbrev s__law_take : Stmt := top 16
abbrev s__law_number : Stmt := top 17
abbrev s__law_text : Stmt := top 18
abbrev s__law_read : Stmt := top 19
abbrev s_law : Stmt := top 20
abbrev s_Line___init__ : Stmt := L2.inClass (top 13) 0
abbrev s_Line___call__ : Stmt := L2.inClass (top 13) 1
abbrev s_Line___add__ : Stmt := L2.inClass (top 13) 2
abbrev s_Line___sub__ : Stmt := L2.inClass (top 13) 3
abbrev s_Line___mul__ : Stmt := L2.inClass (top 13) 4
abbrev s_Line___eq__ : Stmt := L2.inClass (top 13) 5
abbrev s_Line___str__ : Stmt := L2.inClass (top 13) 6
abbrev s_Line_through : Stmt := L2.inClass (top 13) 7
theorem sc__wall : FnScope ["k"] ["k"] (defScope s__wall) := ⟨rfl, rfl, rfl, by decide +kernel, rfl, by decide +kernel, by decide +kernel⟩
theorem sc_is_integer : FnScope ["thing"] ["thing"] (defScope s_is_integer) := ⟨rfl, rfl, rfl, by decide +kernel, rfl, by decide +kernel, by decide +kernel⟩
theorem sc_is_between : FnScope ["thing", "least", "most"] ["thing", "least", "most"] (defScope s_is_between) := ⟨rfl, rfl, rfl, by decide +kernel, rfl, by decide +kernel, by decide +kernel⟩
theorem sc_check_line_number : FnScope ["number"] ["number"] (defScope s_check_line_number) := ⟨rfl, rfl, rfl, by decide +kernel, rfl, by decide +kernel, by decide +kernel⟩
theorem sc_line_text : FnScope ["at_zero", "slope", "head"] ["at_zero", "slope"] (defScope s_line_text) := ⟨rfl, rfl, rfl, by decide +kernel, rfl, by decide +kernel, by decide +kernel⟩
theorem sc__law_pool : FnScope ["_law_script", "_law_k", "_law_cell", "_law_seed"] ["_law_script", "_law_k"] (defScope s__law_pool) := ⟨rfl, rfl, rfl, by decide +kernel, rfl, by decide +kernel, by decide +kernel⟩
theorem sc__law_take : FnScope ["_law_pool_here", "_law_many", "_law_found"] ["_law_pool_here", "_law_many"] (defScope s__law_take) := ⟨rfl, rfl, rfl, by decide +kernel, rfl, by decide +kernel, by decide +kernel⟩
theorem sc__law_number : FnScope ["_law_pool_here", "_law_great", "_law_turn", "_law_way", "_law_small"] ["_law_pool_here"] (defScope s__law_number) := ⟨rfl, rfl, rfl, by decide +kernel, rfl, by decide +kernel, by decide +kernel⟩
theorem sc__law_text : FnScope ["_law_zero", "_law_each", "_law_head"] ["_law_zero", "_law_each"] (defScope s__law_text) := ⟨rfl, rfl, rfl, by decide +kernel, rfl, by decide +kernel, by decide +kernel⟩
theorem sc__law_read : FnScope ["_law_text_here", "_law_m", "_law_each", "_law_head", "_law_sign", "_law_tail"] ["_law_text_here", "_law_m"] (defScope s__law_read) := ⟨rfl, rfl, rfl, by decide +kernel, rfl, by decide +kernel, by decide +kernel⟩
theorem sc_law : FnScope ["_law_script", "_law_k", "_law_pool_here", "_law_one", "_law_two", "_law_line", "_law_other", "_law_total", "_law_far", "_law_pair", "_law_made", "_law_m"] ["_law_script"] (defScope s_law) := ⟨rfl, rfl, rfl, by decide +kernel, rfl, by decide +kernel, by decide +kernel⟩
theorem sc_Line___init__ : FnScope ["self", "at_zero", "slope"] ["self", "at_zero", "slope"] (defScope s_Line___init__) := ⟨rfl, rfl, rfl, by decide +kernel, rfl, by decide +kernel, by decide +kernel⟩
theorem sc_Line___call__ : FnScope ["self", "m"] ["self", "m"] (defScope s_Line___call__) := ⟨rfl, rfl, rfl, by decide +kernel, rfl, by decide +kernel, by decide +kernel⟩
theorem sc_Line___add__ : FnScope ["self", "other"] ["self", "other"] (defScope s_Line___add__) := ⟨rfl, rfl, rfl, by decide +kernel, rfl, by decide +kernel, by decide +kernel⟩
theorem sc_Line___sub__ : FnScope ["self", "other"] ["self", "other"] (defScope s_Line___sub__) := ⟨rfl, rfl, rfl, by decide +kernel, rfl, by decide +kernel, by decide +kernel⟩
theorem sc_Line___mul__ : FnScope ["self", "k"] ["self", "k"] (defScope s_Line___mul__) := ⟨rfl, rfl, rfl, by decide +kernel, rfl, by decide +kernel, by decide +kernel⟩
theorem sc_Line___eq__ : FnScope ["self", "other"] ["self", "other"] (defScope s_Line___eq__) := ⟨rfl, rfl, rfl, by decide +kernel, rfl, by decide +kernel, by decide +kernel⟩
theorem sc_Line___str__ : FnScope ["self"] ["self"] (defScope s_Line___str__) := ⟨rfl, rfl, rfl, by decide +kernel, rfl, by decide +kernel, by decide +kernel⟩
theorem sc_Line_through : FnScope ["m", "value", "other", "further"] ["m", "value", "other", "further"] (defScope s_Line_through) := ⟨rfl, rfl, rfl, by decide +kernel, rfl, by decide +kernel, by decide +kernel⟩
structure Ad where
  f__wall : Addr
  d__wall : FuncData
  f_is_integer : Addr
  d_is_integer : FuncData
  f_is_between : Addr
  d_is_between : FuncData
  f_check_line_number : Addr
  d_check_line_number : FuncData
  f_line_text : Addr
  d_line_text : FuncData
  f__law_pool : Addr
  d__law_pool : FuncData
  f__law_take : Addr
  d__law_take : FuncData
  f__law_number : Addr
  d__law_number : FuncData
  f__law_text : Addr
  d__law_text : FuncData
  f__law_read : Addr
  d__law_read : FuncData
  f_law : Addr
  d_law : FuncData
  t_MOST_NUMBER : Tok
  t_MOST_LINE : Tok
  D : Addr
  fI : Addr
  C_BadNumber : Addr
  C_BadLine : Addr
  C_Line : Addr
  m_Line___init__ : Addr
  e_Line___init__ : FuncData
  m_Line___call__ : Addr
  e_Line___call__ : FuncData
  m_Line___add__ : Addr
  e_Line___add__ : FuncData
  m_Line___sub__ : Addr
  e_Line___sub__ : FuncData
  m_Line___mul__ : Addr
  e_Line___mul__ : FuncData
  m_Line___eq__ : Addr
  e_Line___eq__ : FuncData
  m_Line___str__ : Addr
  e_Line___str__ : FuncData
  m_Line_through : Addr
  e_Line_through : FuncData
  p_Line_through : Addr
structure Txt (P : Program) (K : PySem.W.Frag) (mg : Str → Option Value) (a : Ad) : Prop where
  f__wall : FnAt K mg "_wall" "_wall" s__wall ["k"] a.f__wall a.d__wall
  f_is_integer : FnAt K mg "is_integer" "is_integer" s_is_integer ["thing"] a.f_is_integer a.d_is_integer
  f_is_between : FnAt K mg "is_between" "is_between" s_is_between ["thing", "least", "most"] a.f_is_between a.d_is_between
  f_check_line_number : FnAt K mg "check_line_number" "check_line_number" s_check_line_number ["number"] a.f_check_line_number a.d_check_line_number
  f_line_text : FnAt K mg "line_text" "line_text" s_line_text ["at_zero", "slope"] a.f_line_text a.d_line_text
  f__law_pool : FnAt K mg "_law_pool" "_law_pool" s__law_pool ["_law_script", "_law_k"] a.f__law_pool a.d__law_pool
  f__law_take : FnAt K mg "_law_take" "_law_take" s__law_take ["_law_pool_here", "_law_many"] a.f__law_take a.d__law_take
  f__law_number : FnAt K mg "_law_number" "_law_number" s__law_number ["_law_pool_here"] a.f__law_number a.d__law_number
  f__law_text : FnAt K mg "_law_text" "_law_text" s__law_text ["_law_zero", "_law_each"] a.f__law_text a.d__law_text
  f__law_read : FnAt K mg "_law_read" "_law_read" s__law_read ["_law_text_here", "_law_m"] a.f__law_read a.d__law_read
  f_law : FnAt K mg "law" "law" s_law ["_law_script"] a.f_law a.d_law
  n_bool : mg "bool" = none
  n_int : mg "int" = none
  n_isinstance : mg "isinstance" = none
  n_len : mg "len" = none
  n_max : mg "max" = none
  n_min : mg "min" = none
  n_range : mg "range" = none
  n_str : mg "str" = none
  g_MOST_NUMBER : mg "MOST_NUMBER" = some (.int (1000000000000000000000000000000) a.t_MOST_NUMBER)
  g_MOST_LINE : mg "MOST_LINE" = some (.int (10000000000000000000000000000000000000000000000000000000000000000000000000000000000000000000000000000000000000000000000000000000000000000000000000000000000000000000000000000000000000000000000000000000000000000000000000000000000000000000000000000000000000000000000000000000000000000000000000000000000000000000000000000000000000000000000000000000000000000000000000000000000000000000000000000000000000000) a.t_MOST_LINE)
  room : PySem.RoomX.RoomTxt P K mg a.D a.fI
  c_BadNumber : PySem.RoomX.RoomCls K mg "BadNumber" a.C_BadNumber a.D a.fI
  i_BadNumber : L2.RoomIs K a.C_BadNumber
  c_BadLine : PySem.RoomX.RoomCls K mg "BadLine" a.C_BadLine a.D a.fI
  i_BadLine : L2.RoomIs K a.C_BadLine
  k_Line : ClsAt K mg "Line" a.C_Line
  m_Line___init__ : MetAt1 K "__init__" "Line.__init__" s_Line___init__ ["self", "at_zero", "slope"] (0) a.m_Line___init__ a.e_Line___init__
  m_Line___call__ : MetAt K "__call__" "Line.__call__" s_Line___call__ ["self", "m"] a.m_Line___call__ a.e_Line___call__
  m_Line___add__ : MetAt K "__add__" "Line.__add__" s_Line___add__ ["self", "other"] a.m_Line___add__ a.e_Line___add__
  m_Line___sub__ : MetAt K "__sub__" "Line.__sub__" s_Line___sub__ ["self", "other"] a.m_Line___sub__ a.e_Line___sub__
  m_Line___mul__ : MetAt K "__mul__" "Line.__mul__" s_Line___mul__ ["self", "k"] a.m_Line___mul__ a.e_Line___mul__
  m_Line___eq__ : MetAt K "__eq__" "Line.__eq__" s_Line___eq__ ["self", "other"] a.m_Line___eq__ a.e_Line___eq__
  m_Line___str__ : MetAt K "__str__" "Line.__str__" s_Line___str__ ["self"] a.m_Line___str__ a.e_Line___str__
  m_Line_through : MetAt K "through" "Line.through" s_Line_through ["m", "value", "other", "further"] a.m_Line_through a.e_Line_through
  mk_Line : L2.Mk K a.C_Line a.m_Line___init__
  nb_Line : NotB K a.C_Line
  na_Line_at_zero : L2.NoAttr K a.C_Line "at_zero"
  na_Line_slope : L2.NoAttr K a.C_Line "slope"
  na_Line_text : L2.NoAttr K a.C_Line "text"
  o_Line_add : L2.OwnOp K a.C_Line a.m_Line___add__ .Add
  o_Line_mul : L2.OwnOp K a.C_Line a.m_Line___mul__ .Mult
  o_Line_sub : L2.OwnOp K a.C_Line a.m_Line___sub__ .Sub
  eq_Line : L2.OwnEqC K a.C_Line a.m_Line___eq__
  st_Line : L2.OwnStrC K a.C_Line a.m_Line___str__
  kw_Line : L2.KBn K a.e_Line___init__ ["self", "at_zero", "slope"] 1 ["at_zero", "slope"] (fun us ws => us ++ ws) (fun vs zs => vs ++ zs)
  call_Line : StX.CallO K a.C_Line a.m_Line___call__
  s_Line_through : L2.SMet K a.C_Line (.type "type") "through" a.p_Line_through a.m_Line_through
/-! ### contracts -/
def isInt : D → Bool
  | .int _ => true
  | _ => false
def btw (lo hi : Int) : D → Bool
  | .int i => decide (lo ≤ i) && decide (i ≤ hi)
  | _ => false
def c_is_integer (Cl : Addr) : Ctr where
  n := 1
  f := fun ss k _ => match ss with
    | [.d x] => rOk Cl x ∧ k (.d (.bl (isInt x)))
    | _ => False
  mono := fun {ss k k' x x'} hk _ h => by
    split at h
    · exact ⟨h.1, hk _ h.2⟩
    · exact h.elim
def c_is_between (Cl : Addr) : Ctr where
  n := 3
  f := fun ss k _ => match ss with
    | [.d x, .d (.int lo), .d (.int hi)] => rOk Cl x ∧ k (.d (.bl (btw lo hi x)))
    | _ => False
  mono := fun {ss k k' x x'} hk _ h => by
    split at h
    · exact ⟨h.1, hk _ h.2⟩
    · exact h.elim
def far : Int := 10000000000000000000000000000000000000000000000000000000000000000000000000000000000000000000000000000000000000000000000000000000000000000000000000000000000000000000000000000000000000000000000000000000000000000000000000000000000000000000000000000000000000000000000000000000000000000000000000000000000000000000000000000000000000000000000000000000000000000000000000000000000000000000000000000000000000000
def bad (x : D) : XP := some [(("value" : Str), x)]
theorem chain_le {Γ : Gm} {x y z : DE} {lo i hi : Int} {k : DK} (hx : x Γ = fun k => k (.d (.int lo))) (hy : y Γ = fun k => k (.d (.int i))) (hz : z Γ = fun k => k (.d (.int hi))) (h : k (.d (.bl (decide (lo ≤ i) && decide (i ≤ hi))))) : dChain gLe gLe x y z Γ k := by
  unfold dChain
  rw [hx]
  dsimp only
  rw [hy]
  show (match Sl.d (.bl (decide (lo ≤ i))) with
    | .d (.bl true) => z Γ fun u => gLe (.d (.int i)) u k
    | .d (.bl false) => k (.d (.bl false))
    | _ => False)
  revert h
  cases decide (lo ≤ i)
  · exact fun h => h
  · intro h
    dsimp only
    rw [hz]
    exact h
section
variable {P : Program} {w : World} {K : PySem.W.Frag} {mg : Str → Option Value} {base : Heap} {a : Ad}
theorem ok_is_integer (T : Txt P K mg a) : FnOk P w K mg base (L2.CX P w) 1 a.f_is_integer a.d_is_integer ["thing"] ((c_is_integer a.C_Line).sp K) := by
  refine fn_ok (c_is_integer a.C_Line) T.f_is_integer.F sc_is_integer rfl (fun cdv A outer s H E xw hr po => ⟨_, _, (pdss_one (pds_ret (pd_and (pd_callB call_isi (oc_isX T.nb_Line .int) T.n_isinstance (by decide +kernel) (pda_cons (pd_v 0) (pda_cons (pd_ty (T := "int") T.n_int (by decide +kernel)) pda_nil))) (pd_one (pd_not (pd_callB call_isi (oc_isX T.nb_Line .bool) T.n_isinstance (by decide +kernel) (pda_cons (pd_v 0) (pda_cons (pd_ty (T := "bool") T.n_bool (by decide +kernel)) pda_nil)))))))), ?_⟩)
  intro ss kk xx hl h _
  unfold c_is_integer at h
  dsimp only at h
  split at h
  · rename_i x
    obtain ⟨h1, h2⟩ := h
    refine ⟨rfl, h1, ?_⟩
    cases x <;> first | exact h2 | exact ⟨rfl, h1, h2⟩
  · exact h.elim
theorem ok_is_between (T : Txt P K mg a) : FnOk P w K mg base (L2.CX P w) 2 a.f_is_between a.d_is_between ["thing", "least", "most"] ((c_is_between a.C_Line).sp K) := by
  refine fn_ok (c_is_between a.C_Line) T.f_is_between.F sc_is_between rfl (fun cdv A outer s H E xw hr po => ⟨_, _, (pdss_one (pds_ret (pd_and (pd_call (ok_is_integer T) (hr.mono (by decide)) T.f_is_integer.m T.f_is_integer.F.kp T.f_is_integer.b (pda_cons (pd_v 0) pda_nil)) (pd_one (pd_chLeLe (pd_v 1) (pd_v 0) (pd_v 2)))))), ?_⟩)
  intro ss kk xx hl h _
  unfold c_is_between at h
  dsimp only at h
  split at h
  · rename_i x lo hi
    obtain ⟨h1, h2⟩ := h
    refine ⟨rfl, h1, ?_⟩
    cases x <;> try exact h2
    rename_i i
    exact chain_le rfl rfl rfl h2
  · exact h.elim
def c_check (a : Ad) : Ctr where
  n := 1
  f := fun ss k xx => match ss with
    | [.d x] => rOk a.C_Line x ∧ cond (btw (-far) far x) (k (.d .non)) (xx a.C_BadLine (bad x))
    | _ => False
  mono := fun {ss k k' x x'} hk hx h => by
    split at h
    · rename_i y
      refine ⟨h.1, ?_⟩
      have z := h.2
      revert z
      cases btw (-far) far y <;> first | exact hk _ | exact hx _ _
    · exact h.elim
theorem ok_check_line_number (T : Txt P K mg a) : FnOk P w K mg base (L2.CX P w) 3 a.f_check_line_number a.d_check_line_number ["number"] ((c_check a).sp K) := by
  refine fn_ok (c_check a) T.f_check_line_number.F sc_check_line_number rfl (fun cdv A outer s H E xw hr po => ⟨_, _, (pdss_one (pds_if (pdt_not (pdt_val (pd_call (ok_is_between T) (hr.mono (by decide)) T.f_is_between.m T.f_is_between.F.kp T.f_is_between.b (pda_cons (pd_v 0) (pda_cons (pd_neg (pd_gI T.g_MOST_LINE)) (pda_cons (pd_gI T.g_MOST_LINE) pda_nil))))))
  (pdss_one (pds_raise rfl T.room T.c_BadLine hr (pda_cons (pd_v 0) pda_nil)))
  pdss_nil)), ?_⟩)
  intro ss kk xx hl h ew
  subst ew
  unfold c_check at h
  dsimp only at h
  split at h
  · rename_i x
    obtain ⟨h1, h2⟩ := h
    refine ⟨rfl, h1, ?_⟩
    show cond (!btw (-far) far x) _ _
    revert h2
    cases btw (-far) far x <;> exact fun z => z
  · exact h.elim
theorem log_lt {n : Nat} (h : n < 2 ^ 1900) : n.log2 < 1920 := by
  by_cases z : n = 0
  · subst z
    decide
  · exact Nat.lt_of_lt_of_le ((Nat.log2_lt z).mpr h) (by decide)
theorem dig_len {i : Int} (h : i.natAbs.log2 < 1920) : (Nat.toDigits 10 i.natAbs).length ≤ 900 := by
  have h1 : i.natAbs < 10 ^ 900 := by
    by_cases z : i.natAbs = 0
    · rw [z]
      exact Nat.pow_pos (by decide)
    · exact Nat.lt_trans (Nat.lt_of_lt_of_le (Nat.lt_log2_self (n := i.natAbs)) (Nat.pow_le_pow_right (by decide) h)) (by decide +kernel)
  have e := (Nat.length_repr_le_iff (n := i.natAbs) (by decide : 0 < 900)).mpr h1
  rwa [← String.length_toList, Nat.toList_repr] at e
theorem text_len {i : Int} (h : i.natAbs.log2 < 1920) : (Str.ofString (toString i)).length ≤ 998 := by
  have z := plus_len h
  unfold plus at z
  by_cases c : i < 0
  · cases i with
    | ofNat m => exact (Int.not_lt.mpr (Int.natCast_nonneg m) c).elim
    | negSucc m =>
      rw [text_neg]
      have h3 := dig_len h
      have h4 : (Nat.toDigits 10 (m + 1)).length ≤ 900 := h3
      simp [Str.length]
      omega
  · cases i with
    | ofNat m =>
      rw [PyProof.Rows.text_ofNat]
      have h3 := dig_len h
      have h4 : (Nat.toDigits 10 m).length ≤ 900 := h3
      simp [Str.length]
      omega
    | negSucc m => exact (c (Int.negSucc_lt_zero m)).elim
def c_line_text : Ctr where
  n := 2
  f := fun ss k _ => match ss with
    | [.d (.int i), .d (.int j)] => i.natAbs < 2 ^ 1900 ∧ j.natAbs < 2 ^ 1900 ∧ k (.d (.str (ltext i j)))
    | _ => False
  mono := fun {ss k k' x x'} hk _ h => by
    split at h
    · exact ⟨h.1, h.2.1, hk _ h.2.2⟩
    · exact h.elim
theorem to_k {k : DK} {x y : Str} (e : x = y) (h : k (.d (.str x))) : k (.d (.str y)) := e ▸ h
theorem ok_line_text (T : Txt P K mg a) : FnOk P w K mg base (L2.CX P w) 1 a.f_line_text a.d_line_text ["at_zero", "slope"] (c_line_text.sp K) := by
  refine fn_ok c_line_text T.f_line_text.F sc_line_text rfl (fun cdv A outer s H E xw hr po => ⟨_, _, (pdss_cons (pds_if (pdt_eq hr.units (pd_v 1) pd_int)
  (pdss_one (pds_ret (pd_callTy call_str_int oc_strI T.n_str (by decide +kernel) (pda_cons (pd_v 0) pda_nil))))
  pdss_nil)
  (pdss_cons (pds_set (i := 2) (pd_ifExp (pdt_eq hr.units (pd_v 1) pd_int) pd_str (pd_ifExp (pdt_eq hr.units (pd_v 1) (pd_neg pd_int)) pd_str (pd_joined (pdj_cons (pd_fmt (pd_v 1)) (pdj_cons pd_str pdj_nil))))) sc_line_text.nd)
  (pdss_one (pds_ret (pd_ifExp (pdt_eq hr.units (pd_v 0) pd_int) (pd_v 2) (pd_joined (pdj_cons (pd_fmt (pd_v 2)) (pdj_cons (pd_fmtP (pd_v 0)) pdj_nil)))))))), ?_⟩)
  intro ss kk xx hl h _
  unfold c_line_text at h
  dsimp only at h
  split at h
  · rename_i i j
    obtain ⟨h1, h2, h3⟩ := h
    have l1 : i.natAbs.log2 < 1920 := log_lt h1
    have l2 : j.natAbs.log2 < 1920 := log_lt h2
    refine ⟨rfl, rfl, ?_⟩
    rw [deq_int]
    unfold ltext at h3
    by_cases j0 : j = 0
    · rw [decide_eq_true j0]
      rw [if_pos j0] at h3
      exact ⟨l1, h3⟩
    rw [decide_eq_false j0]
    rw [if_neg j0] at h3
    have fin : ∀ x : Str, x.length ≤ 1000 → x = hd j → dRet (dIf (dB (dOp gEq (dVar 0) (dC (D.int 0)))) (dVar 2) (dJoin [dFmt (dVar 2), dFmtP (dVar 0)])) { nx := fun _ => kk (Sl.d D.non), rt := kk } [.d (.int i), .d (.int j), .d (.str x)] := fun x hx e => by
      refine ⟨rfl, rfl, ?_⟩
      rw [deq_int]
      by_cases i0 : i = 0
      · rw [decide_eq_true i0]
        rw [if_pos i0] at h3
        exact to_k e.symm h3
      rw [decide_eq_false i0]
      rw [if_neg i0] at h3
      have pl := plus_len l1
      refine ⟨Nat.le_trans hx (by decide), ?_, l1, ?_, ?_⟩
      · rw [Str.length_append]
        exact Nat.le_trans (Nat.add_le_add (show Str.empty.length ≤ 0 by decide) hx) (by decide)
      · rw [Str.length_append, Str.length_append]
        exact Nat.le_trans (Nat.add_le_add (Nat.add_le_add (show Str.empty.length ≤ 0 by decide) hx) pl) (by decide)
      · exact to_k (by rw [Str.empty_append, e]) h3
    refine ⟨rfl, rfl, ?_⟩
    rw [deq_int]
    by_cases j1 : j = 1
    · rw [decide_eq_true j1]
      exact fin _ (by decide) (by unfold hd; rw [if_pos j1])
    rw [decide_eq_false j1]
    refine ⟨rfl, rfl, ?_⟩
    show cond (deq (.int j) (.int (-1))) _ _
    rw [deq_int]
    by_cases jm : j = -1
    · rw [decide_eq_true jm]
      exact fin _ (by decide) (by unfold hd; rw [if_neg j1, if_pos jm])
    rw [decide_eq_false jm]
    have sl := text_len l2
    refine ⟨l2, ?_, ?_, fin _ ?_ ?_⟩
    · rw [Str.length_append]
      exact Nat.le_trans (Nat.add_le_add (show Str.empty.length ≤ 0 by decide) sl) (by decide)
    · rw [Str.length_append, Str.length_append]
      exact Nat.le_trans (Nat.add_le_add (Nat.add_le_add (show Str.empty.length ≤ 0 by decide) sl) (show (Str.ofString "m").length ≤ 1 by decide)) (by decide)
    · rw [Str.length_append, Str.length_append]
      exact Nat.le_trans (Nat.add_le_add (Nat.add_le_add (show Str.empty.length ≤ 0 by decide) sl) (show (Str.ofString "m").length ≤ 1 by decide)) (by decide)
    · unfold hd
      rw [if_neg j1, if_neg jm, Str.empty_append]
  · exact h.elim
theorem btw_int {x : D} (h : btw (-far) far x = true) : ∃ i : Int, x = .int i ∧ i.natAbs < 2 ^ 1900 := by
  cases x with
  | int i =>
    refine ⟨i, rfl, ?_⟩
    have z : (decide (-far ≤ i) && decide (i ≤ far)) = true := h
    rw [Bool.and_eq_true, decide_eq_true_eq, decide_eq_true_eq] at z
    have f1 : far < 2 ^ 1900 := by decide +kernel
    omega
  | _ => cases h
/-! ### Line -/
def line (i j : Int) (x : Str) : List (Str × D) := [("at_zero", .int i), ("slope", .int j), ("text", .str x)]
def c_init (a : Ad) : CtrI where
  n := 2
  f := fun ss k xx => match ss with
    | [.d x, .d y] => rOk a.C_Line x ∧ rOk a.C_Line y ∧ cond (btw (-far) far x) (cond (btw (-far) far y) (match x, y with
      | .int i, .int j => k (line i j (ltext i j))
      | _, _ => False) (xx a.C_BadLine (bad y))) (xx a.C_BadLine (bad x))
    | _ => False
  mono := fun {ss k k' x x'} hk hx h => by
    split at h
    · rename_i y z
      refine ⟨h.1, h.2.1, ?_⟩
      have q := h.2.2
      revert q
      cases btw (-far) far y <;> cases btw (-far) far z <;> first | exact hx _ _ | skip
      dsimp only [cond]
      split
      · exact fun q => hk _ q
      · exact fun q => q
    · exact h.elim
theorem ok_Line___init__ (T : Txt P K mg a) : FnOk P w K mg base (L2.CX P w) 4 a.m_Line___init__ a.e_Line___init__ ["self", "at_zero", "slope"] ((c_init a).sp K a.C_Line) := by
  refine fn_init (c_init a) T.m_Line___init__.F sc_Line___init__ rfl (fun cdv A outer s H E xw hr po => ⟨_, _, (pdss_cons (pds_expr (pd_callX (ok_check_line_number T) (hr.mono (by decide)) T.f_check_line_number.m T.f_check_line_number.F.kp T.f_check_line_number.b (pda_cons (pd_v 1) pda_nil)))
  (pdss_cons (pds_expr (pd_callX (ok_check_line_number T) (hr.mono (by decide)) T.f_check_line_number.m T.f_check_line_number.F.kp T.f_check_line_number.b (pda_cons (pd_v 2) pda_nil)))
  (pdss_cons (pds_fld (i := 0) T.k_Line.cl T.na_Line_at_zero (pd_v 1))
  (pdss_cons (pds_fld (i := 0) T.k_Line.cl T.na_Line_slope (pd_v 2))
  (pdss_one (pds_fld (i := 0) T.k_Line.cl T.na_Line_text (pd_call (ok_line_text T) (hr.mono (by decide)) T.f_line_text.m T.f_line_text.F.kp T.f_line_text.b (pda_cons (pd_v 1) (pda_cons (pd_v 2) pda_nil))))))))), ?_⟩)
  intro ss kk xx hl h ew
  subst ew
  unfold c_init at h
  dsimp only at h
  split at h
  · rename_i x y
    obtain ⟨h1, h2, h3⟩ := h
    refine ⟨rfl, h1, ?_⟩
    cases e1 : btw (-far) far x with
    | false =>
      rw [e1] at h3
      exact h3
    | true =>
      rw [e1] at h3
      refine ⟨rfl, h2, ?_⟩
      cases e2 : btw (-far) far y with
      | false =>
        rw [e2] at h3
        exact h3
      | true =>
        rw [e2] at h3
        obtain ⟨i, rfl, i1⟩ := btw_int e1
        obtain ⟨j, rfl, j1⟩ := btw_int e2
        refine ⟨rfl, (by decide), rfl, (by show 1 < 1000; decide), rfl, i1, j1, rfl, (by show 2 < 1000; decide), _, rfl, h3⟩
  · exact h.elim
def top30 : Int := 1000000000000000000000000000000
def c_Line___call__ (a : Ad) : Ctr where
  n := 2
  f := fun ss k xx => match ss with
    | [.d (.obj C fs), .d m] => C = a.C_Line ∧ ∃ i j t, fs = line i j t ∧ i.natAbs < 2 ^ 1900 ∧ j.natAbs < 2 ^ 1900 ∧ rOk a.C_Line m ∧ cond (btw 0 top30 m) (match m with
      | .int n => k (.d (.int (i + j * n)))
      | _ => False) (xx a.C_BadNumber (bad m))
    | _ => False
  mono := fun {ss k k' x x'} hk hx h => by
    split at h
    · rename_i m
      obtain ⟨h0, i, j, t, h1, h2, h3, h4, h5⟩ := h
      refine ⟨h0, i, j, t, h1, h2, h3, h4, ?_⟩
      revert h5
      cases btw 0 top30 m
      · exact hx _ _
      · dsimp only [cond]
        split
        · exact hk _
        · exact fun z => z
    · exact h.elim
theorem btw30 {x : D} (h : btw 0 top30 x = true) : ∃ i : Int, x = .int i ∧ 0 ≤ i ∧ i ≤ top30 := by
  cases x with
  | int i =>
    have z : (decide (0 ≤ i) && decide (i ≤ top30)) = true := h
    rw [Bool.and_eq_true, decide_eq_true_eq, decide_eq_true_eq] at z
    exact ⟨i, rfl, z.1, z.2⟩
  | _ => cases h
theorem ok_Line___call__ (T : Txt P K mg a) : FnOk P w K mg base (L2.CX P w) 3 a.m_Line___call__ a.e_Line___call__ ["self", "m"] ((c_Line___call__ a).sp K) := by
  refine fn_okD (c_Line___call__ a) T.m_Line___call__.F sc_Line___call__ rfl (fun cdv A outer s H E xw hr po => ⟨_, _, (pdss_cons (pds_if (pdt_not (pdt_val (pd_call (ok_is_between T) (hr.mono (by decide)) T.f_is_between.m T.f_is_between.F.kp T.f_is_between.b (pda_cons (pd_v 1) (pda_cons pd_int (pda_cons (pd_gI T.g_MOST_NUMBER) pda_nil))))))
  (pdss_one (pds_raise rfl T.room T.c_BadNumber hr (pda_cons (pd_v 1) pda_nil)))
  pdss_nil)
  (pdss_one (pds_ret (pd_add (pd_fld T.k_Line.cl T.na_Line_at_zero (pd_v 0)) (pd_mul (pd_fld T.k_Line.cl T.na_Line_slope (pd_v 0)) (pd_v 1)))))), ?_⟩)
  intro ss kk xx hl h ew
  subst ew
  unfold c_Line___call__ at h
  dsimp only at h
  split at h
  · rename_i C fs m
    obtain ⟨rfl, i, j, t, rfl, h2, h3, h4, h5⟩ := h
    refine ⟨rfl, h4, ?_⟩
    show cond (!btw 0 top30 m) _ _
    cases e1 : btw 0 top30 m with
    | false =>
      rw [e1] at h5
      exact h5
    | true =>
      rw [e1] at h5
      obtain ⟨n, rfl, n0, n1⟩ := btw30 e1
      have nb : n.natAbs < 2 ^ 100 := by
        have f1 : top30 < 2 ^ 100 := by decide +kernel
        omega
      exact ⟨rfl, _, rfl, rfl, _, rfl, mulW_of h3 nb (by decide) (by decide) (by decide), h5⟩
  · exact h.elim
/-- a line is made, or not -/
def newL (a : Ad) (i j : Int) (k : DK) (xx : Addr → XP → Prop) : Prop := cond (btw (-far) far (.int i)) (cond (btw (-far) far (.int j)) (k (.d (.obj a.C_Line (line i j (ltext i j))))) (xx a.C_BadLine (bad (.int j)))) (xx a.C_BadLine (bad (.int i)))
theorem newL_mono {i j : Int} {k k' : DK} {x x' : Addr → XP → Prop} (hk : ∀ s, k s → k' s) (hx : ∀ C p, x C p → x' C p) (h : newL a i j k x) : newL a i j k' x' := by
  revert h
  unfold newL
  cases btw (-far) far (.int i) <;> cases btw (-far) far (.int j) <;> first | exact hx _ _ | exact hk _
def sumR (a : Ad) (f : Int → Int → Int) (i j : Int) (y : D) (k : DK) (xx : Addr → XP → Prop) : Prop := match y with
  | .obj _ gs => ∃ i' j' t', gs = line i' j' t' ∧ newL a (f i i') (f j j') k xx
  | .int n => newL a (f i n) j k xx
  | y => xx a.C_BadLine (bad y)
def c_sum (a : Ad) (f : Int → Int → Int) : Ctr where
  n := 2
  f := fun ss k xx => match ss with
    | [.d (.obj C fs), .d y] => C = a.C_Line ∧ ∃ i j t, fs = line i j t ∧ rOk a.C_Line y ∧ sumR a f i j y k xx
    | _ => False
  mono := fun {ss k k' x x'} hk hx h => by
    split at h
    · rename_i y
      obtain ⟨h0, i, j, t, h1, h4, h5⟩ := h
      refine ⟨h0, i, j, t, h1, h4, ?_⟩
      cases y with
      | obj C gs =>
        obtain ⟨i', j', t', e, z⟩ := h5
        exact ⟨i', j', t', e, newL_mono hk hx z⟩
      | int n => exact newL_mono hk hx h5
      | _ => exact hx _ _ h5
    · exact h.elim
theorem ok_Line___add__ (T : Txt P K mg a) : FnOk P w K mg base (L2.CX P w) 6 a.m_Line___add__ a.e_Line___add__ ["self", "other"] ((c_sum a fun i j => i + j).sp K) := by
  refine fn_okD (c_sum a fun i j => i + j) T.m_Line___add__.F sc_Line___add__ rfl (fun cdv A outer s H E xw hr po => ⟨_, _, (pdss_cons (pds_if (pdt_val (pd_callB (call_isOwn T.k_Line.is) (oc_isC T.k_Line.is) T.n_isinstance (by decide +kernel) (pda_cons (pd_v 1) (pda_cons (pd_cls T.k_Line.gC) pda_nil))))
  (pdss_one (pds_ret (pd_newA T.mk_Line (ok_Line___init__ T) (hr.mono (by decide)) T.k_Line.gC T.m_Line___init__.b (pda_cons (pd_add (pd_fld T.k_Line.cl T.na_Line_at_zero (pd_v 0)) (pd_fld T.k_Line.cl T.na_Line_at_zero (pd_v 1))) (pda_cons (pd_add (pd_fld T.k_Line.cl T.na_Line_slope (pd_v 0)) (pd_fld T.k_Line.cl T.na_Line_slope (pd_v 1))) pda_nil)))))
  pdss_nil)
  (pdss_cons (pds_if (pdt_not (pdt_val (pd_call (ok_is_integer T) (hr.mono (by decide)) T.f_is_integer.m T.f_is_integer.F.kp T.f_is_integer.b (pda_cons (pd_v 1) pda_nil))))
  (pdss_one (pds_raise rfl T.room T.c_BadLine hr (pda_cons (pd_v 1) pda_nil)))
  pdss_nil)
  (pdss_one (pds_ret (pd_newA T.mk_Line (ok_Line___init__ T) (hr.mono (by decide)) T.k_Line.gC T.m_Line___init__.b (pda_cons (pd_add (pd_fld T.k_Line.cl T.na_Line_at_zero (pd_v 0)) (pd_v 1)) (pda_cons (pd_fld T.k_Line.cl T.na_Line_slope (pd_v 0)) pda_nil))))))), ?_⟩)
  intro ss kk xx hl h ew
  subst ew
  unfold c_sum at h
  dsimp only at h
  split at h
  · rename_i C fs y
    obtain ⟨rfl, i, j, t, rfl, h4, h5⟩ := h
    refine ⟨rfl, h4, ?_⟩
    cases y with
    | obj C gs =>
      cases (show C = a.C_Line from h4)
      obtain ⟨i', j', t', rfl, h6⟩ := h5
      show cond (isC a.C_Line (.obj a.C_Line (line i' j' t'))) _ _
      rw [show isC a.C_Line (.obj a.C_Line (line i' j' t')) = true from decide_eq_true rfl]
      exact ⟨rfl, _, rfl, rfl, _, rfl, rfl, _, rfl, rfl, _, rfl, rfl, trivial, trivial, h6⟩
    | int n => exact ⟨rfl, h4, rfl, _, rfl, rfl, _, rfl, rfl, trivial, trivial, h5⟩
    | scr _ => exact h4.elim
    | _ => exact ⟨rfl, h4, h5⟩
  · exact h.elim
theorem ok_Line___sub__ (T : Txt P K mg a) : FnOk P w K mg base (L2.CX P w) 6 a.m_Line___sub__ a.e_Line___sub__ ["self", "other"] ((c_sum a fun i j => i - j).sp K) := by
  refine fn_okD (c_sum a fun i j => i - j) T.m_Line___sub__.F sc_Line___sub__ rfl (fun cdv A outer s H E xw hr po => ⟨_, _, (pdss_cons (pds_if (pdt_val (pd_callB (call_isOwn T.k_Line.is) (oc_isC T.k_Line.is) T.n_isinstance (by decide +kernel) (pda_cons (pd_v 1) (pda_cons (pd_cls T.k_Line.gC) pda_nil))))
  (pdss_one (pds_ret (pd_newA T.mk_Line (ok_Line___init__ T) (hr.mono (by decide)) T.k_Line.gC T.m_Line___init__.b (pda_cons (pd_sub (pd_fld T.k_Line.cl T.na_Line_at_zero (pd_v 0)) (pd_fld T.k_Line.cl T.na_Line_at_zero (pd_v 1))) (pda_cons (pd_sub (pd_fld T.k_Line.cl T.na_Line_slope (pd_v 0)) (pd_fld T.k_Line.cl T.na_Line_slope (pd_v 1))) pda_nil)))))
  pdss_nil)
  (pdss_cons (pds_if (pdt_not (pdt_val (pd_call (ok_is_integer T) (hr.mono (by decide)) T.f_is_integer.m T.f_is_integer.F.kp T.f_is_integer.b (pda_cons (pd_v 1) pda_nil))))
  (pdss_one (pds_raise rfl T.room T.c_BadLine hr (pda_cons (pd_v 1) pda_nil)))
  pdss_nil)
  (pdss_one (pds_ret (pd_newA T.mk_Line (ok_Line___init__ T) (hr.mono (by decide)) T.k_Line.gC T.m_Line___init__.b (pda_cons (pd_sub (pd_fld T.k_Line.cl T.na_Line_at_zero (pd_v 0)) (pd_v 1)) (pda_cons (pd_fld T.k_Line.cl T.na_Line_slope (pd_v 0)) pda_nil))))))), ?_⟩)
  intro ss kk xx hl h ew
  subst ew
  unfold c_sum at h
  dsimp only at h
  split at h
  · rename_i C fs y
    obtain ⟨rfl, i, j, t, rfl, h4, h5⟩ := h
    refine ⟨rfl, h4, ?_⟩
    cases y with
    | obj C gs =>
      cases (show C = a.C_Line from h4)
      obtain ⟨i', j', t', rfl, h6⟩ := h5
      show cond (isC a.C_Line (.obj a.C_Line (line i' j' t'))) _ _
      rw [show isC a.C_Line (.obj a.C_Line (line i' j' t')) = true from decide_eq_true rfl]
      exact ⟨rfl, _, rfl, rfl, _, rfl, rfl, _, rfl, rfl, _, rfl, rfl, trivial, trivial, h6⟩
    | int n => exact ⟨rfl, h4, rfl, _, rfl, rfl, _, rfl, rfl, trivial, trivial, h5⟩
    | scr _ => exact h4.elim
    | _ => exact ⟨rfl, h4, h5⟩
  · exact h.elim
def c_mul (a : Ad) : Ctr where
  n := 2
  f := fun ss k xx => match ss with
    | [.d (.obj C fs), .d y] => C = a.C_Line ∧ ∃ i j t, fs = line i j t ∧ i.natAbs < 2 ^ 1900 ∧ j.natAbs < 2 ^ 1900 ∧ rOk a.C_Line y ∧ (match y with
      | .int n => n.natAbs < 2 ^ 1900 ∧ newL a (i * n) (j * n) k xx
      | y => xx a.C_BadLine (bad y))
    | _ => False
  mono := fun {ss k k' x x'} hk hx h => by
    split at h
    · rename_i y
      obtain ⟨h0, i, j, t, h1, h2, h3, h4, h5⟩ := h
      refine ⟨h0, i, j, t, h1, h2, h3, h4, ?_⟩
      cases y with
      | int n => exact ⟨h5.1, newL_mono hk hx h5.2⟩
      | _ => exact hx _ _ h5
    · exact h.elim
theorem ok_Line___mul__ (T : Txt P K mg a) : FnOk P w K mg base (L2.CX P w) 6 a.m_Line___mul__ a.e_Line___mul__ ["self", "k"] ((c_mul a).sp K) := by
  refine fn_okD (c_mul a) T.m_Line___mul__.F sc_Line___mul__ rfl (fun cdv A outer s H E xw hr po => ⟨_, _, (pdss_cons (pds_if (pdt_not (pdt_val (pd_call (ok_is_integer T) (hr.mono (by decide)) T.f_is_integer.m T.f_is_integer.F.kp T.f_is_integer.b (pda_cons (pd_v 1) pda_nil))))
  (pdss_one (pds_raise rfl T.room T.c_BadLine hr (pda_cons (pd_v 1) pda_nil)))
  pdss_nil)
  (pdss_one (pds_ret (pd_newA T.mk_Line (ok_Line___init__ T) (hr.mono (by decide)) T.k_Line.gC T.m_Line___init__.b (pda_cons (pd_mul (pd_fld T.k_Line.cl T.na_Line_at_zero (pd_v 0)) (pd_v 1)) (pda_cons (pd_mul (pd_fld T.k_Line.cl T.na_Line_slope (pd_v 0)) (pd_v 1)) pda_nil)))))), ?_⟩)
  intro ss kk xx hl h ew
  subst ew
  unfold c_mul at h
  dsimp only at h
  split at h
  · rename_i C fs y
    obtain ⟨rfl, i, j, t, rfl, h2, h3, h4, h5⟩ := h
    refine ⟨rfl, h4, ?_⟩
    cases y with
    | int n =>
      obtain ⟨h5, h6⟩ := h5
      exact ⟨rfl, _, rfl, mulW_of h2 h5 (by decide) (by decide) (by decide), rfl, _, rfl, mulW_of h3 h5 (by decide) (by decide) (by decide), rfl, trivial, trivial, h6⟩
    | scr _ => exact h4.elim
    | _ => exact h5
  · exact h.elim
/-- the parts of a line that count -/
def ends (x : D) : Option (Int × Int) := match x with
  | .obj _ ((_, .int i) :: (_, .int j) :: _) => some (i, j)
  | _ => none
def c_eq (a : Ad) : Ctr where
  n := 2
  f := fun ss k _ => match ss with
    | [.d (.obj C fs), .d y] => C = a.C_Line ∧ ∃ i j t, fs = line i j t ∧ rOk a.C_Line y ∧ (match y with
      | .obj _ gs => ∃ i' j' t', gs = line i' j' t' ∧ k (.d (.bl (decide (i = i') && decide (j = j'))))
      | _ => k (.d (.bl false)))
    | _ => False
  mono := fun {ss k k' x x'} hk hx h => by
    split at h
    · rename_i y
      obtain ⟨h0, i, j, t, h1, h4, h5⟩ := h
      refine ⟨h0, i, j, t, h1, h4, ?_⟩
      cases y with
      | obj C gs =>
        obtain ⟨i', j', t', e, z⟩ := h5
        exact ⟨i', j', t', e, hk _ z⟩
      | _ => exact hk _ h5
    · exact h.elim
theorem ok_Line___eq__ (T : Txt P K mg a) : FnOk P w K mg base (L2.CX P w) 1 a.m_Line___eq__ a.e_Line___eq__ ["self", "other"] ((c_eq a).sp K) := by
  refine fn_okD (c_eq a) T.m_Line___eq__.F sc_Line___eq__ rfl (fun cdv A outer s H E xw hr po => ⟨_, _, (pdss_one (pds_ret (pd_and (pd_callB (call_isOwn T.k_Line.is) (oc_isC T.k_Line.is) T.n_isinstance (by decide +kernel) (pda_cons (pd_v 1) (pda_cons (pd_cls T.k_Line.gC) pda_nil))) (pd_and (pd_eq hr.units (pd_fld T.k_Line.cl T.na_Line_at_zero (pd_v 0)) (pd_fld T.k_Line.cl T.na_Line_at_zero (pd_v 1))) (pd_one (pd_eq hr.units (pd_fld T.k_Line.cl T.na_Line_slope (pd_v 0)) (pd_fld T.k_Line.cl T.na_Line_slope (pd_v 1)))))))), ?_⟩)
  intro ss kk xx hl h ew
  subst ew
  unfold c_eq at h
  dsimp only at h
  split at h
  · rename_i C fs y
    obtain ⟨rfl, i, j, t, rfl, h4, h5⟩ := h
    refine ⟨rfl, h4, ?_⟩
    cases y with
    | obj C gs =>
      cases (show C = a.C_Line from h4)
      obtain ⟨i', j', t', rfl, h6⟩ := h5
      rw [show isC a.C_Line (.obj a.C_Line (line i' j' t')) = true from decide_eq_true rfl]
      refine ⟨rfl, _, rfl, rfl, _, rfl, rfl, rfl, ?_⟩
      rw [deq_int]
      revert h6
      cases decide (i = i')
      · exact fun z => z
      · intro z
        refine ⟨rfl, _, rfl, rfl, _, rfl, rfl, rfl, ?_⟩
        rw [deq_int]
        exact z
    | scr _ => exact h4.elim
    | _ => exact h5
  · exact h.elim
def c_str (a : Ad) : Ctr where
  n := 1
  f := fun ss k _ => match ss with
    | [.d (.obj C fs)] => C = a.C_Line ∧ ∃ i j t, fs = line i j t ∧ t.length ≤ 10000 ∧ k (.d (.str t))
    | _ => False
  mono := fun {ss k k' x x'} hk _ h => by
    split at h
    · obtain ⟨h0, i, j, t, h1, h2, h3⟩ := h
      exact ⟨h0, i, j, t, h1, h2, hk _ h3⟩
    · exact h.elim
theorem join_one (t : Str) : Txt.join "" [t] = t := by
  show Builtin.Str.glued "" [t] = t
  rw [PySem.StrLaws.glued_eq_join]
  rfl
theorem ok_Line___str__ (T : Txt P K mg a) : FnOk P w K mg base (L2.CX P w) 1 a.m_Line___str__ a.e_Line___str__ ["self"] ((c_str a).sp K) := by
  refine fn_okD (c_str a) T.m_Line___str__.F sc_Line___str__ rfl (fun cdv A outer s H E xw hr po => ⟨_, _, (pdss_one (pds_ret (pd_join pd_str (pd_lst (pda_cons (pd_fld T.k_Line.cl T.na_Line_text (pd_v 0)) pda_nil))))), ?_⟩)
  intro ss kk xx hl h ew
  unfold c_str at h
  dsimp only at h
  split at h
  · obtain ⟨rfl, i, j, t, rfl, h2, h3⟩ := h
    refine ⟨rfl, _, rfl, len_ok rfl, ?_, ?_⟩
    · show (t.length + 0) + 1 * Str.length (Str.ofString "") ≤ 16777216
      have e : Str.length (Str.ofString "") = 0 := by decide
      omega
    · exact to_k (join_one t).symm h3
  · exact h.elim
-- SPLIT
/-! ### the law's helpers -/
theorem ok__law_pool (T : Txt P K mg a) : FnOk P w K mg base (L2.CX P w) 1 a.f__law_pool a.d__law_pool ["_law_script", "_law_k"] (spPool K) := by
  refine T.f__law_pool.F.okX sc__law_pool (fun vs H Q E h => ?_) (fun cdv A outer s H vs Q E hr h => ?_)
  · obtain ⟨_, _, _, _, _, _, rfl, _⟩ := h
    rfl
  · obtain ⟨c, ad, ns, j, eK, hi, rfl, hS, hl, h0, h1, k⟩ := h
    refine ⟨_, pss_cons (ps_set (i := 2) sc__law_pool.nd rfl (.inl rfl) (pe_ifExp (pt_cmpR op_lt (pv 1) (pe_callB call_len_seq (by rfl) T.n_len PySem.boot_len (pa_cons (pv 0) pa_nil)) (nomark _)) (pe_ix ix_list (pv 0) (pv 1) (fun _ _ => rfl)) pe_int))
      (pss_cons (ps_set (i := 3) sc__law_pool.nd rfl (.inl rfl) (pe_op op_mulW (pe_callTy call_int1 (by rfl) T.n_int (by decide +kernel) (pa_cons (pe_op op_add (pe_op op_add (pe_op op_mod (pe_callTy call_int1 (by rfl) T.n_int (by decide +kernel) (pa_cons (pv 2) pa_nil)) pe_int) (pe_op op_mulW (pe_op op_mulW pe_int (pv 1)) (pv 1))) pe_int) pa_nil)) pe_int))
      (pss_one (ps_ret (pe_lst (pa_cons (pe_ifExp (pt_cmpR op_ge (pv 2) (pe_op op_pow pe_int pe_int) (nomark _)) (pv 2) pe_int) (pa_cons (pe_op op_add (pe_op op_mod (pe_callTy call_int1 (by rfl) T.n_int (by decide +kernel) (pa_cons (pv 3) pa_nil)) pe_int) pe_int) pa_nil)))))), ?_⟩
    refine ⟨_, rfl, _, rfl, ad, _, rfl, .inl hS, _, _, rfl, rfl, _, rfl, ?_⟩
    have fin : ∀ cell : Int, tSeq (tAsg (tOp (rI CMulW fun i j => V.int (i * j)) (tCB (fun xs H Q => (∃ i, xs = [V.int i] ∧ Q (V.int i) H) ∨ ∃ k, xs = [V.bl k] ∧ Q (V.int (if k = true then 1 else 0)) H) (tCons (tOp (rI0 fun i j => V.int (i + j)) (tOp (rI0 fun i j => V.int (i + j)) (tOp (rI (fun _ j => 0 < j) fun i j => V.int (i % j)) (tCB (fun xs H Q => (∃ i, xs = [V.int i] ∧ Q (V.int i) H) ∨ ∃ k, xs = [V.bl k] ∧ Q (V.int (if k = true then 1 else 0)) H) (tCons (tVar 2) tNil)) (tC (V.int 2147483629))) (tOp (rI CMulW fun i j => V.int (i * j)) (tOp (rI CMulW fun i j => V.int (i * j)) (tC (V.int 7919)) (tVar 1)) (tVar 1))) (tC (V.int 13))) tNil)) (tC (V.int 48271))) (gName 3))
        (tRet (tLst (tCons (tIf (tTest (tOp (rI0 fun i j => V.bl (decide (j ≤ i))) (tVar 2) (tOp (rI CPow fun i j => V.int (i ^ j.toNat)) (tC (V.int 10)) (tC (V.int 18))))) (tVar 2) (tC (V.int 0))) (tCons (tOp (rI0 fun i j => V.int (i + j)) (tOp (rI (fun _ j => 0 < j) fun i j => V.int (i % j)) (tCB (fun xs H Q => (∃ i, xs = [V.int i] ∧ Q (V.int i) H) ∨ ∃ k, xs = [V.bl k] ∧ Q (V.int (if k = true then 1 else 0)) H) (tCons (tVar 3) tNil)) (tC (V.int 2147483647))) (tC (V.int 1))) tNil)))) { nx := fun _ H' => Q .non H', rt := Q } [some (.ref ad), some (.int j), some (.int cell), none] H := by
      intro cell
      have b1 : (j.natAbs : Int) < 100 := by omega
      have j7 : j.natAbs < 2 ^ 7 := by omega
      have e1 : CMulW 7919 j := mulW_of (a := 13) (b := 7) (by decide) j7 (by decide) (by decide) (by decide)
      have e2 : CMulW (7919 * j) j := mulW_of (a := 20) (b := 7) (by omega) j7 (by decide) (by decide) (by decide)
      have n0 : 0 ≤ cell % 2147483629 := Int.emod_nonneg _ (by decide)
      have n1 : cell % 2147483629 < 2147483629 := Int.emod_lt_of_pos _ (by decide)
      have s0 : 0 ≤ 7919 * j * j := Int.mul_nonneg (by omega) h0
      have s1 : 7919 * j * j ≤ 7919 * 100 * 100 := Int.mul_le_mul (by omega) (by omega) h0 (by decide)
      have e3 : CMulW (cell % 2147483629 + 7919 * j * j + 13) 48271 := mulW_of (a := 33) (b := 16) (by omega) (by decide) (by decide) (by decide) (by decide)
      refine ⟨_, rfl, .inl ⟨_, rfl, _, _, rfl, rfl, (by show (0 : Int) < 2147483629; decide), _, rfl, _, _, rfl, rfl, e1, _, rfl, _, _, rfl, rfl, e2, _, _, rfl, rfl, _, _, rfl, rfl, .inl ⟨_, rfl, _, _, rfl, rfl, e3, ?_⟩⟩⟩
      refine ⟨_, rfl, _, _, rfl, rfl, ⟨by decide, by decide, by decide⟩, _, _, rfl, rfl, _, rfl, ?_⟩
      have m0 := Int.emod_nonneg ((cell % 2147483629 + 7919 * j * j + 13) * 48271) (b := 2147483647) (by decide)
      have m1 := Int.emod_lt_of_pos ((cell % 2147483629 + 7919 * j * j + 13) * 48271) (b := 2147483647) (by decide)
      refine ite2 (fun _ => ?_) (fun _ => ?_)
      · refine ⟨_, rfl, _, rfl, .inl ⟨_, rfl, _, _, rfl, rfl, (by show (0 : Int) < 2147483647; decide), _, _, rfl, rfl, (by show 2 ≤ sizeLine; decide), fun p np => ?_⟩⟩
        exact k p _ _ np (by omega) (by omega)
      · refine ⟨_, rfl, .inl ⟨_, rfl, _, _, rfl, rfl, (by show (0 : Int) < 2147483647; decide), _, _, rfl, rfl, (by show 2 ≤ sizeLine; decide), fun p np => ?_⟩⟩
        exact k p _ _ np (by omega) (by omega)
    refine ite2 (fun hlt => ?_) (fun _ => ?_)
    · have lt : j < (ns.length : Int) := by simpa using hlt
      have lj : j.toNat < ns.length := by omega
      have at_ : atI (ns.map V.int) j = some (V.int ns[j.toNat]) := by
        have z := atI_nat (xs := ns.map V.int) (j := j.toNat) (v := V.int ns[j.toNat]) (by rw [List.getElem?_map, List.getElem?_eq_getElem lj]; rfl)
        rwa [Int.toNat_of_nonneg h0] at z
      exact ⟨_, rfl, _, rfl, ad, _, j, _, rfl, rfl, hS, at_, fin _⟩
    · exact fin 0

theorem ok__law_take (T : Txt P K mg a) : FnOk P w K mg base (L2.CX P w) 1 a.f__law_take a.d__law_take ["_law_pool_here", "_law_many"] (cTake.sp K) := by
  refine T.f__law_take.F.okX sc__law_take (fun vs H Q E h => ?_) (fun cdv A outer s H vs Q E hr h => ?_)
  · obtain ⟨_, ss, _, _, r, hl, _⟩ := h
    rw [paired_len r, hl]
    rfl
  · obtain ⟨c, ss, eK, hi, r, hl, hf⟩ := h
    unfold cTake at hf
    dsimp only at hf
    split at hf
    · rename_i m
      obtain ⟨m0, m9, k⟩ := hf
      obtain ⟨v, w', rfl, ⟨p, ep, hp⟩, r2⟩ := paired2 r
      cases ep
      have e2 := sl_int r2
      subst e2
      obtain ⟨l, hH, x, y, rfl, y0, y1⟩ := c.plAt hi hp
      have sq : ∀ {H' : Hp} {x y : Int}, H' p = some (.lst [.int x, .int y]) → SqL K H' p [.int x, .int y] := fun h => .inl (.inl h)
      have div9 : CDivW x m := ⟨m0, m9⟩
      refine ⟨_, pss_cons (ps_if (pt_cmpR op_gt (pe_ix ix_list (pv 0) pe_int (fun _ _ => rfl)) pe_int (nomark _))
          (pss_cons (ps_set (i := 2) sc__law_take.nd rfl (.inl rfl) (pe_op op_mod (pe_callTy call_int1 (by rfl) T.n_int (by decide +kernel) (pa_cons (pe_ix ix_list (pv 0) pe_int (fun _ _ => rfl)) pa_nil)) (pv 1)))
            (pss_cons (ps_asg (pe_op op_fdivW (pe_ix ix_list (pv 0) pe_int (fun _ _ => rfl)) (pv 1)) (pg_sub (pv 0) pe_int set_list)) (pss_one (ps_ret (pv 2))))) pss_nil)
        (pss_cons (ps_asg (pe_op op_mod (pe_callTy call_int1 (by rfl) T.n_int (by decide +kernel) (pa_cons (pe_op op_add (pe_op op_mulW (pe_ix ix_list (pv 0) pe_int (fun _ _ => rfl)) pe_int) pe_int) pa_nil)) pe_int) (pg_sub (pv 0) pe_int set_list))
          (pss_one (ps_ret (pe_op op_mod (pe_op op_fdivW (pe_op op_mod (pe_callTy call_int1 (by rfl) T.n_int (by decide +kernel) (pa_cons (pe_op op_mulW (pe_ix ix_list (pv 0) pe_int (fun _ _ => rfl)) (pe_ix ix_list (pv 0) pe_int (fun _ _ => rfl))) pa_nil)) pe_int) pe_int) (pv 1))))), ?_⟩
      refine ⟨_, rfl, p, _, 0, _, rfl, rfl, sq hH, rfl, _, _, rfl, rfl, _, rfl, ?_⟩
      refine ite2 (fun _ => ?_) (fun _ => ?_)
      · refine ⟨_, rfl, p, _, 0, _, rfl, rfl, sq hH, rfl, .inl ⟨_, rfl, _, rfl, _, _, rfl, rfl, m0, _, rfl, p, _, 0, _, rfl, rfl, sq hH, rfl, _, rfl, _, _, rfl, rfl, div9, _, rfl, p, _, 0, 0, rfl, rfl, hH, rfl, ?_⟩⟩
        refine ⟨_, rfl, ?_⟩
        exact k _ (Int.emod_nonneg _ (by omega)) (Int.emod_lt_of_pos _ m0) _ _ ⟨fun b o nb eb => by
          rw [upd_ne (fun z => nb (by rw [z]; exact c.plG hp))]
          exact eb, c.plPut hi hp ⟨_, y, rfl, y0, y1⟩⟩ ⟨_, rfl, .int _⟩
      · have q0 := Int.emod_nonneg (y * 48271 + 11) (b := 2147483647) (by decide)
        have q1 := Int.emod_lt_of_pos (y * 48271 + 11) (b := 2147483647) (by decide)
        refine ⟨_, rfl, p, _, 1, _, rfl, rfl, sq hH, rfl, _, _, rfl, rfl, mulW_of (a := 33) (b := 16) (by omega) (by decide) (by decide) (by decide) (by decide), _, _, rfl, rfl, .inl ⟨_, rfl, _, _, rfl, rfl, (by show (0 : Int) < 2147483647; decide), _, rfl, p, _, 1, 1, rfl, rfl, hH, rfl, ?_⟩⟩
        have hH2 : upd H p (.lst [.int x, .int ((y * 48271 + 11) % 2147483647)]) p = some (.lst [.int x, .int ((y * 48271 + 11) % 2147483647)]) := upd_same
        refine ⟨_, rfl, p, _, 1, _, rfl, rfl, sq hH2, rfl, _, rfl, p, _, 1, _, rfl, rfl, sq hH2, rfl, _, _, rfl, rfl, mulW_of (a := 33) (b := 33) (by omega) (by omega) (by decide) (by decide) (by decide), .inl ⟨_, rfl, _, _, rfl, rfl, (by show (0 : Int) < 2147483629; decide), _, _, rfl, rfl, ⟨by decide, by decide⟩, _, rfl, _, _, rfl, rfl, m0, ?_⟩⟩
        exact k _ (Int.emod_nonneg _ (by omega)) (Int.emod_lt_of_pos _ m0) _ _ ⟨fun b o nb eb => by
          rw [upd_ne (fun z => nb (by rw [z]; exact c.plG hp))]
          exact eb, c.plPut hi hp ⟨x, _, rfl, q0, by omega⟩⟩ ⟨_, rfl, .int _⟩
    · exact hf.elim

def c_number : Ctr where
  n := 1
  f := fun ss k _ => match ss with
    | [.pool] => ∀ i : Int, i.natAbs < 10 ^ 60 → k (.d (.int i))
    | _ => False
  mono := fun {ss k k' x x'} hk _ h => by
    split at h
    · exact fun i z => hk _ (h i z)
    · exact h.elim
def numB : DS := (dAsg 1 (dOp gAdd (dOp (gI CMulW fun i j => .int (i * j)) (dVar 1) (dOp (gI CPow fun i j => .int (i ^ j.toNat)) (dC (.int 10)) (dC (.int 10)))) (dCall cTake xw0 (dCons (dVar 0) (dCons (dOp (gI CPow fun i j => .int (i ^ j.toNat)) (dC (.int 10)) (dC (.int 10))) dNil)))))
theorem num_step {E : DEnds} {g : Int} {s2 s3 s4 : Sl} (g0 : 0 ≤ g) (g1 : g < 10 ^ 60) (h : ∀ g', 0 ≤ g' → g' < (g + 1) * 10 ^ 10 → E.nx [.pool, .d (.int g'), s2, s3, s4]) : numB E [.pool, .d (.int g), s2, s3, s4] := by
  refine ⟨⟨by decide, by decide, by decide⟩, mulW_of (a := 300) (b := 64) (by omega) (by decide) (by decide) (by decide) (by decide), ⟨by decide, by decide, by decide⟩, rfl, by decide, by decide, fun r r0 r1 => ?_⟩
  have r2 : r < 10 ^ 10 := r1
  exact h (g * 10 ^ 10 + r) (by omega) (by omega)
theorem num_loop {E : DEnds} {s2 s3 s4 : Sl} {n : Nat} {lo : Int} {g : Int} {m : Nat} (hm : m + n ≤ 6) (g0 : 0 ≤ g) (g1 : g < (10 ^ 10) ^ m) (h : ∀ g' s2, 0 ≤ g' → g' < (10 ^ 10) ^ (m + n) → E.nx [.pool, .d (.int g'), s2, s3, s4]) : forD (dgName 2) numB E (intsFrom lo n) [.pool, .d (.int g), s2, s3, s4] := by
  induction n generalizing s2 lo g m with
  | zero => exact h g s2 g0 g1
  | succ n ih =>
    have big : ((10 : Int) ^ 10) ^ m ≤ 10 ^ 60 := by
      have q : m = 0 ∨ m = 1 ∨ m = 2 ∨ m = 3 ∨ m = 4 ∨ m = 5 := by omega
      rcases q with rfl | rfl | rfl | rfl | rfl | rfl <;> decide
    refine num_step g0 (by omega) fun g' a b => ih (m := m + 1) (by omega) a ?_ fun g2 s2 c d => h g2 s2 c (by rw [show m + (n + 1) = m + 1 + n by omega]; exact d)
    rw [Int.pow_succ]
    omega
theorem ok__law_number (T : Txt P K mg a) : FnOk P w K mg base (L2.CX P w) 2 a.f__law_number a.d__law_number ["_law_pool_here"] (c_number.sp K) := by
  refine fn_ok c_number T.f__law_number.F sc__law_number rfl (fun cdv A outer s H E xw hr po => ⟨_, _, (pdss_cons (pds_par (i := 3) (j := 4) (pda_cons (pd_call (ok__law_take T) (hr.mono (by decide)) T.f__law_take.m T.f__law_take.F.kp T.f__law_take.b (pda_cons (pd_v 0) (pda_cons pd_int pda_nil))) (pda_cons (pd_sub (pd_call (ok__law_take T) (hr.mono (by decide)) T.f__law_take.m T.f__law_take.F.kp T.f__law_take.b (pda_cons (pd_v 0) (pda_cons pd_int pda_nil))) pd_int) pda_nil)) rfl sc__law_number.nd)
  (pdss_cons (pds_set (i := 1) pd_int sc__law_number.nd)
  (pdss_cons (pds_for po rfl (pdi_range1 T.n_range (pda_cons pd_int pda_nil)) (pdg_name (i := 2) sc__law_number.nd)
  (pdss_one (pds_set (i := 1) (pd_add (pd_mul (pd_v 1) (pd_pow pd_int pd_int)) (pd_call (ok__law_take T) (hr.mono (by decide)) T.f__law_take.m T.f__law_take.F.kp T.f__law_take.b (pda_cons (pd_v 0) (pda_cons (pd_pow pd_int pd_int) pda_nil)))) sc__law_number.nd)))
  (pdss_one (pds_ret (pd_ix (pd_lst (pda_cons (pd_v 4) (pda_cons (pd_v 4) (pda_cons (pd_v 1) (pda_cons (pd_neg (pd_v 1)) pda_nil))))) (pd_v 3))))))), ?_⟩)
  intro ss kk xx hl h _
  unfold c_number at h
  dsimp only at h
  split at h
  · refine ⟨rfl, by decide, by decide, fun w w0 w1 => ⟨rfl, by decide, by decide, fun s s0 s1 => ?_⟩⟩
    refine ⟨⟨by decide, by decide⟩, ?_⟩
    refine num_loop (n := 6) (m := 0) (by decide) (Int.le_refl 0) (by decide) fun g s2 g0 g1 => ?_
    have g2 : g < 10 ^ 60 := g1
    refine ⟨len_ok rfl, ?_⟩
    have q : w = 0 ∨ w = 1 ∨ w = 2 ∨ w = 3 := by omega
    rcases q with rfl | rfl | rfl | rfl
    · exact h (s - 12) (by omega)
    · exact h (s - 12) (by omega)
    · exact h g (by omega)
    · exact h (-g) (by omega)
  · exact h.elim
-- SPLIT
abbrev Big (i : Int) : Prop := i.natAbs < 10 ^ 100
theorem Big.b6 {i : Int} (h : Big i) : i.natAbs < 10 ^ 600 := Nat.lt_trans h (by decide +kernel)
theorem Big.w19 {i : Int} (h : Big i) : i.natAbs < 2 ^ 1900 := Nat.lt_trans h (by decide +kernel)
theorem Big.lg {i : Int} (h : Big i) : i.natAbs.log2 < 1920 := log_lt h.w19
theorem Big.l101 {i : Int} (h : Big i) : (tx i).length ≤ 101 := by
  rw [TL.len_tl]
  cases i with
  | ofNat n =>
    rw [tl_nat]
    exact Nat.le_trans (TL.numL_len (by decide) h) (by decide)
  | negSucc m =>
    rw [tl_neg, List.length_cons]
    exact Nat.succ_le_succ (TL.numL_len (by decide) h)
theorem Big.p102 {i : Int} (h : Big i) : (plus i).length ≤ 102 := by
  have z := h.l101
  rw [TL.len_tl] at z ⊢
  rw [tl_plus]
  split
  · omega
  · rw [List.length_cons]
    omega
theorem Big.h102 {j : Int} (h : Big j) : (hd j).length ≤ 102 := by
  unfold hd
  split
  · decide
  · split
    · decide
    · rw [Str.length_append]
      exact Nat.add_le_add h.l101 (show ("m" : Str).length ≤ 1 by decide)
theorem big_len {i j : Int} (hi : Big i) (hj : Big j) : (ltext i j).length ≤ 204 := by
  unfold ltext
  split
  · exact Nat.le_trans hi.l101 (by decide)
  · split
    · exact Nat.le_trans hj.h102 (by decide)
    · rw [Str.length_append]
      exact Nat.add_le_add hj.h102 hi.p102
def c_text : Ctr where
  n := 2
  f := fun ss k _ => match ss with
    | [.d (.int i), .d (.int j)] => Big i ∧ Big j ∧ k (.d (.str (ltext i j)))
    | _ => False
  mono := fun {ss k k' x x'} hk _ h => by
    split at h
    · exact ⟨h.1, h.2.1, hk _ h.2.2⟩
    · exact h.elim
theorem ok__law_text (T : Txt P K mg a) : FnOk P w K mg base (L2.CX P w) 1 a.f__law_text a.d__law_text ["_law_zero", "_law_each"] (c_text.sp K) := by
  refine fn_ok c_text T.f__law_text.F sc__law_text rfl (fun cdv A outer s H E xw hr po => ⟨_, _, (pdss_cons (pds_if (pdt_eq hr.units (pd_v 1) pd_int)
  (pdss_one (pds_ret (pd_callTy call_str_int oc_strI T.n_str (by decide +kernel) (pda_cons (pd_v 0) pda_nil))))
  pdss_nil)
  (pdss_cons (pds_set (i := 2) (pd_ifExp (pdt_eq hr.units (pd_v 1) pd_int) pd_str (pd_ifExp (pdt_eq hr.units (pd_v 1) (pd_neg pd_int)) pd_str (pd_add (pd_callTy call_str_int oc_strI T.n_str (by decide +kernel) (pda_cons (pd_v 1) pda_nil)) pd_str))) sc__law_text.nd)
  (pdss_cons (pds_if (pdt_eq hr.units (pd_v 0) pd_int)
  (pdss_one (pds_ret (pd_v 2)))
  pdss_nil)
  (pdss_one (pds_ret (pd_ifExp (pdt_gt (pd_v 0) pd_int) (pd_add (pd_add (pd_v 2) pd_str) (pd_callTy call_str_int oc_strI T.n_str (by decide +kernel) (pda_cons (pd_v 0) pda_nil))) (pd_add (pd_v 2) (pd_callTy call_str_int oc_strI T.n_str (by decide +kernel) (pda_cons (pd_v 0) pda_nil))))))))), ?_⟩)
  intro ss kk xx hl h _
  unfold c_text at h
  dsimp only at h
  split at h
  · rename_i i j
    obtain ⟨h1, h2, h3⟩ := h
    refine ⟨rfl, rfl, ?_⟩
    rw [deq_int]
    unfold ltext at h3
    by_cases j0 : j = 0
    · rw [decide_eq_true j0]
      rw [if_pos j0] at h3
      exact ⟨h1.lg, h3⟩
    rw [decide_eq_false j0]
    rw [if_neg j0] at h3
    have fin : ∀ x : Str, x = hd j → ((dSeq (dIfS (dB (dOp gEq (dVar 0) (dC (.int 0)))) (dRet (dVar 2)) dNext) (dRet (dIf (dB (dOp (gI0 fun i j => .bl (decide (j < i))) (dVar 0) (dC (.int 0)))) (dOp gAdd (dOp gAdd (dVar 2) (dC (.str "+"))) (dCB gStrI (dCons (dVar 0) dNil))) (dOp gAdd (dVar 2) (dCB gStrI (dCons (dVar 0) dNil)))))) : DS) { nx := fun _ => kk (Sl.d D.non), rt := kk } [.d (.int i), .d (.int j), .d (.str x)] := fun x e => by
      subst e
      have hx := h2.h102
      have sl := h1.l101
      refine ⟨rfl, rfl, ?_⟩
      rw [deq_int]
      by_cases i0 : i = 0
      · rw [decide_eq_true i0]
        rw [if_pos i0] at h3
        exact h3
      rw [decide_eq_false i0]
      rw [if_neg i0] at h3
      show cond (decide (0 < i)) _ _
      by_cases ip : 0 < i
      · rw [decide_eq_true ip]
        have l1 : (Str.ofString "+").length = 1 := by decide
        refine ⟨by rw [l1]; omega, h1.lg, by rw [Str.length_append, l1]; exact Nat.le_trans (Nat.add_le_add (Nat.add_le_add hx (Nat.le_refl 1)) sl) (by decide), ?_⟩
        refine to_k ?_ h3
        unfold plus
        rw [if_neg (by omega), Str.append_assoc]
        congr 1
      · rw [decide_eq_false ip]
        refine ⟨h1.lg, Nat.le_trans (Nat.add_le_add hx sl) (by decide), ?_⟩
        refine to_k ?_ h3
        unfold plus
        rw [if_pos (by omega)]
    refine ⟨rfl, rfl, ?_⟩
    rw [deq_int]
    by_cases j1 : j = 1
    · rw [decide_eq_true j1]
      exact fin _ (by unfold hd; rw [if_pos j1])
    rw [decide_eq_false j1]
    refine ⟨rfl, rfl, ?_⟩
    show cond (deq (.int j) (.int (-1))) _ _
    rw [deq_int]
    by_cases jm : j = -1
    · rw [decide_eq_true jm]
      exact fin _ (by unfold hd; rw [if_neg j1, if_pos jm])
    rw [decide_eq_false jm]
    refine ⟨h2.lg, Nat.le_trans (Nat.add_le_add h2.l101 (show (Str.ofString "m").length ≤ 1 by decide)) (by decide), fin _ ?_⟩
    unfold hd
    rw [if_neg j1, if_neg jm]
  · exact h.elim
def c_read : Ctr where
  n := 2
  f := fun ss k _ => match ss with
    | [.d (.str x), .d (.int m)] => ∃ i j, x = ltext i j ∧ Big i ∧ Big j ∧ m.natAbs < 2 ^ 100 ∧ k (.d (.int (j * m + i)))
    | _ => False
  mono := fun {ss k k' x x'} hk _ h => by
    split at h
    · obtain ⟨i, j, h0, h1, h2, h3, h4⟩ := h
      exact ⟨i, j, h0, h1, h2, h3, hk _ h4⟩
    · exact h.elim
theorem eq_k {k : DK} {x y : Int} (e : x = y) (h : k (.d (.int x))) : k (.d (.int y)) := e ▸ h
theorem ok__law_read (T : Txt P K mg a) : FnOk P w K mg base (L2.CX P w) 1 a.f__law_read a.d__law_read ["_law_text_here", "_law_m"] (c_read.sp K) := by
  refine fn_ok c_read T.f__law_read.F sc__law_read rfl (fun cdv A outer s H E xw hr po => ⟨_, _, (pdss_cons (pds_if (pdt_notInS pd_str (pd_v 0))
  (pdss_one (pds_ret (pd_callTy (CallR.or call_int_str call_int1) (oc_intA oc_int) T.n_int (by decide +kernel) (pda_cons (pd_v 0) pda_nil))))
  pdss_nil)
  (pdss_cons (pds_asg (pd_part (pd_v 0) pd_str) (pdg_tup rfl (pdgs_cons (pdg_name (i := 3) sc__law_read.nd) (pdgs_cons (pdg_name (i := 4) sc__law_read.nd) (pdgs_cons (pdg_name (i := 5) sc__law_read.nd) pdgs_nil)))))
  (pdss_cons (pds_set (i := 2) (pd_ifExp (pdt_eq hr.units (pd_v 3) pd_str) pd_int (pd_ifExp (pdt_eq hr.units (pd_v 3) pd_str) (pd_neg pd_int) (pd_callTy (CallR.or call_int_str call_int1) (oc_intA oc_int) T.n_int (by decide +kernel) (pda_cons (pd_v 3) pda_nil)))) sc__law_read.nd)
  (pdss_one (pds_ret (pd_add (pd_mul (pd_v 2) (pd_v 1)) (pd_ifExp (pdt_eq hr.units (pd_v 5) pd_str) pd_int (pd_callTy (CallR.or call_int_str call_int1) (oc_intA oc_int) T.n_int (by decide +kernel) (pda_cons (pd_v 5) pda_nil))))))))), ?_⟩)
  intro ss kk xx hl h _
  unfold c_read at h
  dsimp only at h
  split at h
  · obtain ⟨i, j, rfl, h1, h2, h3, h4⟩ := h
    rename_i m
    refine ⟨109, by decide +kernel, ?_⟩
    by_cases j0 : j = 0
    · subst j0
      have e : ltext i 0 = tx i := if_pos rfl
      show cond (!decide (109 ∈ (ltext i 0).cps.toList)) _ _
      rw [show (!decide (109 ∈ (ltext i 0).cps.toList)) = true by rw [e, decide_eq_false (m_tx i)]; rfl]
      refine ⟨i, by rw [e]; exact int_tx h1.b6, Nat.le_trans (big_len h1 h2) (by decide), ?_⟩
      exact eq_k (by simp) h4
    · show cond (!decide (109 ∈ (ltext i j).cps.toList)) _ _
      rw [show (!decide (109 ∈ (ltext i j).cps.toList)) = false by rw [decide_eq_true (ltext_m.mpr j0)]; rfl]
      obtain ⟨hh, t, e, m', o, p⟩ := ltext_form (i := i) j0
      refine ⟨by decide +kernel, Nat.le_trans (big_len h1 h2) (by decide), ?_⟩
      have pt : Txt.partition (ltext i j) "m" = (hh, ("m" : Str), t) := by rw [e]; exact ltext_part m'
      have lt := big_len h1 h2
      rw [e, Str.length_append, Str.length_append] at lt
      refine ⟨rfl, ?_⟩
      show ((dSeq (dAsg 2 (dIf (dB (dOp gEq (dVar 3) (dC (.str "")))) (dC (.int 1)) (dIf (dB (dOp gEq (dVar 3) (dC (.str "-")))) (dUnI (fun i => -i) (dC (.int 1))) (dCB gIntA (dCons (dVar 3) dNil))))) (dRet (dOp gAdd (dOp (gI CMulW fun i j => .int (i * j)) (dVar 2) (dVar 1)) (dIf (dB (dOp gEq (dVar 5) (dC (.str "")))) (dC (.int 0)) (dCB gIntA (dCons (dVar 5) dNil)))))) : DS) { nx := fun _ => kk (Sl.d D.non), rt := kk } [.d (.str (ltext i j)), .d (.int m), .any, .d (.str (Txt.partition (ltext i j) "m").1), .d (.str (Txt.partition (ltext i j) "m").2.1), .d (.str (Txt.partition (ltext i j) "m").2.2)]
      rw [pt]
      show ((dSeq (dAsg 2 (dIf (dB (dOp gEq (dVar 3) (dC (.str "")))) (dC (.int 1)) (dIf (dB (dOp gEq (dVar 3) (dC (.str "-")))) (dUnI (fun i => -i) (dC (.int 1))) (dCB gIntA (dCons (dVar 3) dNil))))) (dRet (dOp gAdd (dOp (gI CMulW fun i j => .int (i * j)) (dVar 2) (dVar 1)) (dIf (dB (dOp gEq (dVar 5) (dC (.str "")))) (dC (.int 0)) (dCB gIntA (dCons (dVar 5) dNil)))))) : DS) { nx := fun _ => kk (Sl.d D.non), rt := kk } [.d (.str (ltext i j)), .d (.int m), .any, .d (.str hh), .d (.str "m"), .d (.str t)]
      have tailOk : ∀ v : Int, v = j → ((dRet (dOp gAdd (dOp (gI CMulW fun i j => .int (i * j)) (dVar 2) (dVar 1)) (dIf (dB (dOp gEq (dVar 5) (dC (.str "")))) (dC (.int 0)) (dCB gIntA (dCons (dVar 5) dNil))))) : DS) { nx := fun _ => kk (Sl.d D.non), rt := kk } [.d (.str (ltext i j)), .d (.int m), .d (.int v), .d (.str hh), .d (.str "m"), .d (.str t)] := fun v ev => by
        subst ev
        refine ⟨mulW_of h2.w19 h3 (by decide) (by decide) (by decide), ?_⟩
        rcases p with ⟨rfl, i0⟩ | ⟨rfl, i0⟩
        · refine ⟨by decide +kernel, by decide +kernel, ?_⟩
          rw [show deq (.str Str.empty) (.str (Str.ofString "")) = true by decide +kernel]
          exact eq_k (by rw [i0]) h4
        · refine ⟨ok_low (low_plus i), by decide +kernel, ?_⟩
          rw [deq_str, decide_eq_false (fun z => plus_ne i (congrArg TL.tl z))]
          exact ⟨i, int_plus h1.b6, by omega, h4⟩
      rcases o with ⟨rfl, v⟩ | ⟨rfl, v⟩ | ⟨rfl, v, v'⟩
      · refine ⟨by decide +kernel, by decide +kernel, ?_⟩
        rw [show deq (.str Str.empty) (.str (Str.ofString "")) = true by decide +kernel]
        exact tailOk 1 v.symm
      · refine ⟨by decide +kernel, by decide +kernel, ?_⟩
        rw [show deq (.str (Str.ofString "-")) (.str (Str.ofString "")) = false by decide +kernel]
        refine ⟨by decide +kernel, by decide +kernel, ?_⟩
        rw [show deq (.str (Str.ofString "-")) (.str (Str.ofString "-")) = true by decide +kernel]
        exact tailOk (-1) v.symm
      · refine ⟨ok_low (low_tx j), by decide +kernel, ?_⟩
        rw [deq_str, decide_eq_false (fun z => (tx_ne j).1 (congrArg TL.tl z))]
        refine ⟨ok_low (low_tx j), by decide +kernel, ?_⟩
        rw [deq_str, decide_eq_false (fun z => (tx_ne j).2 (congrArg TL.tl z))]
        exact ⟨j, int_tx h2.b6, by omega, tailOk j rfl⟩
  · exact h.elim
-- SPLIT
/-! ### the law -/
theorem btw_big {i : Int} (h : Big i) : btw (-far) far (.int i) = true := by
  have f0 : (10 : Int) ^ 100 ≤ far := by decide +kernel
  have h' : i.natAbs < 10 ^ 100 := h
  show (decide (-far ≤ i) && decide (i ≤ far)) = true
  rw [Bool.and_eq_true, decide_eq_true_eq, decide_eq_true_eq]
  omega
abbrev ln (a : Ad) (i j : Int) : D := .obj a.C_Line (line i j (ltext i j))
abbrev st (a : Ad) (ns : List Int) (s1 s9 s10 s11 : Sl) (p q p' q' f : Int) : Gm :=
  [.d (.scr (intD ns)), s1, .pool, .d (.lst [.int p, .int q]), .d (.lst [.int p', .int q']), .d (ln a p q), .d (ln a p' q'), .d (ln a (p + p') (q + q')), .d (.int f), s9, s10, s11]
theorem str_ln {a : Ad} {i j : Int} {k : DK} (hi : Big i) (hj : Big j) (h : k (.d (.str (ltext i j)))) : gStrO (c_str a) a.C_Line [.d (ln a i j)] k :=
  ⟨rfl, rfl, i, j, _, rfl, Nat.le_trans (big_len hi hj) (by decide), _, rfl, h⟩
theorem new_big {a : Ad} {i j : Int} {k : DK} {xx : Addr → XP → Prop} (hi : Big i) (hj : Big j) (h : k (.d (ln a i j))) : newL a i j k xx := by
  unfold newL
  rw [btw_big hi, btw_big hj]
  exact h
theorem ok_ln (i j : Int) : okD (.str (ltext i j)) = true := ok_low (low_lt i j)
theorem deq_l2 (i j i' j' : Int) : deq (.lst [.int i, .int j]) (.lst [.int i', .int j']) = (decide (i = i') && decide (j = j')) := by
  show PyData.eqv (.list [.int i, .int j]) (.list [.int i', .int j']) = _
  by_cases h : i = i' <;> by_cases h2 : j = j' <;> simp [PyData.eqv, PyData.eqvAll, h, h2]
theorem ok_l2 (n m : Int) : okD (.lst [.int n, .int m]) = true := by simp [okD, toPy, toPys, SeqAt.shaped, PyData.canLay0, PyData.canLayAll0, PyData.depth, PyData.depthAll]
theorem deq_lt {i j i' j' : Int} (a : Big i) (b : Big j) (a' : Big i') (b' : Big j') : deq (.str (ltext i j)) (.str (ltext i' j')) = (decide (i = i') && decide (j = j')) := by
  rw [deq_str]
  by_cases h : i = i' ∧ j = j'
  · obtain ⟨rfl, rfl⟩ := h
    simp
  · rw [decide_eq_false (fun z => h (ltext_inj a.b6 b.b6 a'.b6 b'.b6 z))]
    cases z : decide (i = i') && decide (j = j')
    · rfl
    · simp at z
      exact (h z).elim
section
variable {E : DEnds} {ns : List Int} {s1 s9 s10 s11 : Sl} {p q p' q' f : Int}
def blk5 (a : Ad) : DS := (dSeq (dIfS (dOr (dB (dOp gNe (dCB (gStrO (c_str a) a.C_Line) (dCons (dVar 10) dNil)) (dCall c_text xw0 (dCons (dOp gIx (dVar 9) (dC (.int 0))) (dCons (dOp gIx (dVar 9) (dC (.int 1))) dNil))))) (dB (dOp gNe (dCB (gStrO (c_str a) a.C_Line) (dCons (dVar 10) dNil)) (dCB (gStrO (c_str a) a.C_Line) (dCons (dVar 10) dNil))))) (dRet (dC (.bl false))) dNext) (dFor (diSeq (dLst (dCons (dC (.int 0)) (dCons (dC (.int 1)) (dCons (dVar 8) dNil))))) (dgName 11) (dIfS (dB (dOp gNe (dCall c_read xw0 (dCons (dCB (gStrO (c_str a) a.C_Line) (dCons (dVar 10) dNil)) (dCons (dVar 11) dNil))) (dCallO (c_Line___call__ a) a.C_Line xw0 (dVar 10) (dCons (dVar 11) dNil)))) (dRet (dC (.bl false))) dNext)))
theorem blk5_ok {a : Ad} {i j : Int} (f0 : 0 ≤ f) (f1 : f < 10 ^ 9) (hi : Big i) (hj : Big j) (h : ∀ s11, E.nx (st a ns s1 (.d (.lst [.int i, .int j])) (.d (ln a i j)) s11 p q p' q' f)) : blk5 a E (st a ns s1 (.d (.lst [.int i, .int j])) (.d (ln a i j)) s11 p q p' q' f) := by
  refine str_ln hi hj ⟨rfl, hi, hj, ok_ln _ _, ok_ln _ _, ?_⟩
  show cond (!deq (.str (ltext i j)) (.str (ltext i j))) _ _
  rw [deq_self (ok_ln _ _)]
  refine str_ln hi hj (str_ln hi hj ⟨ok_ln _ _, ok_ln _ _, ?_⟩)
  show cond (!deq (.str (ltext i j)) (.str (ltext i j))) _ _
  rw [deq_self (ok_ln _ _)]
  refine ⟨len_ok rfl, ?_⟩
  refine forD_inv (fun Γ => ∃ s11, Γ = st a ns s1 (.d (.lst [.int i, .int j])) (.d (ln a i j)) s11 p q p' q' f) ?_ _ ?_ _ ⟨_, rfl⟩
  · rintro Γ ⟨s11, rfl⟩
    exact h s11
  · rintro g hg Γ ⟨s11, rfl⟩ N hN
    have key : ∀ m : Int, 0 ≤ m → m < 10 ^ 9 → g = .int m → dgName 11 g (st a ns s1 (.d (.lst [.int i, .int j])) (.d (ln a i j)) s11 p q p' q' f) fun Γ' => ((dIfS (dB (dOp gNe (dCall c_read xw0 (dCons (dCB (gStrO (c_str a) a.C_Line) (dCons (dVar 10) dNil)) (dCons (dVar 11) dNil))) (dCallO (c_Line___call__ a) a.C_Line xw0 (dVar 10) (dCons (dVar 11) dNil)))) (dRet (dC (.bl false))) dNext) : DS) { E with nx := N, ct := N, bk := E.nx } Γ' := by
      rintro m m0 m1 rfl
      have mb : m.natAbs < 2 ^ 100 := by omega
      refine str_ln hi hj ⟨rfl, i, j, rfl, hi, hj, mb, rfl, rfl, rfl, i, j, _, rfl, hi.w19, hj.w19, trivial, ?_⟩
      rw [show btw 0 top30 (.int m) = true from Bool.and_eq_true_iff.mpr ⟨decide_eq_true m0, decide_eq_true (by
        have e : top30 = 10 ^ 30 := by decide +kernel
        omega)⟩]
      refine ⟨rfl, rfl, ?_⟩
      show cond (!deq (.int (j * m + i)) (.int (i + j * m))) _ _
      rw [Int.add_comm, deq_self rfl]
      exact hN _ ⟨_, rfl⟩
    rcases List.mem_cons.mp hg with e | hg
    · exact key 0 (by decide) (by decide) e
    rcases List.mem_cons.mp hg with e | hg
    · exact key 1 (by decide) (by decide) e
    rcases List.mem_cons.mp hg with e | hg
    · exact key f f0 f1 e
    cases hg
def tail5 (a : Ad) : DS := (dSeq (dFor (diSeq (dLst (dCons (dTup (dCons (dVar 3) (dCons (dVar 5) dNil))) (dCons (dTup (dCons (dVar 4) (dCons (dVar 6) dNil))) (dCons (dTup (dCons (dLst (dCons (dOp gAdd (dOp gIx (dVar 3) (dC (.int 0))) (dOp gIx (dVar 4) (dC (.int 0)))) (dCons (dOp gAdd (dOp gIx (dVar 3) (dC (.int 1))) (dOp gIx (dVar 4) (dC (.int 1)))) dNil))) (dCons (dVar 7) dNil))) dNil))))) (dgTup 2 (dgCons (dgName 9) (dgCons (dgName 10) dgNil))) (dSeq (dIfS (dOr (dB (dOp gNe (dCB (gStrO (c_str a) a.C_Line) (dCons (dVar 10) dNil)) (dCall c_text xw0 (dCons (dOp gIx (dVar 9) (dC (.int 0))) (dCons (dOp gIx (dVar 9) (dC (.int 1))) dNil))))) (dB (dOp gNe (dCB (gStrO (c_str a) a.C_Line) (dCons (dVar 10) dNil)) (dCB (gStrO (c_str a) a.C_Line) (dCons (dVar 10) dNil))))) (dRet (dC (.bl false))) dNext) (dFor (diSeq (dLst (dCons (dC (.int 0)) (dCons (dC (.int 1)) (dCons (dVar 8) dNil))))) (dgName 11) (dIfS (dB (dOp gNe (dCall c_read xw0 (dCons (dCB (gStrO (c_str a) a.C_Line) (dCons (dVar 10) dNil)) (dCons (dVar 11) dNil))) (dCallO (c_Line___call__ a) a.C_Line xw0 (dVar 10) (dCons (dVar 11) dNil)))) (dRet (dC (.bl false))) dNext)))) (dSeq (dIfS (dOr (dB (dOp gNe (dOp gEq (dCB (gStrO (c_str a) a.C_Line) (dCons (dVar 5) dNil)) (dCB (gStrO (c_str a) a.C_Line) (dCons (dVar 6) dNil))) (dOp (gEqO (c_eq a) a.C_Line (fun c => c) gEq) (dVar 5) (dVar 6)))) (dB (dOp gNe (dOp gEq (dVar 3) (dVar 4)) (dOp (gEqO (c_eq a) a.C_Line (fun c => c) gEq) (dVar 5) (dVar 6))))) (dRet (dC (.bl false))) dNext) (dSeq (dIfS (dOr (dB (dOp gNe (dCB (gStrO (c_str a) a.C_Line) (dCons (dNew (c_init a) a.C_Line [.int (0)] xw0 (dCons (dOp gIx (dVar 3) (dC (.int 0))) dNil)) dNil)) (dCB gStrI (dCons (dOp gIx (dVar 3) (dC (.int 0))) dNil)))) (dOr (dB (dOp gNe (dCB (gStrO (c_str a) a.C_Line) (dCons (dOpO (c_sum a fun i j => i - j) a.C_Line xw0 (dVar 5) (dVar 5)) dNil)) (dC (.str "0")))) (dB (dOp gNe (dCB (gStrO (c_str a) a.C_Line) (dCons (dOpO (c_mul a) a.C_Line xw0 (dVar 5) (dC (.int 0))) dNil)) (dC (.str "0")))))) (dRet (dC (.bl false))) dNext) (dIfS (dB (dOp gNe (dCB (gStrO (c_str a) a.C_Line) (dCons (dVar 5) dNil)) (dCall c_text xw0 (dCons (dOp gIx (dVar 3) (dC (.int 0))) (dCons (dOp gIx (dVar 3) (dC (.int 1))) dNil))))) (dRet (dC (.bl false))) dNext))))
theorem seq_to {s r : DS} {D : DEnds} {Γ : Gm} (h : s { D with nx := r D } Γ) : dSeq s r D Γ := h
theorem tail5_ok {a : Ad} (f0 : 0 ≤ f) (f1 : f < 10 ^ 9) (hp : Big p) (hq : Big q) (hp' : Big p') (hq' : Big q') (hs : Big (p + p')) (hs' : Big (q + q')) (h : ∀ s9 s10 s11, E.nx (st a ns s1 s9 s10 s11 p q p' q' f)) : tail5 a E (st a ns s1 s9 s10 s11 p q p' q' f) := by
  have z0 : Big 0 := by decide
  refine ⟨len_ok rfl, len_ok rfl, len_ok rfl, len_ok rfl, len_ok rfl, ?_⟩
  refine forD_inv (fun Γ => ∃ s9 s10 s11, Γ = st a ns s1 s9 s10 s11 p q p' q' f) ?_ _ ?_ _ ⟨_, _, _, rfl⟩
  · rintro Γ ⟨s9, s10, s11, rfl⟩
    refine str_ln hp hq (str_ln hp' hq' ⟨ok_ln _ _, ok_ln _ _, ?_⟩)
    refine ⟨rfl, rfl, rfl, p, q, _, rfl, rfl, p', q', _, rfl, _, rfl, rfl, rfl, ?_⟩
    show cond (!deq (.bl (deq (.str (ltext p q)) (.str (ltext p' q')))) (.bl (decide (p = p') && decide (q = q')))) _ _
    rw [deq_lt hp hq hp' hq', deq_self rfl]
    refine ⟨ok_l2 _ _, ok_l2 _ _, rfl, rfl, rfl, p, q, _, rfl, rfl, p', q', _, rfl, _, rfl, rfl, rfl, ?_⟩
    show cond (!deq (.bl (deq (.lst [.int p, .int q]) (.lst [.int p', .int q']))) (.bl (decide (p = p') && decide (q = q')))) _ _
    rw [deq_l2, deq_self rfl]
    refine ⟨rfl, trivial, trivial, ?_⟩
    rw [btw_big hp, btw_big z0]
    refine str_ln hp z0 ⟨hp.lg, ok_ln _ _, ok_low (low_tx p), ?_⟩
    show cond (!deq (.str (ltext p 0)) (.str (tx p))) _ _
    rw [show ltext p 0 = tx p from if_pos rfl, deq_self (ok_low (low_tx p))]
    refine ⟨rfl, rfl, rfl, p, q, _, rfl, rfl, p, q, _, rfl, ?_⟩
    show newL a (p - p) (q - q) _ _
    rw [Int.sub_self, Int.sub_self]
    refine new_big z0 z0 (str_ln z0 z0 ⟨by decide +kernel, by decide +kernel, ?_⟩)
    rw [show (!deq (.str (ltext 0 0)) (.str (Str.ofString "0"))) = false by decide +kernel]
    refine ⟨rfl, trivial, rfl, p, q, _, rfl, hp.w19, hq.w19, trivial, by decide, ?_⟩
    rw [Int.mul_zero, Int.mul_zero]
    refine new_big z0 z0 (str_ln z0 z0 ⟨by decide +kernel, by decide +kernel, ?_⟩)
    rw [show (!deq (.str (ltext 0 0)) (.str (Str.ofString "0"))) = false by decide +kernel]
    refine str_ln hp hq ⟨rfl, hp, hq, ok_ln _ _, ok_ln _ _, ?_⟩
    show cond (!deq (.str (ltext p q)) (.str (ltext p q))) _ _
    rw [deq_self (ok_ln _ _)]
    exact h _ _ _
  · rintro g hg Γ ⟨s9, s10, s11, rfl⟩ N hN
    have key : ∀ i j : Int, Big i → Big j → g = .tup [.lst [.int i, .int j], ln a i j] → dgTup 2 (dgCons (dgName 9) (dgCons (dgName 10) dgNil)) g (st a ns s1 s9 s10 s11 p q p' q' f) fun Γ' => blk5 a { E with nx := N, ct := N, bk := E.nx } Γ' := by
      rintro i j hi hj rfl
      exact ⟨rfl, blk5_ok (a := a) f0 f1 hi hj fun _ => hN _ ⟨_, _, _, rfl⟩⟩
    rcases List.mem_cons.mp hg with e | hg
    · exact key p q hp hq e
    rcases List.mem_cons.mp hg with e | hg
    · exact key p' q' hp' hq' e
    rcases List.mem_cons.mp hg with e | hg
    · exact key (p + p') (q + q') hs hs' e
    cases hg
end
-- SPLIT
theorem ok_law (T : Txt P K mg a) : FnOk P w K mg base (L2.CX P w) 8 a.f_law a.d_law ["_law_script"] (cLaw.sp K) := by
  refine fn_ok0 cLaw T.f_law.F sc_law rfl (fun cdv A outer s H E hr po => ⟨_, _, (pdss_cons (pds_for po rfl (pdi_range1 T.n_range (pda_cons (pd_callB (call_max2 rfl) oc_I2 T.n_max (by decide +kernel) (pda_cons pd_int (pda_cons (pd_callB (call_min2 rfl) oc_I2 T.n_min (by decide +kernel) (pda_cons (pd_callB call_len oc_len T.n_len (by decide +kernel) (pda_cons (pd_v 0) pda_nil)) (pda_cons pd_int pda_nil))) pda_nil))) pda_nil)) (pdg_name (i := 1) sc_law.nd)
  (pdss_pool (i := 2) (ok__law_pool T) (hr.mono (by decide)) T.f__law_pool.m T.f__law_pool.F.kp T.f__law_pool.b sc_law.nd (pda_cons (pd_v 0) (pda_cons (pd_v 1) pda_nil))
  (pdss_cons (pds_par (i := 3) (j := 4) (pda_cons (pd_lst (pda_cons (pd_call (ok__law_number T) (hr.mono (by decide)) T.f__law_number.m T.f__law_number.F.kp T.f__law_number.b (pda_cons (pd_v 2) pda_nil)) (pda_cons (pd_call (ok__law_number T) (hr.mono (by decide)) T.f__law_number.m T.f__law_number.F.kp T.f__law_number.b (pda_cons (pd_v 2) pda_nil)) pda_nil))) (pda_cons (pd_lst (pda_cons (pd_call (ok__law_number T) (hr.mono (by decide)) T.f__law_number.m T.f__law_number.F.kp T.f__law_number.b (pda_cons (pd_v 2) pda_nil)) (pda_cons (pd_call (ok__law_number T) (hr.mono (by decide)) T.f__law_number.m T.f__law_number.F.kp T.f__law_number.b (pda_cons (pd_v 2) pda_nil)) pda_nil))) pda_nil)) rfl sc_law.nd)
  (pdss_cons (pds_if (pdt_eq hr.units (pd_call (ok__law_take T) (hr.mono (by decide)) T.f__law_take.m T.f__law_take.F.kp T.f__law_take.b (pda_cons (pd_v 2) (pda_cons pd_int pda_nil))) pd_int)
  (pdss_one (pds_set (i := 4) (pd_lst (pda_cons (pd_ix (pd_v 3) pd_int) (pda_cons (pd_add (pd_ix (pd_v 3) pd_int) (pd_call (ok__law_take T) (hr.mono (by decide)) T.f__law_take.m T.f__law_take.F.kp T.f__law_take.b (pda_cons (pd_v 2) (pda_cons pd_int pda_nil)))) pda_nil))) sc_law.nd))
  pdss_nil)
  (pdss_cons (pds_par (i := 5) (j := 6) (pda_cons (pd_newA T.mk_Line (ok_Line___init__ T) (hr.mono (by decide)) T.k_Line.gC T.m_Line___init__.b (pda_cons (pd_ix (pd_v 3) pd_int) (pda_cons (pd_ix (pd_v 3) pd_int) pda_nil))) (pda_cons (pd_newK T.mk_Line (ok_Line___init__ T) (hr.mono (by decide)) T.k_Line.gC T.kw_Line rfl (pdk_cons (pd_ix (pd_v 4) pd_int) (pdk_cons (pd_ix (pd_v 4) pd_int) pdk_nil))) pda_nil)) rfl sc_law.nd)
  (pdss_cons (pds_par (i := 7) (j := 8) (pda_cons (pd_opO T.o_Line_add (ok_Line___add__ T) (hr.mono (by decide)) T.m_Line___add__.b rfl (fun _ h => ownAdd h) (pd_v 5) (pd_v 6)) (pda_cons (pd_call (ok__law_take T) (hr.mono (by decide)) T.f__law_take.m T.f__law_take.F.kp T.f__law_take.b (pda_cons (pd_v 2) (pda_cons (pd_pow pd_int pd_int) pda_nil))) pda_nil)) rfl sc_law.nd)
  (pdss_cons (pds_for po rfl (pdi_seq (pd_lst (pda_cons (pd_tup (pda_cons (pd_v 3) (pda_cons (pd_v 5) pda_nil))) (pda_cons (pd_tup (pda_cons (pd_v 4) (pda_cons (pd_v 6) pda_nil))) (pda_cons (pd_tup (pda_cons (pd_lst (pda_cons (pd_add (pd_ix (pd_v 3) pd_int) (pd_ix (pd_v 4) pd_int)) (pda_cons (pd_add (pd_ix (pd_v 3) pd_int) (pd_ix (pd_v 4) pd_int)) pda_nil))) (pda_cons (pd_v 7) pda_nil))) pda_nil))))) (pdg_tup rfl (pdgs_cons (pdg_name (i := 9) sc_law.nd) (pdgs_cons (pdg_name (i := 10) sc_law.nd) pdgs_nil)))
  (pdss_cons (pds_if (pdw_pt (pdw_or (pdt_ne hr.units (pd_strO T.st_Line (ok_Line___str__ T) (hr.mono (by decide)) T.m_Line___str__.b rfl T.n_str (pda_cons (pd_v 10) pda_nil)) (pd_call (ok__law_text T) (hr.mono (by decide)) T.f__law_text.m T.f__law_text.F.kp T.f__law_text.b (pda_cons (pd_ix (pd_v 9) pd_int) (pda_cons (pd_ix (pd_v 9) pd_int) pda_nil)))) (pdw_or1 (pdt_ne hr.units (pd_strO T.st_Line (ok_Line___str__ T) (hr.mono (by decide)) T.m_Line___str__.b rfl T.n_str (pda_cons (pd_v 10) pda_nil)) (pd_strO T.st_Line (ok_Line___str__ T) (hr.mono (by decide)) T.m_Line___str__.b rfl T.n_str (pda_cons (pd_v 10) pda_nil))))))
  (pdss_one (pds_ret pd_bl))
  pdss_nil)
  (pdss_one (pds_for po rfl (pdi_seq (pd_lst (pda_cons pd_int (pda_cons pd_int (pda_cons (pd_v 8) pda_nil))))) (pdg_name (i := 11) sc_law.nd)
  (pdss_one (pds_if (pdt_ne hr.units (pd_call (ok__law_read T) (hr.mono (by decide)) T.f__law_read.m T.f__law_read.F.kp T.f__law_read.b (pda_cons (pd_strO T.st_Line (ok_Line___str__ T) (hr.mono (by decide)) T.m_Line___str__.b rfl T.n_str (pda_cons (pd_v 10) pda_nil)) (pda_cons (pd_v 11) pda_nil))) (pd_callO T.call_Line (ok_Line___call__ T) (hr.mono (by decide)) T.m_Line___call__.b (pd_v 10) (pda_cons (pd_v 11) pda_nil)))
  (pdss_one (pds_ret pd_bl))
  pdss_nil))))))
  (pdss_cons (pds_if (pdw_pt (pdw_or (pdt_ne hr.units (pd_eq hr.units (pd_strO T.st_Line (ok_Line___str__ T) (hr.mono (by decide)) T.m_Line___str__.b rfl T.n_str (pda_cons (pd_v 5) pda_nil)) (pd_strO T.st_Line (ok_Line___str__ T) (hr.mono (by decide)) T.m_Line___str__.b rfl T.n_str (pda_cons (pd_v 6) pda_nil))) (pd_eqO T.eq_Line (ok_Line___eq__ T) (hr.mono (by decide)) T.m_Line___eq__.b rfl (pd_v 5) (pd_v 6))) (pdw_or1 (pdt_ne hr.units (pd_eq hr.units (pd_v 3) (pd_v 4)) (pd_eqO T.eq_Line (ok_Line___eq__ T) (hr.mono (by decide)) T.m_Line___eq__.b rfl (pd_v 5) (pd_v 6))))))
  (pdss_one (pds_ret pd_bl))
  pdss_nil)
  (pdss_cons (pds_if (pdw_pt (pdw_or (pdt_ne hr.units (pd_strO T.st_Line (ok_Line___str__ T) (hr.mono (by decide)) T.m_Line___str__.b rfl T.n_str (pda_cons (pd_newD T.mk_Line (ok_Line___init__ T) (hr.mono (by decide)) T.k_Line.gC T.m_Line___init__.b1 (pda_cons (pd_ix (pd_v 3) pd_int) pda_nil)) pda_nil)) (pd_callTy call_str_int oc_strI T.n_str (by decide +kernel) (pda_cons (pd_ix (pd_v 3) pd_int) pda_nil))) (pdw_or (pdt_ne hr.units (pd_strO T.st_Line (ok_Line___str__ T) (hr.mono (by decide)) T.m_Line___str__.b rfl T.n_str (pda_cons (pd_opO T.o_Line_sub (ok_Line___sub__ T) (hr.mono (by decide)) T.m_Line___sub__.b rfl (fun _ h => ownSub h) (pd_v 5) (pd_v 5)) pda_nil)) pd_str) (pdw_or1 (pdt_ne hr.units (pd_strO T.st_Line (ok_Line___str__ T) (hr.mono (by decide)) T.m_Line___str__.b rfl T.n_str (pda_cons (pd_opO T.o_Line_mul (ok_Line___mul__ T) (hr.mono (by decide)) T.m_Line___mul__.b rfl (fun _ h => ownMul h) (pd_v 5) pd_int) pda_nil)) pd_str)))))
  (pdss_one (pds_ret pd_bl))
  pdss_nil)
  (pdss_one (pds_if (pdt_ne hr.units (pd_strO T.st_Line (ok_Line___str__ T) (hr.mono (by decide)) T.m_Line___str__.b rfl T.n_str (pda_cons (pd_v 5) pda_nil)) (pd_call (ok__law_text T) (hr.mono (by decide)) T.f__law_text.m T.f__law_text.F.kp T.f__law_text.b (pda_cons (pd_ix (pd_v 3) pd_int) (pda_cons (pd_ix (pd_v 3) pd_int) pda_nil))))
  (pdss_one (pds_ret pd_bl))
  pdss_nil)))))))))))
  (pdss_one (pds_ret pd_bl))), ?_⟩)
  intro ss kk xx hl h
  unfold cLaw at h
  dsimp only at h
  split at h
  · rename_i xs
    obtain ⟨⟨ns, rfl, h63⟩, h⟩ := h
    have ln : (intD ns).length = ns.length := List.length_map ..
    refine ⟨⟨?_, ?_⟩, ?_⟩
    · dsimp only
      (repeat' split) <;> omega
    · dsimp only
      (repeat' split) <;> omega
    refine forD_inv (fun Γ => ∃ s1 s2 s3 s4 s5 s6 s7 s8 s9 s10 s11, Γ = [.d (.scr (intD ns)), s1, s2, s3, s4, s5, s6, s7, s8, s9, s10, s11]) ?_ _ ?_ _ ⟨_, _, _, _, _, _, _, _, _, _, _, rfl⟩
    · rintro Γ ⟨s1, s2, s3, s4, s5, s6, s7, s8, s9, s10, s11, rfl⟩
      exact h
    · rintro x hx Γ ⟨s1, s2, s3, s4, s5, s6, s7, s8, s9, s10, s11, rfl⟩ N hN
      obtain ⟨i, rfl, i0, i1⟩ := intsFrom_mem hx
      refine ⟨⟨ns, rfl, h63⟩, i0, ?_, ?_⟩
      · revert i1
        dsimp only
        (repeat' split) <;> omega
      refine ⟨rfl, fun p hp => ⟨rfl, fun q hq => ⟨len_ok rfl, ?_⟩⟩⟩
      refine ⟨rfl, fun p' hp' => ⟨rfl, fun q' hq' => ⟨len_ok rfl, ?_⟩⟩⟩
      have b1 : Big p := Nat.lt_trans hp (by decide +kernel)
      have b2 : Big q := Nat.lt_trans hq (by decide +kernel)
      have fin : ∀ u v : Int, u.natAbs < 10 ^ 60 → v.natAbs < 10 ^ 61 → ((dSeq (dPar 5 6 (dCons (dNew (c_init a) a.C_Line [] xw0 (dCons (dOp gIx (dVar 3) (dC (.int 0))) (dCons (dOp gIx (dVar 3) (dC (.int 1))) dNil))) (dCons (dNewK (c_init a) a.C_Line (dCons (dOp gIx (dVar 4) (dC (.int 0))) (dCons (dOp gIx (dVar 4) (dC (.int 1))) dNil))) dNil))) (dSeq (dPar 7 8 (dCons (dOpO (c_sum a fun i j => i + j) a.C_Line xw0 (dVar 5) (dVar 6)) (dCons (dCall cTake xw0 (dCons (dVar 2) (dCons (dOp (gI CPow fun i j => .int (i ^ j.toNat)) (dC (.int 10)) (dC (.int 9))) dNil))) dNil))) (dSeq (dFor (diSeq (dLst (dCons (dTup (dCons (dVar 3) (dCons (dVar 5) dNil))) (dCons (dTup (dCons (dVar 4) (dCons (dVar 6) dNil))) (dCons (dTup (dCons (dLst (dCons (dOp gAdd (dOp gIx (dVar 3) (dC (.int 0))) (dOp gIx (dVar 4) (dC (.int 0)))) (dCons (dOp gAdd (dOp gIx (dVar 3) (dC (.int 1))) (dOp gIx (dVar 4) (dC (.int 1)))) dNil))) (dCons (dVar 7) dNil))) dNil))))) (dgTup 2 (dgCons (dgName 9) (dgCons (dgName 10) dgNil))) (dSeq (dIfS (dOr (dB (dOp gNe (dCB (gStrO (c_str a) a.C_Line) (dCons (dVar 10) dNil)) (dCall c_text xw0 (dCons (dOp gIx (dVar 9) (dC (.int 0))) (dCons (dOp gIx (dVar 9) (dC (.int 1))) dNil))))) (dB (dOp gNe (dCB (gStrO (c_str a) a.C_Line) (dCons (dVar 10) dNil)) (dCB (gStrO (c_str a) a.C_Line) (dCons (dVar 10) dNil))))) (dRet (dC (.bl false))) dNext) (dFor (diSeq (dLst (dCons (dC (.int 0)) (dCons (dC (.int 1)) (dCons (dVar 8) dNil))))) (dgName 11) (dIfS (dB (dOp gNe (dCall c_read xw0 (dCons (dCB (gStrO (c_str a) a.C_Line) (dCons (dVar 10) dNil)) (dCons (dVar 11) dNil))) (dCallO (c_Line___call__ a) a.C_Line xw0 (dVar 10) (dCons (dVar 11) dNil)))) (dRet (dC (.bl false))) dNext)))) (dSeq (dIfS (dOr (dB (dOp gNe (dOp gEq (dCB (gStrO (c_str a) a.C_Line) (dCons (dVar 5) dNil)) (dCB (gStrO (c_str a) a.C_Line) (dCons (dVar 6) dNil))) (dOp (gEqO (c_eq a) a.C_Line (fun c => c) gEq) (dVar 5) (dVar 6)))) (dB (dOp gNe (dOp gEq (dVar 3) (dVar 4)) (dOp (gEqO (c_eq a) a.C_Line (fun c => c) gEq) (dVar 5) (dVar 6))))) (dRet (dC (.bl false))) dNext) (dSeq (dIfS (dOr (dB (dOp gNe (dCB (gStrO (c_str a) a.C_Line) (dCons (dNew (c_init a) a.C_Line [.int (0)] xw0 (dCons (dOp gIx (dVar 3) (dC (.int 0))) dNil)) dNil)) (dCB gStrI (dCons (dOp gIx (dVar 3) (dC (.int 0))) dNil)))) (dOr (dB (dOp gNe (dCB (gStrO (c_str a) a.C_Line) (dCons (dOpO (c_sum a fun i j => i - j) a.C_Line xw0 (dVar 5) (dVar 5)) dNil)) (dC (.str "0")))) (dB (dOp gNe (dCB (gStrO (c_str a) a.C_Line) (dCons (dOpO (c_mul a) a.C_Line xw0 (dVar 5) (dC (.int 0))) dNil)) (dC (.str "0")))))) (dRet (dC (.bl false))) dNext) (dIfS (dB (dOp gNe (dCB (gStrO (c_str a) a.C_Line) (dCons (dVar 5) dNil)) (dCall c_text xw0 (dCons (dOp gIx (dVar 3) (dC (.int 0))) (dCons (dOp gIx (dVar 3) (dC (.int 1))) dNil))))) (dRet (dC (.bl false))) dNext)))))) : DS) { nx := fun Γ => N (unp Γ), rt := fun s => kk (unp1 s), bk := fun Γ => dRet (dC (.bl true)) { nx := fun _ => kk (.d .non), rt := kk } (unp Γ), ct := fun Γ => N (unp Γ) } [.d (.scr (intD ns)), .d (.int i), .pool, .d (.lst [.int p, .int q]), .d (.lst [.int u, .int v]), s5, s6, s7, s8, s9, s10, s11] := fun u v hu hv => by
        have b3 : Big u := Nat.lt_trans hu (by decide +kernel)
        have b4 : Big v := Nat.lt_trans hv (by decide +kernel)
        have b5 : Big (p + u) := by
          show (p + u).natAbs < 10 ^ 100
          omega
        have b6 : Big (q + v) := by
          show (q + v).natAbs < 10 ^ 100
          omega
        refine ⟨rfl, trivial, trivial, ?_⟩
        rw [btw_big b1, btw_big b2]
        refine ⟨rfl, trivial, trivial, ?_⟩
        rw [btw_big b3, btw_big b4]
        refine ⟨rfl, rfl, rfl, p, q, _, rfl, rfl, u, v, _, rfl, ?_⟩
        refine new_big b5 b6 ⟨⟨by decide, by decide, by decide⟩, rfl, by decide, by decide, fun f f0 f1 => ?_⟩
        exact tail5_ok (a := a) f0 f1 b1 b2 b3 b4 b5 b6 fun _ _ _ => hN _ ⟨_, _, _, _, _, _, _, _, _, _, _, rfl⟩
      refine ⟨rfl, by decide, by decide, fun r r0 r1 => ⟨rfl, rfl, ?_⟩⟩
      show cond (deq (.int r) (.int 0)) _ _
      rw [deq_int]
      by_cases c : r = 0
      · rw [decide_eq_true c]
        refine ⟨rfl, by decide, by decide, fun u u0 u1 => ⟨len_ok rfl, ?_⟩⟩
        exact fin p (q + u) hp (by omega)
      · rw [decide_eq_false c]
        exact fin p' q' hp' (by omega)
  · exact h.elim
end
theorem all_mk {l : PySem.W.OpenLaw} {w : World} {K : PySem.W.Frag} {h : Heap} {mg : Str → Option Value} {fa f1 f2 f3 f4 f5 f6 f7 f8 f9 f10 f11 D fI cda cc C_BadNumber C_BadLine C_Line m_Line___init__ T_Line___init__ m_Line___call__ m_Line___add__ m_Line___sub__ m_Line___mul__ m_Line___eq__ m_Line___str__ m_Line_through p_Line_through : Addr} (X : K.In h) (G : h.Ns mainGlobals mg) (hfa : mg "law" = some (.ref fa))
    {od1 an1 : Option Addr} {sl1 : Array (Option Value)} {oc1 kV1 dc1 pm1 cd1 ct1 : Value}
    {od2 an2 : Option Addr} {sl2 : Array (Option Value)} {oc2 kV2 dc2 pm2 cd2 ct2 : Value}
    {od3 an3 : Option Addr} {sl3 : Array (Option Value)} {oc3 kV3 dc3 pm3 cd3 ct3 : Value}
    {od4 an4 : Option Addr} {sl4 : Array (Option Value)} {oc4 kV4 dc4 pm4 cd4 ct4 : Value}
    {od5 an5 : Option Addr} {sl5 : Array (Option Value)} {oc5 kV5 dc5 pm5 cd5 ct5 : Value}
    {od6 an6 : Option Addr} {sl6 : Array (Option Value)} {oc6 kV6 dc6 pm6 cd6 ct6 : Value}
    {od7 an7 : Option Addr} {sl7 : Array (Option Value)} {oc7 kV7 dc7 pm7 cd7 ct7 : Value}
    {od8 an8 : Option Addr} {sl8 : Array (Option Value)} {oc8 kV8 dc8 pm8 cd8 ct8 : Value}
    {od9 an9 : Option Addr} {sl9 : Array (Option Value)} {oc9 kV9 dc9 pm9 cd9 ct9 : Value}
    {od10 an10 : Option Addr} {sl10 : Array (Option Value)} {oc10 kV10 dc10 pm10 cd10 ct10 : Value}
    {od11 an11 : Option Addr} {sl11 : Array (Option Value)} {oc11 kV11 dc11 pm11 cd11 ct11 : Value}
    {t_MOST_NUMBER : Tok}
    {t_MOST_LINE : Tok}
    {odR anR : Option Addr} {slR : Array (Option Value)} {ocR dcR pmR ctR : Value} {cclR : Value} {cddR : Option Addr} {vsR : Array Value} {ccsR : Array (Option Value)} {fileR : Str} {tfR : Tok} {clR : Value} {cldR : Option Addr} {cslR : Array (Option Value)} {cdR : ClassData}
    {nmBadNumber qnBadNumber : Str} {NBadNumber : Addr} {bsBadNumber : List Value} {snBadNumber : List Str} {subBadNumber : List Value} {abBadNumber : Bool} {colBadNumber : Option Bool} {ddBadNumber : Option Addr} {m0BadNumber m1BadNumber m2BadNumber m3BadNumber m5BadNumber : Option Value}
    {nmBadLine qnBadLine : Str} {NBadLine : Addr} {bsBadLine : List Value} {snBadLine : List Str} {subBadLine : List Value} {abBadLine : Bool} {colBadLine : Option Bool} {ddBadLine : Option Addr} {m0BadLine m1BadLine m2BadLine m3BadLine m5BadLine : Option Value}
    {cdL_Line : ClassData}
    {od_Line___init__ an_Line___init__ : Option Addr} {sl_Line___init__ : Array (Option Value)} {oc_Line___init__ kV_Line___init__ dc_Line___init__ pm_Line___init__ cd_Line___init__ ct_Line___init__ : Value}
    {ot_Line___init__ : Value} {ot2_Line___init__ : Option Addr} {tsl_Line___init__ : Array (Option Value)} {mm_Line___init__ : Nat} {tk_Line___init__ : Tok}
    {od_Line___call__ an_Line___call__ : Option Addr} {sl_Line___call__ : Array (Option Value)} {oc_Line___call__ kV_Line___call__ dc_Line___call__ pm_Line___call__ cd_Line___call__ ct_Line___call__ : Value}
    {od_Line___add__ an_Line___add__ : Option Addr} {sl_Line___add__ : Array (Option Value)} {oc_Line___add__ kV_Line___add__ dc_Line___add__ pm_Line___add__ cd_Line___add__ ct_Line___add__ : Value}
    {od_Line___sub__ an_Line___sub__ : Option Addr} {sl_Line___sub__ : Array (Option Value)} {oc_Line___sub__ kV_Line___sub__ dc_Line___sub__ pm_Line___sub__ cd_Line___sub__ ct_Line___sub__ : Value}
    {od_Line___mul__ an_Line___mul__ : Option Addr} {sl_Line___mul__ : Array (Option Value)} {oc_Line___mul__ kV_Line___mul__ dc_Line___mul__ pm_Line___mul__ cd_Line___mul__ ct_Line___mul__ : Value}
    {od_Line___eq__ an_Line___eq__ : Option Addr} {sl_Line___eq__ : Array (Option Value)} {oc_Line___eq__ kV_Line___eq__ dc_Line___eq__ pm_Line___eq__ cd_Line___eq__ ct_Line___eq__ : Value}
    {od_Line___str__ an_Line___str__ : Option Addr} {sl_Line___str__ : Array (Option Value)} {oc_Line___str__ kV_Line___str__ dc_Line___str__ pm_Line___str__ cd_Line___str__ ct_Line___str__ : Value}
    {od_Line_through an_Line_through : Option Addr} {sl_Line_through : Array (Option Value)} {oc_Line_through kV_Line_through dc_Line_through pm_Line_through cd_Line_through ct_Line_through : Value}
    {rs_Line_through : List Value}
    (a1 : PySem.W.nsIn K mainGlobals "_wall" = some (some (.ref f1)))
    (l1 : K.lookup f1 = some ⟨oc1, od1, .func (PySem.W.fnOf "_wall" "_wall" (defArgs s__wall) (defBody s__wall) (defScope s__wall) .none kV1 dc1 pm1 an1 cd1 ct1), sl1⟩)
    (c1 : PySem.W.codeIn K cd1 "_wall" = true)
    (k1 : PySem.W.keepIn K (.ref f1) = true)
    (a2 : PySem.W.nsIn K mainGlobals "is_integer" = some (some (.ref f2)))
    (l2 : K.lookup f2 = some ⟨oc2, od2, .func (PySem.W.fnOf "is_integer" "is_integer" (defArgs s_is_integer) (defBody s_is_integer) (defScope s_is_integer) .none kV2 dc2 pm2 an2 cd2 ct2), sl2⟩)
    (c2 : PySem.W.codeIn K cd2 "is_integer" = true)
    (k2 : PySem.W.keepIn K (.ref f2) = true)
    (a3 : PySem.W.nsIn K mainGlobals "is_between" = some (some (.ref f3)))
    (l3 : K.lookup f3 = some ⟨oc3, od3, .func (PySem.W.fnOf "is_between" "is_between" (defArgs s_is_between) (defBody s_is_between) (defScope s_is_between) .none kV3 dc3 pm3 an3 cd3 ct3), sl3⟩)
    (c3 : PySem.W.codeIn K cd3 "is_between" = true)
    (k3 : PySem.W.keepIn K (.ref f3) = true)
    (a4 : PySem.W.nsIn K mainGlobals "check_line_number" = some (some (.ref f4)))
    (l4 : K.lookup f4 = some ⟨oc4, od4, .func (PySem.W.fnOf "check_line_number" "check_line_number" (defArgs s_check_line_number) (defBody s_check_line_number) (defScope s_check_line_number) .none kV4 dc4 pm4 an4 cd4 ct4), sl4⟩)
    (c4 : PySem.W.codeIn K cd4 "check_line_number" = true)
    (k4 : PySem.W.keepIn K (.ref f4) = true)
    (a5 : PySem.W.nsIn K mainGlobals "line_text" = some (some (.ref f5)))
    (l5 : K.lookup f5 = some ⟨oc5, od5, .func (PySem.W.fnOf "line_text" "line_text" (defArgs s_line_text) (defBody s_line_text) (defScope s_line_text) .none kV5 dc5 pm5 an5 cd5 ct5), sl5⟩)
    (c5 : PySem.W.codeIn K cd5 "line_text" = true)
    (k5 : PySem.W.keepIn K (.ref f5) = true)
    (a6 : PySem.W.nsIn K mainGlobals "_law_pool" = some (some (.ref f6)))
    (l6 : K.lookup f6 = some ⟨oc6, od6, .func (PySem.W.fnOf "_law_pool" "_law_pool" (defArgs s__law_pool) (defBody s__law_pool) (defScope s__law_pool) .none kV6 dc6 pm6 an6 cd6 ct6), sl6⟩)
    (c6 : PySem.W.codeIn K cd6 "_law_pool" = true)
    (k6 : PySem.W.keepIn K (.ref f6) = true)
    (a7 : PySem.W.nsIn K mainGlobals "_law_take" = some (some (.ref f7)))
    (l7 : K.lookup f7 = some ⟨oc7, od7, .func (PySem.W.fnOf "_law_take" "_law_take" (defArgs s__law_take) (defBody s__law_take) (defScope s__law_take) .none kV7 dc7 pm7 an7 cd7 ct7), sl7⟩)
    (c7 : PySem.W.codeIn K cd7 "_law_take" = true)
    (k7 : PySem.W.keepIn K (.ref f7) = true)
    (a8 : PySem.W.nsIn K mainGlobals "_law_number" = some (some (.ref f8)))
    (l8 : K.lookup f8 = some ⟨oc8, od8, .func (PySem.W.fnOf "_law_number" "_law_number" (defArgs s__law_number) (defBody s__law_number) (defScope s__law_number) .none kV8 dc8 pm8 an8 cd8 ct8), sl8⟩)
    (c8 : PySem.W.codeIn K cd8 "_law_number" = true)
    (k8 : PySem.W.keepIn K (.ref f8) = true)
    (a9 : PySem.W.nsIn K mainGlobals "_law_text" = some (some (.ref f9)))
    (l9 : K.lookup f9 = some ⟨oc9, od9, .func (PySem.W.fnOf "_law_text" "_law_text" (defArgs s__law_text) (defBody s__law_text) (defScope s__law_text) .none kV9 dc9 pm9 an9 cd9 ct9), sl9⟩)
    (c9 : PySem.W.codeIn K cd9 "_law_text" = true)
    (k9 : PySem.W.keepIn K (.ref f9) = true)
    (a10 : PySem.W.nsIn K mainGlobals "_law_read" = some (some (.ref f10)))
    (l10 : K.lookup f10 = some ⟨oc10, od10, .func (PySem.W.fnOf "_law_read" "_law_read" (defArgs s__law_read) (defBody s__law_read) (defScope s__law_read) .none kV10 dc10 pm10 an10 cd10 ct10), sl10⟩)
    (c10 : PySem.W.codeIn K cd10 "_law_read" = true)
    (k10 : PySem.W.keepIn K (.ref f10) = true)
    (a11 : PySem.W.nsIn K mainGlobals "law" = some (some (.ref f11)))
    (l11 : K.lookup f11 = some ⟨oc11, od11, .func (PySem.W.fnOf "law" "law" (defArgs s_law) (defBody s_law) (defScope s_law) .none kV11 dc11 pm11 an11 cd11 ct11), sl11⟩)
    (c11 : PySem.W.codeIn K cd11 "law" = true)
    (k11 : PySem.W.keepIn K (.ref f11) = true)
    (z_bool : PySem.W.nsIn K mainGlobals "bool" = some none)
    (z_int : PySem.W.nsIn K mainGlobals "int" = some none)
    (z_isinstance : PySem.W.nsIn K mainGlobals "isinstance" = some none)
    (z_len : PySem.W.nsIn K mainGlobals "len" = some none)
    (z_max : PySem.W.nsIn K mainGlobals "max" = some none)
    (z_min : PySem.W.nsIn K mainGlobals "min" = some none)
    (z_range : PySem.W.nsIn K mainGlobals "range" = some none)
    (z_str : PySem.W.nsIn K mainGlobals "str" = some none)
    (y_MOST_NUMBER : PySem.W.nsIn K mainGlobals "MOST_NUMBER" = some (some (.int (1000000000000000000000000000000) t_MOST_NUMBER)))
    (y_MOST_LINE : PySem.W.nsIn K mainGlobals "MOST_LINE" = some (some (.int (10000000000000000000000000000000000000000000000000000000000000000000000000000000000000000000000000000000000000000000000000000000000000000000000000000000000000000000000000000000000000000000000000000000000000000000000000000000000000000000000000000000000000000000000000000000000000000000000000000000000000000000000000000000000000000000000000000000000000000000000000000000000000000000000000000000000000000) t_MOST_LINE)))
    (aD : PySem.W.nsIn K mainGlobals "RoomError" = some (some (.ref D)))
    (aI : PySem.W.findIn K (.ref D) "__init__" = some (some (.ref fI)))
    (lI : K.lookup fI = some ⟨ocR, odR, .func (PySem.W.ksFn "__init__" "RoomError.__init__" (PySem.RoomX.iA ⟨7, 17, 7, 21⟩ ⟨7, 23, 7, 28⟩) (PySem.RoomX.iB ⟨8, 8, 8, 13⟩ ⟨8, 8, 8, 15⟩ ⟨8, 8, 8, 24⟩ ⟨8, 25, 8, 30⟩ ⟨8, 8, 8, 31⟩ ⟨8, 8, 8, 31⟩ ⟨9, 8, 9, 12⟩ ⟨9, 8, 9, 18⟩ ⟨9, 21, 9, 26⟩ ⟨9, 8, 9, 26⟩) PySem.RoomX.iS .none .none dcR pmR anR (.ref cda) ctR cc), slR⟩)
    (cI : PySem.W.codeIn K (.ref cda) "RoomError.__init__" = true)
    (lcI : K.lookup cda = some ⟨cclR, cddR, .fields vsR, ccsR⟩)
    (lvI : vsR[2]? = some (.str fileR tfR))
    (lfI : ((l.prog.main.file : Str) == fileR) = true)
    (lcc : K.lookup cc = some ⟨clR, cldR, .cell (some (.ref D)), cslR⟩)
    (lD : PySem.W.clsIn K D = some cdR)
    (zS : PySem.W.nsIn K mainGlobals "super" = some none)
    (mt : (l.prog.main.scope.names.lookup ("super" : Str)).isSome = false)
    (tp : PySem.W.nsIn K cStatics "thirdparty.any" = some none)
    (hcn : PySem.W.specialIn K (.builtin "object.__class__") "__get__" = some (some (.builtin "getset_descriptor.__get__")))
    (hct : PySem.W.takesIn K (.builtin "object.__class__") = some true)
    (aC_BadNumber : PySem.W.nsIn K mainGlobals "BadNumber" = some (some (.ref C_BadNumber)))
    (xC_BadNumber : K.lookup C_BadNumber = some (excClassObj nmBadNumber qnBadNumber C_BadNumber NBadNumber bsBadNumber [.ref D, .type "ValueError", .type "Exception", .type "BaseException", .type "object"] true snBadNumber subBadNumber abBadNumber colBadNumber ddBadNumber m0BadNumber m1BadNumber m2BadNumber m3BadNumber m5BadNumber "ValueError.__new__"))
    (sa_BadNumber : PySem.W.findIn K (.ref C_BadNumber) "__setattr__" = some (some (.builtin "object.__setattr__")))
    (ga_BadNumber : PySem.W.findIn K (.ref C_BadNumber) "__getattribute__" = some (some (.builtin "BaseException.__getattribute__")))
    (gg_BadNumber : PySem.W.findIn K (.ref C_BadNumber) "__getattr__" = some none)
    (nv_BadNumber : PySem.W.findIn K (.ref C_BadNumber) "value" = some none)
    (in_BadNumber : PySem.W.findIn K (.ref C_BadNumber) "__init__" = some (some (.ref fI)))
    (tf_BadNumber : PySem.W.typeIn K (.ref fI) = some (.type "function"))
    (kC_BadNumber : PySem.W.keepIn K (.ref C_BadNumber) = true)
    (eC_BadNumber : PySem.W.subIn K (.ref C_BadNumber) (.type "BaseException") = some true)
    (vC_BadNumber : PySem.W.subIn K (.ref C_BadNumber) (.type "ValueError") = some true)
    (tC_BadNumber : PySem.W.typeIn K (.ref C_BadNumber) = some (.type "type"))
    (hC_BadNumber : PySem.W.hasDictIn K C_BadNumber = true)
    (iC_BadNumber : PySem.W.isClsIn K C_BadNumber = true)
    (sC_BadNumber : PySem.W.subIn K (.ref C_BadNumber) (.ref C_BadNumber) = some true)
    (su_BadNumber : PySem.W.ks_superIn K C_BadNumber D "__init__" = some (some (.builtin "ValueError.__init__")))
    (mr_BadNumber : PySem.W.mroIn K C_BadNumber (.ref D) = some true)
    (hc_BadNumber : PySem.W.findIn K (.ref C_BadNumber) "__class__" = some (some (.builtin "object.__class__")))
    (mo_BadNumber : PySem.W.mroIn K C_BadNumber (.type "object") = some true)
    (aC_BadLine : PySem.W.nsIn K mainGlobals "BadLine" = some (some (.ref C_BadLine)))
    (xC_BadLine : K.lookup C_BadLine = some (excClassObj nmBadLine qnBadLine C_BadLine NBadLine bsBadLine [.ref D, .type "ValueError", .type "Exception", .type "BaseException", .type "object"] true snBadLine subBadLine abBadLine colBadLine ddBadLine m0BadLine m1BadLine m2BadLine m3BadLine m5BadLine "ValueError.__new__"))
    (sa_BadLine : PySem.W.findIn K (.ref C_BadLine) "__setattr__" = some (some (.builtin "object.__setattr__")))
    (ga_BadLine : PySem.W.findIn K (.ref C_BadLine) "__getattribute__" = some (some (.builtin "BaseException.__getattribute__")))
    (gg_BadLine : PySem.W.findIn K (.ref C_BadLine) "__getattr__" = some none)
    (nv_BadLine : PySem.W.findIn K (.ref C_BadLine) "value" = some none)
    (in_BadLine : PySem.W.findIn K (.ref C_BadLine) "__init__" = some (some (.ref fI)))
    (tf_BadLine : PySem.W.typeIn K (.ref fI) = some (.type "function"))
    (kC_BadLine : PySem.W.keepIn K (.ref C_BadLine) = true)
    (eC_BadLine : PySem.W.subIn K (.ref C_BadLine) (.type "BaseException") = some true)
    (vC_BadLine : PySem.W.subIn K (.ref C_BadLine) (.type "ValueError") = some true)
    (tC_BadLine : PySem.W.typeIn K (.ref C_BadLine) = some (.type "type"))
    (hC_BadLine : PySem.W.hasDictIn K C_BadLine = true)
    (iC_BadLine : PySem.W.isClsIn K C_BadLine = true)
    (sC_BadLine : PySem.W.subIn K (.ref C_BadLine) (.ref C_BadLine) = some true)
    (su_BadLine : PySem.W.ks_superIn K C_BadLine D "__init__" = some (some (.builtin "ValueError.__init__")))
    (mr_BadLine : PySem.W.mroIn K C_BadLine (.ref D) = some true)
    (hc_BadLine : PySem.W.findIn K (.ref C_BadLine) "__class__" = some (some (.builtin "object.__class__")))
    (mo_BadLine : PySem.W.mroIn K C_BadLine (.type "object") = some true)
    (ac_Line : PySem.W.nsIn K mainGlobals "Line" = some (some (.ref C_Line)))
    (pg_Line : PySem.W.plainGet K C_Line Str.empty = true)
    (hd_Line : PySem.W.hasDictIn K C_Line = true)
    (po_Line : PySem.W.plainOver K C_Line = true)
    (st_Line : PySem.W.findIn K (.ref C_Line) "__setattr__" = some (some (.builtin "object.__setattr__")))
    (hA_Line : PySem.W.findIn K (.ref C_Line) "__class__" = some (some (.builtin "object.__class__")))
    (hM_Line : PySem.W.mroIn K C_Line (.type "object") = some true)
    (hT_Line : PySem.W.typeIn K (.ref C_Line) = some (.type "type"))
    (mm_Line : PySem.W.makesIn K C_Line = true)
    (kc_Line : PySem.W.keepIn K (.ref C_Line) = true)
    (hS_Line : PySem.W.clsIn K C_Line = some cdL_Line)
    (me_Line : PySem.W.kitOne K (.ref C_Line) (.ref C_Line) = some true)
    (na_Line_at_zero : PySem.W.findIn K (.ref C_Line) "at_zero" = some none)
    (na_Line_slope : PySem.W.findIn K (.ref C_Line) "slope" = some none)
    (na_Line_text : PySem.W.findIn K (.ref C_Line) "text" = some none)
    (ma_Line___init__ : PySem.W.findIn K (.ref C_Line) "__init__" = some (some (.ref m_Line___init__)))
    (ml_Line___init__ : K.lookup m_Line___init__ = some ⟨oc_Line___init__, od_Line___init__, .func (PySem.W.fnOf "__init__" "Line.__init__" (defArgs s_Line___init__) (defBody s_Line___init__) (defScope s_Line___init__) (.ref T_Line___init__) kV_Line___init__ dc_Line___init__ pm_Line___init__ an_Line___init__ cd_Line___init__ ct_Line___init__), sl_Line___init__⟩)
    (mc_Line___init__ : PySem.W.codeIn K cd_Line___init__ "Line.__init__" = true)
    (mk_Line___init__ : PySem.W.keepIn K (.ref m_Line___init__) = true)
    (mf_Line___init__ : PySem.W.isFn K (.ref m_Line___init__) = true)
    (mt_Line___init__ : K.lookup T_Line___init__ = some ⟨ot_Line___init__, ot2_Line___init__, .seq #[.int (0) tk_Line___init__] mm_Line___init__, tsl_Line___init__⟩)
    (ma_Line___call__ : PySem.W.findIn K (.ref C_Line) "__call__" = some (some (.ref m_Line___call__)))
    (ml_Line___call__ : K.lookup m_Line___call__ = some ⟨oc_Line___call__, od_Line___call__, .func (PySem.W.fnOf "__call__" "Line.__call__" (defArgs s_Line___call__) (defBody s_Line___call__) (defScope s_Line___call__) .none kV_Line___call__ dc_Line___call__ pm_Line___call__ an_Line___call__ cd_Line___call__ ct_Line___call__), sl_Line___call__⟩)
    (mc_Line___call__ : PySem.W.codeIn K cd_Line___call__ "Line.__call__" = true)
    (mk_Line___call__ : PySem.W.keepIn K (.ref m_Line___call__) = true)
    (mf_Line___call__ : PySem.W.isFn K (.ref m_Line___call__) = true)
    (ma_Line___add__ : PySem.W.findIn K (.ref C_Line) "__add__" = some (some (.ref m_Line___add__)))
    (ml_Line___add__ : K.lookup m_Line___add__ = some ⟨oc_Line___add__, od_Line___add__, .func (PySem.W.fnOf "__add__" "Line.__add__" (defArgs s_Line___add__) (defBody s_Line___add__) (defScope s_Line___add__) .none kV_Line___add__ dc_Line___add__ pm_Line___add__ an_Line___add__ cd_Line___add__ ct_Line___add__), sl_Line___add__⟩)
    (mc_Line___add__ : PySem.W.codeIn K cd_Line___add__ "Line.__add__" = true)
    (mk_Line___add__ : PySem.W.keepIn K (.ref m_Line___add__) = true)
    (mf_Line___add__ : PySem.W.isFn K (.ref m_Line___add__) = true)
    (ma_Line___sub__ : PySem.W.findIn K (.ref C_Line) "__sub__" = some (some (.ref m_Line___sub__)))
    (ml_Line___sub__ : K.lookup m_Line___sub__ = some ⟨oc_Line___sub__, od_Line___sub__, .func (PySem.W.fnOf "__sub__" "Line.__sub__" (defArgs s_Line___sub__) (defBody s_Line___sub__) (defScope s_Line___sub__) .none kV_Line___sub__ dc_Line___sub__ pm_Line___sub__ an_Line___sub__ cd_Line___sub__ ct_Line___sub__), sl_Line___sub__⟩)
    (mc_Line___sub__ : PySem.W.codeIn K cd_Line___sub__ "Line.__sub__" = true)
    (mk_Line___sub__ : PySem.W.keepIn K (.ref m_Line___sub__) = true)
    (mf_Line___sub__ : PySem.W.isFn K (.ref m_Line___sub__) = true)
    (ma_Line___mul__ : PySem.W.findIn K (.ref C_Line) "__mul__" = some (some (.ref m_Line___mul__)))
    (ml_Line___mul__ : K.lookup m_Line___mul__ = some ⟨oc_Line___mul__, od_Line___mul__, .func (PySem.W.fnOf "__mul__" "Line.__mul__" (defArgs s_Line___mul__) (defBody s_Line___mul__) (defScope s_Line___mul__) .none kV_Line___mul__ dc_Line___mul__ pm_Line___mul__ an_Line___mul__ cd_Line___mul__ ct_Line___mul__), sl_Line___mul__⟩)
    (mc_Line___mul__ : PySem.W.codeIn K cd_Line___mul__ "Line.__mul__" = true)
    (mk_Line___mul__ : PySem.W.keepIn K (.ref m_Line___mul__) = true)
    (mf_Line___mul__ : PySem.W.isFn K (.ref m_Line___mul__) = true)
    (ma_Line___eq__ : PySem.W.findIn K (.ref C_Line) "__eq__" = some (some (.ref m_Line___eq__)))
    (ml_Line___eq__ : K.lookup m_Line___eq__ = some ⟨oc_Line___eq__, od_Line___eq__, .func (PySem.W.fnOf "__eq__" "Line.__eq__" (defArgs s_Line___eq__) (defBody s_Line___eq__) (defScope s_Line___eq__) .none kV_Line___eq__ dc_Line___eq__ pm_Line___eq__ an_Line___eq__ cd_Line___eq__ ct_Line___eq__), sl_Line___eq__⟩)
    (mc_Line___eq__ : PySem.W.codeIn K cd_Line___eq__ "Line.__eq__" = true)
    (mk_Line___eq__ : PySem.W.keepIn K (.ref m_Line___eq__) = true)
    (mf_Line___eq__ : PySem.W.isFn K (.ref m_Line___eq__) = true)
    (ma_Line___str__ : PySem.W.findIn K (.ref C_Line) "__str__" = some (some (.ref m_Line___str__)))
    (ml_Line___str__ : K.lookup m_Line___str__ = some ⟨oc_Line___str__, od_Line___str__, .func (PySem.W.fnOf "__str__" "Line.__str__" (defArgs s_Line___str__) (defBody s_Line___str__) (defScope s_Line___str__) .none kV_Line___str__ dc_Line___str__ pm_Line___str__ an_Line___str__ cd_Line___str__ ct_Line___str__), sl_Line___str__⟩)
    (mc_Line___str__ : PySem.W.codeIn K cd_Line___str__ "Line.__str__" = true)
    (mk_Line___str__ : PySem.W.keepIn K (.ref m_Line___str__) = true)
    (mf_Line___str__ : PySem.W.isFn K (.ref m_Line___str__) = true)
    (sa_Line_through : PySem.W.findCls K (.ref C_Line) (.type "type") "through" = some (.get (.builtin "staticmethod.__get__") (.ref p_Line_through) .none (.ref C_Line)))
    (sr_Line_through : PySem.W.recIn K p_Line_through "staticmethod" = some (.ref m_Line_through :: rs_Line_through))
    (ml_Line_through : K.lookup m_Line_through = some ⟨oc_Line_through, od_Line_through, .func (PySem.W.fnOf "through" "Line.through" (defArgs s_Line_through) (defBody s_Line_through) (defScope s_Line_through) .none kV_Line_through dc_Line_through pm_Line_through an_Line_through cd_Line_through ct_Line_through), sl_Line_through⟩)
    (mc_Line_through : PySem.W.codeIn K cd_Line_through "Line.through" = true)
    (mk_Line_through : PySem.W.keepIn K (.ref m_Line_through) = true)
    (mf_Line_through : PySem.W.isFn K (.ref m_Line_through) = true)
    (nb_int_Line : PySem.W.subIn K (.ref C_Line) (.type "int") = some false)
    (nb_bool_Line : PySem.W.subIn K (.ref C_Line) (.type "bool") = some false)
    (nb_str_Line : PySem.W.subIn K (.ref C_Line) (.type "str") = some false)
    (nb_list_Line : PySem.W.subIn K (.ref C_Line) (.type "list") = some false)
    (nb_tuple_Line : PySem.W.subIn K (.ref C_Line) (.type "tuple") = some false)
    (nb_dict_Line : PySem.W.subIn K (.ref C_Line) (.type "dict") = some false)
    (of_Line_add : PySem.W.selfFirst K C_Line = true)
    (or_Line_add : PySem.W.findIn K (.ref C_Line) (dunderR (Operator.info .Add).2) = some none)
    (of_Line_mul : PySem.W.selfFirst K C_Line = true)
    (or_Line_mul : PySem.W.findIn K (.ref C_Line) (dunderR (Operator.info .Mult).2) = some none)
    (of_Line_sub : PySem.W.selfFirst K C_Line = true)
    (or_Line_sub : PySem.W.findIn K (.ref C_Line) (dunderR (Operator.info .Sub).2) = some none)
    (ne_Line : PySem.W.findIn K (.ref C_Line) "__ne__" = some (some (.builtin "object.__ne__")))
    (fi_Line : PySem.W.fnIn K m_Line___call__ = true)
    (rd_Line_through : PySem.W.readsIn K C_Line (.type "type") = true)
    (sg_Line_through : PySem.W.specialIn K (.ref C_Line) "__getattribute__" = some (some (.builtin "type.__getattribute__"))) :
    ∃ fd : FuncData, (∀ (s : Shared) (v : Value), BindsTo s fd ⟨[v], []⟩ [("_law_script", v)]) ∧ ∀ base : Heap, K.In base → base.Ns mainGlobals mg → FnOk l.prog w K mg base (L2.CX l.prog w) 8 fa fd ["_law_script"] (cLaw.sp K) := by
  have e := hfa.symm.trans (PySem.W.mg_of X G a11)
  cases e
  have F1 := fun_mk (st := s__wall) l1 c1 k1
  have b1 := F1.binds (ps := ["k"]) fun _ _ _ _ _ _ us hl => match us, hl with | [_], _ => rfl
  have F2 := fun_mk (st := s_is_integer) l2 c2 k2
  have b2 := F2.binds (ps := ["thing"]) fun _ _ _ _ _ _ us hl => match us, hl with | [_], _ => rfl
  have F3 := fun_mk (st := s_is_between) l3 c3 k3
  have b3 := F3.binds (ps := ["thing", "least", "most"]) fun _ _ _ _ _ _ us hl => match us, hl with | [_, _, _], _ => rfl
  have F4 := fun_mk (st := s_check_line_number) l4 c4 k4
  have b4 := F4.binds (ps := ["number"]) fun _ _ _ _ _ _ us hl => match us, hl with | [_], _ => rfl
  have F5 := fun_mk (st := s_line_text) l5 c5 k5
  have b5 := F5.binds (ps := ["at_zero", "slope"]) fun _ _ _ _ _ _ us hl => match us, hl with | [_, _], _ => rfl
  have F6 := fun_mk (st := s__law_pool) l6 c6 k6
  have b6 := F6.binds (ps := ["_law_script", "_law_k"]) fun _ _ _ _ _ _ us hl => match us, hl with | [_, _], _ => rfl
  have F7 := fun_mk (st := s__law_take) l7 c7 k7
  have b7 := F7.binds (ps := ["_law_pool_here", "_law_many"]) fun _ _ _ _ _ _ us hl => match us, hl with | [_, _], _ => rfl
  have F8 := fun_mk (st := s__law_number) l8 c8 k8
  have b8 := F8.binds (ps := ["_law_pool_here"]) fun _ _ _ _ _ _ us hl => match us, hl with | [_], _ => rfl
  have F9 := fun_mk (st := s__law_text) l9 c9 k9
  have b9 := F9.binds (ps := ["_law_zero", "_law_each"]) fun _ _ _ _ _ _ us hl => match us, hl with | [_, _], _ => rfl
  have F10 := fun_mk (st := s__law_read) l10 c10 k10
  have b10 := F10.binds (ps := ["_law_text_here", "_law_m"]) fun _ _ _ _ _ _ us hl => match us, hl with | [_, _], _ => rfl
  have F11 := fun_mk (st := s_law) l11 c11 k11
  have b11 := F11.binds (ps := ["_law_script"]) fun _ _ _ _ _ _ us hl => match us, hl with | [_], _ => rfl
  have room : PySem.RoomX.RoomTxt l.prog K mg D fI := ⟨⟨_, _, _, _, _, _, _, _, _, _, _, _, _, _, _, _, _, _, _, _, _, lI, cI, rfl, ⟨_, _, _, _, _, _, lcI, lvI, lfI⟩, ⟨_, _, _, lcc⟩⟩, ⟨_, lD⟩, PySem.W.mg_none_of X G zS, mt, tp⟩
  have c_BadNumber : PySem.RoomX.RoomCls K mg "BadNumber" C_BadNumber D fI := ⟨PySem.W.mg_of X G aC_BadNumber, ⟨_, _, _, _, _, _, _, _, _, _, _, _, _, _, _, xC_BadNumber, rfl⟩, sa_BadNumber, ga_BadNumber, gg_BadNumber, nv_BadNumber, in_BadNumber, tf_BadNumber, kC_BadNumber, eC_BadNumber, vC_BadNumber, tC_BadNumber, hC_BadNumber, iC_BadNumber, sC_BadNumber, su_BadNumber, mr_BadNumber⟩
  have c_BadLine : PySem.RoomX.RoomCls K mg "BadLine" C_BadLine D fI := ⟨PySem.W.mg_of X G aC_BadLine, ⟨_, _, _, _, _, _, _, _, _, _, _, _, _, _, _, xC_BadLine, rfl⟩, sa_BadLine, ga_BadLine, gg_BadLine, nv_BadLine, in_BadLine, tf_BadLine, kC_BadLine, eC_BadLine, vC_BadLine, tC_BadLine, hC_BadLine, iC_BadLine, sC_BadLine, su_BadLine, mr_BadLine⟩
  have cl_Line : Cls K C_Line := ⟨pg_Line, hd_Line, po_Line, st_Line⟩
  have k_Line : ClsAt K mg "Line" C_Line := ⟨PySem.W.mg_of X G ac_Line, cl_Line, ⟨cl_Line, hA_Line, hcn, hct, hM_Line, me_Line⟩, (by rw [hS_Line]; rfl), hT_Line⟩
  have M_Line___init__ := met_mk1 (st := s_Line___init__) (ps := ["self", "at_zero", "slope"]) (i := 0) (n := 2) ml_Line___init__ mc_Line___init__ mk_Line___init__ mt_Line___init__ ⟨_, rfl⟩ rfl (fun _ _ _ _ _ _ _ us its hl hi => match us, its, hl, hi with | [_, _, _], [_], _, _ => ⟨_, rfl, rfl⟩) (fun _ _ _ _ _ _ _ us its hl hi => match us, its, hl, hi with | [_, _], [_], _, _ => ⟨_, rfl, rfl⟩)
  have KW_Line___init__ := met_kw (st := s_Line___init__) (ps := ["self", "at_zero", "slope"]) (ks := ["at_zero", "slope"]) (i := 0) ml_Line___init__ mc_Line___init__ mk_Line___init__ mt_Line___init__ ⟨_, rfl⟩ (fun _ _ _ _ _ _ _ us its ws h1 h2 h3 => match us, its, ws, h1, h2, h3 with | [_], [_], [_, _], _, _, _ => ⟨_, rfl, rfl⟩)
  have F_Line___call__ := fun_mk (st := s_Line___call__) ml_Line___call__ mc_Line___call__ mk_Line___call__
  have M_Line___call__ := met_mk F_Line___call__ (F_Line___call__.binds (ps := ["self", "m"]) fun _ _ _ _ _ _ us hl => match us, hl with | [_, _], _ => rfl)
  have F_Line___add__ := fun_mk (st := s_Line___add__) ml_Line___add__ mc_Line___add__ mk_Line___add__
  have M_Line___add__ := met_mk F_Line___add__ (F_Line___add__.binds (ps := ["self", "other"]) fun _ _ _ _ _ _ us hl => match us, hl with | [_, _], _ => rfl)
  have F_Line___sub__ := fun_mk (st := s_Line___sub__) ml_Line___sub__ mc_Line___sub__ mk_Line___sub__
  have M_Line___sub__ := met_mk F_Line___sub__ (F_Line___sub__.binds (ps := ["self", "other"]) fun _ _ _ _ _ _ us hl => match us, hl with | [_, _], _ => rfl)
  have F_Line___mul__ := fun_mk (st := s_Line___mul__) ml_Line___mul__ mc_Line___mul__ mk_Line___mul__
  have M_Line___mul__ := met_mk F_Line___mul__ (F_Line___mul__.binds (ps := ["self", "k"]) fun _ _ _ _ _ _ us hl => match us, hl with | [_, _], _ => rfl)
  have F_Line___eq__ := fun_mk (st := s_Line___eq__) ml_Line___eq__ mc_Line___eq__ mk_Line___eq__
  have M_Line___eq__ := met_mk F_Line___eq__ (F_Line___eq__.binds (ps := ["self", "other"]) fun _ _ _ _ _ _ us hl => match us, hl with | [_, _], _ => rfl)
  have F_Line___str__ := fun_mk (st := s_Line___str__) ml_Line___str__ mc_Line___str__ mk_Line___str__
  have M_Line___str__ := met_mk F_Line___str__ (F_Line___str__.binds (ps := ["self"]) fun _ _ _ _ _ _ us hl => match us, hl with | [_], _ => rfl)
  have F_Line_through := fun_mk (st := s_Line_through) ml_Line_through mc_Line_through mk_Line_through
  have M_Line_through := met_mk F_Line_through (F_Line_through.binds (ps := ["m", "value", "other", "further"]) fun _ _ _ _ _ _ us hl => match us, hl with | [_, _, _, _], _ => rfl)
  have T : Txt l.prog K mg ⟨f1, PySem.W.fnOf "_wall" "_wall" (defArgs s__wall) (defBody s__wall) (defScope s__wall) .none kV1 dc1 pm1 an1 cd1 ct1, f2, PySem.W.fnOf "is_integer" "is_integer" (defArgs s_is_integer) (defBody s_is_integer) (defScope s_is_integer) .none kV2 dc2 pm2 an2 cd2 ct2, f3, PySem.W.fnOf "is_between" "is_between" (defArgs s_is_between) (defBody s_is_between) (defScope s_is_between) .none kV3 dc3 pm3 an3 cd3 ct3, f4, PySem.W.fnOf "check_line_number" "check_line_number" (defArgs s_check_line_number) (defBody s_check_line_number) (defScope s_check_line_number) .none kV4 dc4 pm4 an4 cd4 ct4, f5, PySem.W.fnOf "line_text" "line_text" (defArgs s_line_text) (defBody s_line_text) (defScope s_line_text) .none kV5 dc5 pm5 an5 cd5 ct5, f6, PySem.W.fnOf "_law_pool" "_law_pool" (defArgs s__law_pool) (defBody s__law_pool) (defScope s__law_pool) .none kV6 dc6 pm6 an6 cd6 ct6, f7, PySem.W.fnOf "_law_take" "_law_take" (defArgs s__law_take) (defBody s__law_take) (defScope s__law_take) .none kV7 dc7 pm7 an7 cd7 ct7, f8, PySem.W.fnOf "_law_number" "_law_number" (defArgs s__law_number) (defBody s__law_number) (defScope s__law_number) .none kV8 dc8 pm8 an8 cd8 ct8, f9, PySem.W.fnOf "_law_text" "_law_text" (defArgs s__law_text) (defBody s__law_text) (defScope s__law_text) .none kV9 dc9 pm9 an9 cd9 ct9, f10, PySem.W.fnOf "_law_read" "_law_read" (defArgs s__law_read) (defBody s__law_read) (defScope s__law_read) .none kV10 dc10 pm10 an10 cd10 ct10, fa, PySem.W.fnOf "law" "law" (defArgs s_law) (defBody s_law) (defScope s_law) .none kV11 dc11 pm11 an11 cd11 ct11, t_MOST_NUMBER, t_MOST_LINE, D, fI, C_BadNumber, C_BadLine, C_Line, m_Line___init__, PySem.W.fnOf "__init__" "Line.__init__" (defArgs s_Line___init__) (defBody s_Line___init__) (defScope s_Line___init__) (.ref T_Line___init__) kV_Line___init__ dc_Line___init__ pm_Line___init__ an_Line___init__ cd_Line___init__ ct_Line___init__, m_Line___call__, PySem.W.fnOf "__call__" "Line.__call__" (defArgs s_Line___call__) (defBody s_Line___call__) (defScope s_Line___call__) .none kV_Line___call__ dc_Line___call__ pm_Line___call__ an_Line___call__ cd_Line___call__ ct_Line___call__, m_Line___add__, PySem.W.fnOf "__add__" "Line.__add__" (defArgs s_Line___add__) (defBody s_Line___add__) (defScope s_Line___add__) .none kV_Line___add__ dc_Line___add__ pm_Line___add__ an_Line___add__ cd_Line___add__ ct_Line___add__, m_Line___sub__, PySem.W.fnOf "__sub__" "Line.__sub__" (defArgs s_Line___sub__) (defBody s_Line___sub__) (defScope s_Line___sub__) .none kV_Line___sub__ dc_Line___sub__ pm_Line___sub__ an_Line___sub__ cd_Line___sub__ ct_Line___sub__, m_Line___mul__, PySem.W.fnOf "__mul__" "Line.__mul__" (defArgs s_Line___mul__) (defBody s_Line___mul__) (defScope s_Line___mul__) .none kV_Line___mul__ dc_Line___mul__ pm_Line___mul__ an_Line___mul__ cd_Line___mul__ ct_Line___mul__, m_Line___eq__, PySem.W.fnOf "__eq__" "Line.__eq__" (defArgs s_Line___eq__) (defBody s_Line___eq__) (defScope s_Line___eq__) .none kV_Line___eq__ dc_Line___eq__ pm_Line___eq__ an_Line___eq__ cd_Line___eq__ ct_Line___eq__, m_Line___str__, PySem.W.fnOf "__str__" "Line.__str__" (defArgs s_Line___str__) (defBody s_Line___str__) (defScope s_Line___str__) .none kV_Line___str__ dc_Line___str__ pm_Line___str__ an_Line___str__ cd_Line___str__ ct_Line___str__, m_Line_through, PySem.W.fnOf "through" "Line.through" (defArgs s_Line_through) (defBody s_Line_through) (defScope s_Line_through) .none kV_Line_through dc_Line_through pm_Line_through an_Line_through cd_Line_through ct_Line_through, p_Line_through⟩ := ⟨⟨F1, PySem.W.mg_of X G a1, b1⟩, ⟨F2, PySem.W.mg_of X G a2, b2⟩, ⟨F3, PySem.W.mg_of X G a3, b3⟩, ⟨F4, PySem.W.mg_of X G a4, b4⟩, ⟨F5, PySem.W.mg_of X G a5, b5⟩, ⟨F6, PySem.W.mg_of X G a6, b6⟩, ⟨F7, PySem.W.mg_of X G a7, b7⟩, ⟨F8, PySem.W.mg_of X G a8, b8⟩, ⟨F9, PySem.W.mg_of X G a9, b9⟩, ⟨F10, PySem.W.mg_of X G a10, b10⟩, ⟨F11, PySem.W.mg_of X G a11, b11⟩, PySem.W.mg_none_of X G z_bool, PySem.W.mg_none_of X G z_int, PySem.W.mg_none_of X G z_isinstance, PySem.W.mg_none_of X G z_len, PySem.W.mg_none_of X G z_max, PySem.W.mg_none_of X G z_min, PySem.W.mg_none_of X G z_range, PySem.W.mg_none_of X G z_str, PySem.W.mg_of X G y_MOST_NUMBER, PySem.W.mg_of X G y_MOST_LINE, room, c_BadNumber, ⟨hc_BadNumber, hcn, hct, mo_BadNumber⟩, c_BadLine, ⟨hc_BadLine, hcn, hct, mo_BadLine⟩, k_Line, M_Line___init__, M_Line___call__, M_Line___add__, M_Line___sub__, M_Line___mul__, M_Line___eq__, M_Line___str__, M_Line_through, ⟨mm_Line, ma_Line___init__, mf_Line___init__, kc_Line⟩, ⟨k_Line.is, nb_int_Line, nb_bool_Line, nb_str_Line, nb_list_Line, nb_tuple_Line, nb_dict_Line⟩, na_Line_at_zero, na_Line_slope, na_Line_text, ⟨of_Line_add, ma_Line___add__, mf_Line___add__, or_Line_add⟩, ⟨of_Line_mul, ma_Line___mul__, mf_Line___mul__, or_Line_mul⟩, ⟨of_Line_sub, ma_Line___sub__, mf_Line___sub__, or_Line_sub⟩, ⟨ma_Line___eq__, ne_Line, mf_Line___eq__, hM_Line⟩, ⟨ma_Line___str__, mf_Line___str__⟩, KW_Line___init__, ⟨ma_Line___call__, mf_Line___call__, fi_Line⟩, ⟨rd_Line_through, sg_Line_through, sa_Line_through, ⟨_, sr_Line_through⟩, mk_Line_through⟩⟩
  exact ⟨_, fun s v => .of_eq rfl, fun base _ _ => ok_law T⟩
theorem walk {l : PySem.W.OpenLaw} {q : Program} {loose : List Str} {XP : (Str → Option Value) → Heap → Prop} {YP : World → Heap → Prop} {d : DefRec} {K : Params → PySem.W.Frag} (hn : l.most = some 63) (hdf : d.params.defaults = [])
    (hY : ∀ (w : World) (h : Heap), YP w h → (K w.params).In h)
    (F : ∀ (w : World) (mg : Str → Option Value) (fa : Addr) (h : Heap), (K w.params).In h → h.Ns mainGlobals mg → mg d.name = some (.ref fa) →
      ∃ fd : FuncData, (∀ (s : Shared) (u : Value), BindsTo s fd ⟨[u], []⟩ [("_law_script", u)]) ∧ ∀ base : Heap, (K w.params).In base → base.Ns mainGlobals mg → FnOk l.prog w (K w.params) mg base (L2.CX l.prog w) 8 fa fd ["_law_script"] (cLaw.sp (K w.params))) :
    PySem.W.WalkO q loose XP YP l.row.toRowW d [] (fun f vs => PySem.call f vs) :=
  L2.walk_of (n := 63) (k := 8) (x := "_law_script") (CX := fun w => L2.CX l.prog w) (sp := fun w => cLaw.sp (K w.params)) hn (by decide) hdf ⟨rfl, by decide, by decide⟩ hY F (fun _ _ a ns hl _ hS => law_sp hl hS) fun _ _ _ _ _ z => law_cx z
end G

open PySem PySem.W PyProof.Rows in
set_option maxRecDepth 100000 in
set_option maxHeartbeats 0 in
theorem PySem.Challenge.cw_leastrooms_k50_lines_as_text_holds : PySem.Challenge.rw_leastrooms_k50_lines_as_text.Holds := by
  w_on; o_law; k_head; (case hw => w_witness2)
  k_fill
  refine G.walk (l := PySem.Challenge.rw_leastrooms_k50_lines_as_text) rfl rfl (fun w h Y => PySem.W.kIn_of Y) ?F
  case F =>
    intro w mg fa h KX G hmg
    refine' _root_.G.all_mk KX G hmg ?a1 ?l1 ?c1 ?k1 ?a2 ?l2 ?c2 ?k2 ?a3 ?l3 ?c3 ?k3 ?a4 ?l4 ?c4 ?k4 ?a5 ?l5 ?c5 ?k5 ?a6 ?l6 ?c6 ?k6 ?a7 ?l7 ?c7 ?k7 ?a8 ?l8 ?c8 ?k8 ?a9 ?l9 ?c9 ?k9 ?a10 ?l10 ?c10 ?k10 ?a11 ?l11 ?c11 ?k11 ?z_bool ?z_int ?z_isinstance ?z_len ?z_max ?z_min ?z_range ?z_str ?y_MOST_NUMBER ?y_MOST_LINE ?aD ?aI ?lI ?cI ?lcI ?lvI ?lfI ?lcc ?lD ?zS ?mt ?tp ?hcn ?hct ?aC_BadNumber ?xC_BadNumber ?sa_BadNumber ?ga_BadNumber ?gg_BadNumber ?nv_BadNumber ?in_BadNumber ?tf_BadNumber ?kC_BadNumber ?eC_BadNumber ?vC_BadNumber ?tC_BadNumber ?hC_BadNumber ?iC_BadNumber ?sC_BadNumber ?su_BadNumber ?mr_BadNumber ?hc_BadNumber ?mo_BadNumber ?aC_BadLine ?xC_BadLine ?sa_BadLine ?ga_BadLine ?gg_BadLine ?nv_BadLine ?in_BadLine ?tf_BadLine ?kC_BadLine ?eC_BadLine ?vC_BadLine ?tC_BadLine ?hC_BadLine ?iC_BadLine ?sC_BadLine ?su_BadLine ?mr_BadLine ?hc_BadLine ?mo_BadLine ?ac_Line ?pg_Line ?hd_Line ?po_Line ?st_Line ?hA_Line ?hM_Line ?hT_Line ?mm_Line ?kc_Line ?hS_Line ?me_Line ?na_Line_at_zero ?na_Line_slope ?na_Line_text ?ma_Line___init__ ?ml_Line___init__ ?mc_Line___init__ ?mk_Line___init__ ?mf_Line___init__ ?mt_Line___init__ ?ma_Line___call__ ?ml_Line___call__ ?mc_Line___call__ ?mk_Line___call__ ?mf_Line___call__ ?ma_Line___add__ ?ml_Line___add__ ?mc_Line___add__ ?mk_Line___add__ ?mf_Line___add__ ?ma_Line___sub__ ?ml_Line___sub__ ?mc_Line___sub__ ?mk_Line___sub__ ?mf_Line___sub__ ?ma_Line___mul__ ?ml_Line___mul__ ?mc_Line___mul__ ?mk_Line___mul__ ?mf_Line___mul__ ?ma_Line___eq__ ?ml_Line___eq__ ?mc_Line___eq__ ?mk_Line___eq__ ?mf_Line___eq__ ?ma_Line___str__ ?ml_Line___str__ ?mc_Line___str__ ?mk_Line___str__ ?mf_Line___str__ ?sa_Line_through ?sr_Line_through ?ml_Line_through ?mc_Line_through ?mk_Line_through ?mf_Line_through ?nb_int_Line ?nb_bool_Line ?nb_str_Line ?nb_list_Line ?nb_tuple_Line ?nb_dict_Line ?of_Line_add ?or_Line_add ?of_Line_mul ?or_Line_mul ?of_Line_sub ?or_Line_sub ?ne_Line ?fi_Line ?rd_Line_through ?sg_Line_through
    (case a1 => k_is)
    (case l1 => k_is)
    (case c1 => k_is)
    (case k1 => k_is)
    (case a2 => k_is)
    (case l2 => k_is)
    (case c2 => k_is)
    (case k2 => k_is)
    (case a3 => k_is)
    (case l3 => k_is)
    (case c3 => k_is)
    (case k3 => k_is)
    (case a4 => k_is)
    (case l4 => k_is)
    (case c4 => k_is)
    (case k4 => k_is)
    (case a5 => k_is)
    (case l5 => k_is)
    (case c5 => k_is)
    (case k5 => k_is)
    (case a6 => k_is)
    (case l6 => k_is)
    (case c6 => k_is)
    (case k6 => k_is)
    (case a7 => k_is)
    (case l7 => k_is)
    (case c7 => k_is)
    (case k7 => k_is)
    (case a8 => k_is)
    (case l8 => k_is)
    (case c8 => k_is)
    (case k8 => k_is)
    (case a9 => k_is)
    (case l9 => k_is)
    (case c9 => k_is)
    (case k9 => k_is)
    (case a10 => k_is)
    (case l10 => k_is)
    (case c10 => k_is)
    (case k10 => k_is)
    (case a11 => k_is)
    (case l11 => k_is)
    (case c11 => k_is)
    (case k11 => k_is)
    (case z_bool => k_is)
    (case z_int => k_is)
    (case z_isinstance => k_is)
    (case z_len => k_is)
    (case z_max => k_is)
    (case z_min => k_is)
    (case z_range => k_is)
    (case z_str => k_is)
    (case y_MOST_NUMBER => k_is)
    (case y_MOST_LINE => k_is)
    (case aD => k_is)
    (case aI => k_is)
    (case lI => k_is)
    (case cI => k_is)
    (case lcI => k_is)
    (case lvI => rfl)
    (case lfI => decide +kernel)
    (case lcc => k_is)
    (case lD => k_is)
    (case zS => k_is)
    (case mt => decide +kernel)
    (case tp => k_is)
    (case hcn => k_is)
    (case hct => k_is)
    (case aC_BadNumber => k_is)
    (case xC_BadNumber => k_is)
    (case sa_BadNumber => k_is)
    (case ga_BadNumber => k_is)
    (case gg_BadNumber => k_is)
    (case nv_BadNumber => k_is)
    (case in_BadNumber => k_is)
    (case tf_BadNumber => k_is)
    (case kC_BadNumber => k_is)
    (case eC_BadNumber => k_is)
    (case vC_BadNumber => k_is)
    (case tC_BadNumber => k_is)
    (case hC_BadNumber => k_is)
    (case iC_BadNumber => k_is)
    (case sC_BadNumber => first | rfl | k_is)
    (case su_BadNumber => ks_is)
    (case mr_BadNumber => k_is)
    (case hc_BadNumber => k_is)
    (case mo_BadNumber => k_is)
    (case aC_BadLine => k_is)
    (case xC_BadLine => k_is)
    (case sa_BadLine => k_is)
    (case ga_BadLine => k_is)
    (case gg_BadLine => k_is)
    (case nv_BadLine => k_is)
    (case in_BadLine => k_is)
    (case tf_BadLine => k_is)
    (case kC_BadLine => k_is)
    (case eC_BadLine => k_is)
    (case vC_BadLine => k_is)
    (case tC_BadLine => k_is)
    (case hC_BadLine => k_is)
    (case iC_BadLine => k_is)
    (case sC_BadLine => first | rfl | k_is)
    (case su_BadLine => ks_is)
    (case mr_BadLine => k_is)
    (case hc_BadLine => k_is)
    (case mo_BadLine => k_is)
    (case ac_Line => k_is)
    (case pg_Line => k_is)
    (case hd_Line => k_is)
    (case po_Line => k_is)
    (case st_Line => k_is)
    (case hA_Line => k_is)
    (case hM_Line => k_is)
    (case hT_Line => k_is)
    (case mm_Line => k_is)
    (case kc_Line => k_is)
    (case hS_Line => k_is)
    (case me_Line => first | rfl | exact if_pos (beq_self_eq_true _) | k_is)
    (case na_Line_at_zero => k_is)
    (case na_Line_slope => k_is)
    (case na_Line_text => k_is)
    (case ma_Line___init__ => k_is)
    (case ml_Line___init__ => k_is)
    (case mc_Line___init__ => k_is)
    (case mk_Line___init__ => k_is)
    (case mf_Line___init__ => k_is)
    (case mt_Line___init__ => k_is)
    (case ma_Line___call__ => k_is)
    (case ml_Line___call__ => k_is)
    (case mc_Line___call__ => k_is)
    (case mk_Line___call__ => k_is)
    (case mf_Line___call__ => k_is)
    (case ma_Line___add__ => k_is)
    (case ml_Line___add__ => k_is)
    (case mc_Line___add__ => k_is)
    (case mk_Line___add__ => k_is)
    (case mf_Line___add__ => k_is)
    (case ma_Line___sub__ => k_is)
    (case ml_Line___sub__ => k_is)
    (case mc_Line___sub__ => k_is)
    (case mk_Line___sub__ => k_is)
    (case mf_Line___sub__ => k_is)
    (case ma_Line___mul__ => k_is)
    (case ml_Line___mul__ => k_is)
    (case mc_Line___mul__ => k_is)
    (case mk_Line___mul__ => k_is)
    (case mf_Line___mul__ => k_is)
    (case ma_Line___eq__ => k_is)
    (case ml_Line___eq__ => k_is)
    (case mc_Line___eq__ => k_is)
    (case mk_Line___eq__ => k_is)
    (case mf_Line___eq__ => k_is)
    (case ma_Line___str__ => k_is)
    (case ml_Line___str__ => k_is)
    (case mc_Line___str__ => k_is)
    (case mk_Line___str__ => k_is)
    (case mf_Line___str__ => k_is)
    (case sa_Line_through => k_is)
    (case sr_Line_through => k_is)
    (case ml_Line_through => k_is)
    (case mc_Line_through => k_is)
    (case mk_Line_through => k_is)
    (case mf_Line_through => k_is)
    (case nb_int_Line => k_is)
    (case nb_bool_Line => k_is)
    (case nb_str_Line => k_is)
    (case nb_list_Line => k_is)
    (case nb_tuple_Line => k_is)
    (case nb_dict_Line => k_is)
    (case of_Line_add => k_is)
    (case or_Line_add => k_is)
    (case of_Line_mul => k_is)
    (case or_Line_mul => k_is)
    (case of_Line_sub => k_is)
    (case or_Line_sub => k_is)
    (case ne_Line => k_is)
    (case fi_Line => k_is)
    (case rd_Line_through => k_is)
    (case sg_Line_through => k_is)
