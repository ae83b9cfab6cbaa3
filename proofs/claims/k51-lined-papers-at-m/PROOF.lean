import PyProof.Rows.All
import Wide.All
import OpenK.AllK
import Wide.FinOn
import PyProof.EqAt
import PyProof.EqKinds
import PyProof.TupleCall
import KE.OsGo
import KE.KExcSuper
import KE.KExcTry
import KE.KExcStr
import KE.KExcIs
import KE.KIsAll
import HandS.ExcIs
import HandS.IsInst
import HandS.ForExc
import HandS.ForMost
import HandS.Defaults
import KE.KStateDown
import HandS.Head0
import HandS.Head1
import HandS.Head2
import HandS.HeadHook1
import HandS.HeadHook2
import HandS.HeadHook3
import HandS.HeadHook4
import HandS.Lambda
import HandS.Wide
import HandS.Flow
import HandS.TupAny
import HandS.Style
import HandS.Star
import HandS.ClsMeth
import HandS.FStr
import HandS.SlotsOwn
import KE.KOpsOwn
import PyProof.InstNe
import KE.KxField
import HandS.Codes
import HandS.Text
import HandS.MakeKw
import HandS.MakeKwOnly
import KE.KCallOwn
import HandS.Iter
import HandS.List
import KE.GoesMore
import PyProof.EnumMake
import PyProof.Draws
import PyProof.Rows.MatchSeqLen
import HandS.TupMul
import HandS.RaiseMore
import PyProof.MeetsStr3
import HandS.Ends
import HandS.Dict
import HandS.DictComp
import HandS.NoneIn
import HandS.Replace
import HandS.ReplaceDef
import HandS.ReplaceLit
import HandS.TryMany
import HandS.EndOwn
import HandS.StrMore
import PyProof.Rows.SetFrom
import HandS.Strs
import HandS.StrSplit
import HandS.TryOnly
import HandS.WrittenGet
import HandS.More
import HandS.DictEq
import HandS.OwnEq
import HandS.ListEq
import HandS.Property
import HandS.Zip
import HandS.TupLe
import KE.KDictZip
import HandS.ListItems
import PyProof.Rows.FactsExc_KeyError
import KE.KExcInit
import HandS.ExcInit
import HandS.EndTab
import HandS.Set
import HandS.SetTxt0
import PyProof.Rows.SortStr
import PyProof.Rows.SortShellAny
import HandS.Comp
import HandS.SetBool
import HandS.Small
import HandS.HotCalls
import PySem.Challenge.RW_leastrooms_k51_lined_papers_at_m
set_option Elab.async false
set_option linter.all false
set_option maxRecDepth 100000
set_option maxHeartbeats 4000000
/-! RoomX: the errors of the program: class RoomError(ValueError) with super().__init__(value); self.value = value, and the classes under it. -/
namespace PySem
namespace RoomX
open PySem.W PySem.Calls PyProof.Rows PySem.HandSPX
/-! ### the text of __init__ -/
def iA (p1 p2 : Pos) : Arguments := { posonlyargs := [], args := [{ arg := "self", annotation := none, pos := p1 }, { arg := "value", annotation := none, pos := p2 }], vararg := none, kwonlyargs := [], kw_defaults := [], kwarg := none, defaults := [] }
def iB (q1 q2 q3 q4 q5 q6 r1 r2 r3 r4 : Pos) : List Stmt :=
  [.Expr (.Call (.Attribute (.Call (.Name "super" q1) [] [] q2) "__init__" q3) [.Name "value" q4] [] q5) q6,
   .Assign [.Attribute (.Name "self" r1) "value" r2] (.Name "value" r3) r4]
def iS : Scope := { kind := .function, names := [(PySem.Str.ofString "self", .local), (PySem.Str.ofString "value", .local), (PySem.Str.ofString "__class__", .free), (PySem.Str.ofString "super", .globalImplicit)], isGenerator := false, isCoroutine := false, more := [] }
/-- what the written part says of RoomError, at D, and of its __init__, at fI -/
structure RoomTxt (prog : Program) (K : Frag) (mg : Str → Option Value) (D fI : Addr) : Prop where
  fn : ∃ (oc : Value) (od : Option Addr) (doc pm : Value) (an : Option Addr) (cda cc : Addr) (ct : Value) (osl : Array (Option Value)) (p1 p2 q1 q2 q3 q4 q5 q6 r1 r2 r3 r4 : Pos),
    K.lookup fI = some ⟨oc, od, .func (ksFn "__init__" "RoomError.__init__" (iA p1 p2) (iB q1 q2 q3 q4 q5 q6 r1 r2 r3 r4) iS .none .none doc pm an (.ref cda) ct cc), osl⟩ ∧ codeIn K (.ref cda) "RoomError.__init__" = true ∧ (q3.endLine == q5.line) = true ∧
    (∃ ccl cdd vs ccs file tf, K.lookup cda = some ⟨ccl, cdd, .fields vs, ccs⟩ ∧ vs[2]? = some (.str file tf) ∧ ((prog.main.file : Str) == file) = true) ∧
    (∃ cl cld csl, K.lookup cc = some ⟨cl, cld, .cell (some (.ref D)), csl⟩)
  cD : ∃ cd, clsIn K D = some cd
  msup : mg "super" = none
  mtop : (prog.main.scope.names.lookup ("super" : Str)).isSome = false
  tp : nsIn K cStatics "thirdparty.any" = some none
/-- .. of a class of errors, at C, called nm in the text -/
structure RoomCls (K : Frag) (mg : Str → Option Value) (nm : Str) (C D fI : Addr) : Prop where
  gC : mg nm = some (.ref C)
  cls : ∃ nm q N bs bm sn sub ab col dd k0 k1 k2 k3 k5, K.lookup C = some (excClassObj nm q C N bs bm true sn sub ab col dd k0 k1 k2 k3 k5 "ValueError.__new__") ∧ refsVE bm = true
  sa : findIn K (.ref C) "__setattr__" = some (some (.builtin "object.__setattr__"))
  ga : findIn K (.ref C) "__getattribute__" = some (some (.builtin "BaseException.__getattribute__"))
  gg : findIn K (.ref C) "__getattr__" = some none
  noN : findIn K (.ref C) "value" = some none
  iC : findIn K (.ref C) "__init__" = some (some (.ref fI))
  tC : typeIn K (.ref fI) = some (.type "function")
  kC : keepIn K (.ref C) = true
  exC : subIn K (.ref C) (.type "BaseException") = some true
  veC : subIn K (.ref C) (.type "ValueError") = some true
  tyC : typeIn K (.ref C) = some (.type "type")
  hdC : hasDictIn K C = true
  icl : isClsIn K C = true
  scC : subIn K (.ref C) (.ref C) = some true
  sup : ks_superIn K C D "__init__" = some (some (.builtin "ValueError.__init__"))
  mro : mroIn K C (.ref D) = some true
theorem one_size (v : Value) : [v].length ≤ sizeLine := by
  rw [sizeLine_eq]
  exact (by decide : 1 ≤ 16777216)
theorem ldX {M : Model} {s : Shared} {name : Str} {scope : Scope} {L a : Addr} {cd : Value} {cc : Addr} {m : Str → Option Value} {x : Str} {pos : Pos} {v : Value} {Q : Value → Shared → Prop} {A : Around} {E : Value → Shared → Prop} (hn : s.heap.Ns L m) (hv : m x = some v) (h : Q v s)
    (hk : scope.kind = .function := by rfl) (hl : (ksEnv name scope L a cd cc).kindOf x = some .local := by rfl) (hd : (x == ("__debug__" : Str)) = false := by decide) :
    wpAny M A (eval (.Name x pos) (ksEnv name scope L a cd cc)) Q E s := wpAny_Name (wpAny_loadName_local hk hl hn hv h) hd
/-- the bound ValueError.__init__ called: the args are laid anew -/
theorem call_mw {prog : Program} {w : World} {A : Around} {E : Value → Shared → Prop} {h : Heap} {g : Array GenState} {d : Drawn} {t : Nat} {os : OsState}
    {nm q : Str} {C N : Addr} {bs bm : List Value} {hdct : Bool} {sn : List Str} {sub : List Value} {ab : Bool} {col : Option Bool} {dd : Option Addr} {k0 k1 k2 k3 k5 : Option Value} {u e t0 : Addr} {rest : List Value} {Q : Value → Shared → Prop}
    (hC : h.get? C = some (excClassObj nm q C N bs bm hdct sn sub ab col dd k0 k1 k2 k3 k5 "ValueError.__new__")) (he : h.get? e = some (excO C t0)) (hu : h.get? u = some (kxs_mw "ValueError.__init__" e)) (hrest : rest.length ≤ sizeLine)
    (hq : ∀ h' t1, (∀ b o, b ≠ e → h.get? b = some o → h'.get? b = some o) → h'.get? e = some (excO C t1) → Q .none ⟨h', g, d, t, os⟩) :
    wpAny (model prog w) A (call (.ref u) rest) Q E ⟨h, g, d, t, os⟩ := by
  refine wpAny_call (codeAny_of_tree ?_)
  show wpAny _ A.in1 (callAny (.ref u) ⟨rest, []⟩) _ _ _
  simp only [callAny]
  refine wpAny_bind (wpAny_load hu ?_)
  simp only [kxs_mw, show (Value.type "method-wrapper" == Value.type "method" || Value.type "method-wrapper" == Value.type "builtin_function_or_method" || Value.type "method-wrapper" == Value.type "method-wrapper") = true by decide, if_true]
  refine KFB.if_so (by decide) ?_
  refine wpAny_bind (check_bound_init F.excBase_ValueError.toExcCallFacts hC he rfl ?_)
  refine wpAny_bind (wpAny_pure (wpAny_pure ?_))
  refine ⟨plainId_quiet F.excBase_ValueError.init.plain _, codeAny_builtin F.excBase_ValueError.initEntry ?_⟩
  rw [Around.under_plainId F.excBase_ValueError.init.plain _]
  wp_walk
  refine hq _ h.objs.size (fun b o hb ho => ?_) ?_
  · rw [Heap.get?_update_other _ _ (Ne.symm hb)]
    exact Heap.get?_push_of_some _ ho
  · rw [Heap.get?_update_self _ (Heap.get?_push_of_some _ he) rfl]
    rfl
/-- what __init__ leaves of a fresh exception at x -/
structure InitEnd (h h' : Heap) (x C dx : Addr) (v : Value) : Prop where
  keep : ∀ b o, b ≠ x → h.get? b = some o → h'.get? b = some o
  obj : ∃ t1 : Addr, h'.get? x = some { cls := .ref C, dict := some dx, data := .fields #[.ref t1, .none, .none, .none, .bool false, .none] }
  dbig : h.objs.size ≤ dx
  dne : dx ≠ x
  ns : h'.Ns1 dx (fun y => if y = "value" then some v else none)
/-- a made error -/
structure OwnMade (h h' : Heap) (e C d : Addr) (v : Value) : Prop where
  keep : ∀ b o, h.get? b = some o → h'.get? b = some o
  new : h.objs.size ≤ e
  obj : ∃ oe vs, h'.get? e = some oe ∧ oe.cls = .ref C ∧ oe.dict = some d ∧ oe.data = .fields vs ∧ vs[1]? = some .none
  dbig : h.objs.size ≤ d
  dne : d ≠ e
  ns : h'.Ns1 d (fun y => if y = "value" then some v else none)
section
variable {prog : Program} {w : World} {A : Around} {E : Value → Shared → Prop} {R : Result → Shared → Prop} {s : Shared} {K : Frag} {mg : Str → Option Value} {nm : Str} {C D fI : Addr}
theorem room_init (T : RoomTxt prog K mg D fI) (U : RoomCls K mg nm C D fI) {x t0 : Addr} {v : Value} (X : K.In s.heap) (hlim : s.heap.NoLimit) (hG : s.heap.Ns mainGlobals mg) (hB : ∃ mb, s.heap.Ns builtinsNs mb ∧ ∀ x : Str, x ≠ "__name__" → mb x = bootBuiltins x)
    (hx : s.heap.get? x = some (excO C t0)) (hnx : K.lookup x = none) (hroom : A.depth < recursionLimit)
    (hq : ∀ h' tk dx, InitEnd s.heap h' x C dx v → R (.ok (.ret .none)) { s with heap := h', toks := tk }) :
    codeAny (model prog w) A (.call (.ref fI) ⟨[.ref x, v], []⟩) R s := by
  obtain ⟨oc, od, doc, pm, an, cda, cc, ct, osl, p1, p2, q1, q2, q3, q4, q5, q6, r1, r2, r3, r4, ho, hcd, hline, ⟨ccl, cdd, cvs, ccs, file, tf, hcode, hvs, hfile⟩, ⟨cl, cld, csl, hcell⟩⟩ := T.fn
  obtain ⟨cn, q, N, bs, bm, sn, sub, ab, col, dd, k0, k1, k2, k3, k5, hC, hbm⟩ := U.cls
  obtain ⟨cdD, hD⟩ := T.cD
  obtain ⟨mb, hBn, hBx⟩ := hB
  have hcl : clsIn K C = some { name := cn, bases := bs, mro := .ref C :: bm, ns := N, qualname := q, hasDict := true, slotNames := sn, subclasses := sub, abstract := ab, collection := col, hasDel := false } := by unfold clsIn; rw [hC] <;> rfl
  refine ks_codeAny_call_defAt (fd := ksFn "__init__" "RoomError.__init__" (iA p1 p2) (iB q1 q2 q3 q4 q5 q6 r1 r2 r3 r4) iS .none .none doc pm an (.ref cda) ct cc) (body := iB q1 q2 q3 q4 q5 q6 r1 r2 r3 r4) (binds := [("self", .ref x), ("value", v)]) hroom (X _ _ ho) rfl hlim (codeRec_of X hcd) rfl
    (BindsTo.of_eq (by first | rfl | with_unfolding_all rfl)) (show ∀ x ∈ iS.names, x.2 ≠ NameKind.cell from by decide) (fun y hy => by
      rcases List.mem_cons.mp hy with rfl | hy
      · rfl
      rcases List.mem_cons.mp hy with rfl | hy
      · rfl
      · cases hy) (fun h₁ hn k => ?_) rfl rfl rfl
  have hxL : s.heap.objs.size ≠ x := Nat.ne_of_gt (Heap.lt_size hx)
  have X₁ : K.In h₁ := X.keeps k
  have hx₁ := k _ _ hx
  obtain ⟨hp, g, d, t, os⟩ := s
  show _root_.PySem.wpAt _ _ _ (execs (iB q1 q2 q3 q4 q5 q6 r1 r2 r3 r4) (ksEnv "RoomError.__init__" iS hp.objs.size fI (.ref cda) cc)) _ _ _
  have I₁ : InstAt h₁ x (excO C t0) C none := ⟨hx₁, rfl, rfl, trivial⟩
  obtain ⟨oD, hD1, hD2⟩ : ∃ oD, h₁.get? D = some oD ∧ oD.data = .cls cdD := by
    unfold clsIn at hD
    split at hD
    · rename_i c d cd' sl ho
      cases hD
      exact ⟨_, X₁ _ _ ho, rfl⟩
    · cases hD
  -- super().__init__(value)
  refine ks_wpAt_execs_cons (ks_wpAt_Expr_any (ks_wpAt_MethodCall (pl := (do return (← importBound (.Call (.Name "super" q1) [] [] q2) (ksEnv "RoomError.__init__" iS hp.objs.size fI (.ref cda) cc)).getD true)) ?_ ?he))
  case he =>
    show (do
      let ov ← attributeBase (.Call (.Name "super" q1) [] [] q2) "__init__" (ksEnv "RoomError.__init__" iS hp.objs.size fI (.ref cda) cc) (eval (.Call (.Name "super" q1) [] [] q2) (ksEnv "RoomError.__init__" iS hp.objs.size fI (.ref cda) cc))
      standAt q3.atName
      methodCall (.Call (.Name "super" q1) [] [] q2) "__init__" q3 q5 (ksEnv "RoomError.__init__" iS hp.objs.size fI (.ref cda) cc) ov 1 (backTo q5 (starEach [.Name "value" q4] (ksEnv "RoomError.__init__" iS hp.objs.size fI (.ref cda) cc))) []) = _
    have e1 : methodCallForm 1 (backTo q5 (starEach [.Name "value" q4] (ksEnv "RoomError.__init__" iS hp.objs.size fI (.ref cda) cc))) [] = true := rfl
    unfold methodCall methodCallPos calleeOf
    rw [e1]
    simp only [hline, if_true, Bool.not_true, Bool.or_true, pure_bind]
    try rfl
  refine ks_wpAt_super_base (env := ksEnv "RoomError.__init__" iS hp.objs.size fI (.ref cda) cc) (by rfl) (by rfl) (by decide) rfl (X₁ _ _ ho) rfl (ar := { arg := "self", annotation := none, pos := p1 }) rfl rfl (X₁ _ _ hcode) rfl hvs hfile T.mtop ?_
  refine ks_loadName_global rfl (by rfl) (loadGlobal_builtin (env := ksEnv "RoomError.__init__" iS hp.objs.size fI (.ref cda) cc) (hG.keeps k) T.msup (hBn.keeps k) ((hBx _ (by decide +kernel)).trans (by decide +kernel)) ⟨rfl, ?_⟩)
  refine wpAny_loadName_free rfl (by rfl) rfl ⟨_, X₁ _ _ hcell, rfl⟩ ?_
  refine wpAny_loadName_local rfl (by rfl) hn (by first | rfl | with_unfolding_all rfl | kernel_rfl) ?_
  refine ks_wpAny_isType_cls hD1 hD2 ⟨rfl, ?_⟩
  refine ks_wpAny_call_super hD1 hD2 I₁.at_ I₁.cls (fun c e => ?_) (looks_mroIn X₁ U.mro) (fun h₂ hso k₂ => ?_)
  · cases e
  have X₂ : K.In h₂ := X₁.keeps k₂
  have hx₂ := k₂ _ _ hx₁
  have I₂ : InstAt h₂ x (excO C t0) C none := ⟨hx₂, rfl, rfl, trivial⟩
  have hsup : alongIn K "__init__" (((.ref C :: bm : List Value).dropWhile (· != .ref D)).drop 1) = some (some (.builtin "ValueError.__init__")) := by
    have z := U.sup
    unfold ks_superIn at z
    rw [hcl] at z
    exact z
  refine kxs_getMethod kxs_ValueError hso (looks_opaque X₂ T.tp) (l₀ := .ref C :: bm) ?_ rfl X₂ hsup (I₂.type.andThen (looks_subIn X₂ U.veC)) (ks_ne X₂ I₂ hcl) (by decide) ?_
  · exact fun A Q E s k q => wpAny_bind ((looks_clsIn X₂ hcl) A _ E s k (wpAny_pure q))
  have k₃ : ∀ b o, h₂.get? b = some o → (h₂.push (kxs_mw "ValueError.__init__" x)).get? b = some o := fun b o e => Heap.get?_push_of_some _ e
  have hn₃ : (h₂.push (kxs_mw "ValueError.__init__" x)).Ns hp.objs.size (fun y => ([("self", .ref x), ("value", v)] : List (Str × Value)).reverse.lookup y) := (hn.keeps k₂).keeps k₃
  have hu₃ : (h₂.push (kxs_mw "ValueError.__init__" x)).get? h₂.objs.size = some (kxs_mw "ValueError.__init__" x) := Heap.get?_push_at rfl rfl
  dsimp only
  refine kxs_callWith (i := "ValueError.__init__") (x := x) rfl ?_
  rw [show starEach [Expr.Name "value" q4] (ksEnv "RoomError.__init__" iS hp.objs.size fI (.ref cda) cc) = [(false, eval (.Name "value" q4) (ksEnv "RoomError.__init__" iS hp.objs.size fI (.ref cda) cc))] from rfl]
  refine evalArgs_plain ?_
  refine Calls.spliced_cons (ldX (v := v) hn₃ (by first | rfl | with_unfolding_all rfl | kernel_rfl) (Calls.spliced_nil ⟨hu₃, ?_⟩))
  refine call_mw (e := x) (t0 := t0) (rest := [v]) (k₃ _ _ (X₂ _ _ hC)) (k₃ _ _ hx₂) hu₃ (one_size v) (fun h₄ t1 k₄ hx₄ => ?_)
  -- self.value = value
  have hn₄ : h₄.Ns hp.objs.size (fun y => ([("self", .ref x), ("value", v)] : List (Str × Value)).reverse.lookup y) := by
    obtain ⟨oL, es, ep, hL, r⟩ := hn₃
    exact ⟨oL, es, ep, k₄ _ _ hxL hL, r⟩
  have X₄ : K.In h₄ := fun a o e => k₄ a o (fun z => by rw [z, hnx] at e; cases e) (k₃ _ _ (X₂ a o e))
  refine wpAt_of_wpAny ?_
  refine wpAny_execs_cons (plainObj_wpAny_Assign_Attribute ?_)
  refine ldX (v := v) hn₄ (by first | rfl | with_unfolding_all rfl | kernel_rfl) (ldX (v := .ref x) hn₄ (by first | rfl | with_unfolding_all rfl | kernel_rfl) ?_)
  refine set_plain X₄ (ox := excO C t1) (od := none) ⟨hx₄, rfl, rfl, trivial⟩ U.sa ?_
  refine exc_osa X₄ hx₄ hcl (show refsVE (.ref C :: bm) = true from hbm) rfl U.noN (fun h₅ tk₅ dx k₅ dn dne hx₅ hn₅ => ?_)
  show wpAny _ _ (execs _ _) _ _ _
  have all : ∀ b o, b ≠ x → hp.get? b = some o → h₄.get? b = some o := fun b o hb e => k₄ b o hb (k₃ _ _ (k₂ _ _ (k b o e)))
  have sz : hp.objs.size ≤ h₄.objs.size := Nat.le_of_lt hn₄.lt
  exact wpAny_execs_nil (hq h₅ tk₅ dx ⟨fun b o hb e => k₅ b o hb (all b o hb e), ⟨t1, hx₅⟩, Nat.le_trans sz dn, dne, hn₅⟩)
theorem room_made (T : RoomTxt prog K mg D fI) (U : RoomCls K mg nm C D fI) {v : Value} (X : K.In s.heap) (hlim : s.heap.NoLimit) (hG : s.heap.Ns mainGlobals mg) (hB : ∃ mb, s.heap.Ns builtinsNs mb ∧ ∀ x : Str, x ≠ "__name__" → mb x = bootBuiltins x) (hroom : A.depth + 1 < recursionLimit)
    (hq : ∀ h' tk e d, OwnMade s.heap h' e C d v → R (.ok (.ret (.ref e))) { s with heap := h', toks := tk }) :
    codeAny (model prog w) A (.call (.ref C) ⟨[v], []⟩) R s := by
  obtain ⟨nm, q, N, bs, bm, sn, sub, ab, col, dd, k0, k1, k2, k3, k5, hC, hbm⟩ := U.cls
  obtain ⟨hp, g, dr, tk, os⟩ := s
  have k : ∀ b o, hp.get? b = some o → ((hp.push (kdv_tup [v])).push (excO C hp.objs.size)).get? b = some o := fun b o e => Heap.get?_push_of_some _ (Heap.get?_push_of_some _ e)
  have hget : ((hp.push (kdv_tup [v])).push (excO C hp.objs.size)).get? (hp.objs.size + 1) = some (excO C hp.objs.size) := by heap_get
  have hnx : K.lookup (hp.objs.size + 1) = none := by
    cases e : K.lookup (hp.objs.size + 1) with
    | none => rfl
    | some o =>
      have z : hp.get? (hp.objs.size + 1) = some o := X _ _ e
      exact absurd (Nat.lt_of_succ_lt (Heap.lt_size z)) (Nat.lt_irrefl _)
  obtain ⟨mb, hBn, hBx⟩ := hB
  refine call_own F.excBase_ValueError (fun X => refsVE_contains X bm hbm) (X _ _ hC) (looks_findIn X U.iC) (fun self => bind_fn X self U.tC) (one_size v) ?_
  refine room_init (s := ⟨(hp.push (kdv_tup [v])).push (excO C hp.objs.size), g, dr, tk, os⟩) T U (X.keeps k) (hlim.keeps k) (hG.keeps k) ⟨mb, hBn.keeps k, hBx⟩ hget hnx ?_ fun h' tk' dx ⟨k', ⟨t1, hx⟩, dn, dne, hns⟩ => ?_
  · show A.depth + 1 < recursionLimit
    exact hroom
  · have old : ∀ b o, hp.get? b = some o → h'.get? b = some o := fun b o e => k' b o (Nat.ne_of_lt (Nat.lt_succ_of_lt (Heap.lt_size e))) (k b o e)
    have z : hp.objs.size + 1 + 1 ≤ dx := by
      first
        | (simpa only [Heap.size_push] using dn)
        | exact dn
        | (have q := dn; rw [Heap.size_push, Heap.size_push] at q; exact q)
    exact ⟨rfl, hq h' tk' (hp.objs.size + 1) dx ⟨old, Nat.le_succ _, ⟨_, _, hx, rfl, rfl, rfl, rfl⟩, Nat.le_trans (Nat.le_trans (Nat.le_succ _) (Nat.le_succ _)) z, dne, hns⟩⟩
end
end RoomX
end PySem
namespace L2
open PySem PySem.Spec PyProof.Rows
theorem relO_one {f0 : Str} {v : V} {v' : Value} (r : RelV v v') (f : Str) : RelO (List.lookup f [(f0, v)]) (if f = f0 then some v' else none) := by
  by_cases hw : f = f0
  · subst hw
    rw [if_pos rfl]
    have q : List.lookup f [(f, v)] = some v := by simp [List.lookup]
    rw [q]
    exact r
  · rw [if_neg hw]
    have qw : (f == f0) = false := by simpa using hw
    have q2 : List.lookup f [(f0, v)] = none := by simp [List.lookup, qw]
    rw [q2]
    trivial
section
variable {X : Cx} {nm : Str} {C D fI : Addr}
/-- the dict of an error with this value -/
abbrev xval (v : V) : HO := .xd [(("value" : Str), v)]
/-- C(e) -/
def tMkRoom (C : Addr) (ta : TA) : St → Hp → XK → Prop := fun σ H Q => ta σ H fun vs H1 => ∃ v, vs = [v] ∧ ∀ d, H1 d = none → Q (.ref C) (some d) (upd H1 d (xval v))
theorem pmk_room {a : Expr} {ta : TA} {p pos : Pos} {k : Nat} (T : PySem.RoomX.RoomTxt X.prog X.K X.mg D fI) (U : PySem.RoomX.RoomCls X.K X.mg nm C D fI) (hr : Room k X.A) (ha : PA X [a] ta) (hg : Gl X nm := by rfl)
    (he : starEach (a :: []) X.env = (false, eval a X.env) :: starEach [] X.env := by rfl) (hpl : (backTo pos (starEach [] X.env)).any (·.1) = false := by rfl) (hdb : (nm == ("__debug__" : Str)) = false := by decide) :
    PMk X (.Call (.Name nm p) [a] [] pos) (tMkRoom C ta) := by
  intro pins s σ H Q I h
  refine wpAny_Call_Name_kw (ld_glob I hg U.gC ?_ hdb)
  refine PySem.W.callWith_K (h₀ := X.base) I.ok.mod.kin U.kC (thn (ha.run pos pins s σ H _ I h) fun us s1 hh => ?_) he hpl
  obtain ⟨vs, H1, I1, r1, v, ev, q1⟩ := hh
  subst ev
  refine ⟨I1.kIn, ?_⟩
  cases r1 with
  | cons rv rn =>
    rename_i v' us'
    cases rn
    show wpAny _ _ (call (.ref C) [v']) _ _ _
    have hlim := I1.nolimit
    have hG := I1.mod.glob.keeps I1.bk
    obtain ⟨mb, hBn, hBx⟩ := I1.mod.blt
    have hBn' := hBn.keeps I1.bk
    obtain ⟨hp, g, dr, tk, os⟩ := s1
    refine wpAny_call (PySem.RoomX.room_made T U I1.kIn hlim hG ⟨mb, hBn', hBx⟩ (by have := hr.dp; omega) fun h' tk' e d M => ?_)
    show MkP X pins σ Q (.ref e) ⟨h', g, dr, tk', os⟩
    obtain ⟨oe, fv, hoe, hc, hd, hdat, h1⟩ := M.obj
    have hns := M.ns
    obtain ⟨G', g1, g2⟩ := restrict h' fun b => decide (b ≠ e)
    have gk : ∀ b, b ≠ e → G'.get? b = h'.get? b := fun b hb => g1 b (decide_eq_true hb)
    have ge : G'.get? e = none := g2 e (by simp)
    have old : ∀ b o, hp.get? b = some o → G'.get? b = some o := fun b o q => (gk b (Nat.ne_of_lt (Nat.lt_of_lt_of_le (Heap.lt_size q) M.new))).trans (M.keep b o q)
    have ob : ObjOk X.prog X.w (upd H1 d (xval v)) G' d (xval v) :=
      ⟨_, hns.at (fun o q => (gk d M.dne).trans q), fun f => relO_one rv f⟩
    have J : Inv X pins σ (upd H1 d (xval v)) ⟨G', g, dr, tk', os⟩ := I1.laid (t' := tk') old M.dbig ob
    refine ⟨e, oe, fv, ⟨G', g, dr, tk', os⟩, _, .ref C, some d, rfl, J, fun b o q => ?_, ge, hoe, ⟨hc, hd⟩, hdat, h1, ?_, rfl, I1.bare, raises_own U.exC U.tyC, q1 d (I1.hok.fresh M.dbig)⟩
    · by_cases hb : b = e
      · have q' : G'.get? b = some o := q
        rw [hb, ge] at q'; cases q'
      · exact (gk b hb).symm.trans q
    · rw [upd_ne (Ne.symm M.dne)]
      exact I1.hok.fresh M.new
/-- raise C(e) -/
def tRaiseRoom (C : Addr) (W : WX) (ta : TA) : TS := fun _ σ H => tMkRoom C ta σ H fun cls d H' => W cls d σ H'
theorem ps_raiseRoom {a : Expr} {ta : TA} {W : WX} {p pos pos2 : Pos} {k : Nat} (hc : X.calm = true) (T : PySem.RoomX.RoomTxt X.prog X.K X.mg D fI) (U : PySem.RoomX.RoomCls X.K X.mg nm C D fI) (hr : Room k X.A) (tk : Takes X W) (ha : PA X [a] ta) (hg : Gl X nm := by rfl)
    (he : starEach (a :: []) X.env = (false, eval a X.env) :: starEach [] X.env := by rfl) (hpl : (backTo pos (starEach [] X.env)).any (·.1) = false := by rfl) (hdb : (nm == ("__debug__" : Str)) = false := by decide) :
    PS X (.Raise (some (.Call (.Name nm p) [a] [] pos)) none pos2) (tRaiseRoom C W ta) := ps_raise hc tk (pmk_room T U hr ha hg he hpl hdb)
/-- e.value, e the exception that the suite holds (at a; its class cls, its dict d) -/
def tValRoom (C : Addr) (a : Addr) (cls : Value) (d : Option Addr) (te : TE) : TE := fun σ H Q => te σ H fun x H1 => x = .ref a ∧ cls = .ref C ∧ ∃ (dd : Addr) (v : V), d = some dd ∧ H1 dd = some (xval v) ∧ Q v H1
theorem pe_valRoom {a : Addr} {oe : Obj} {cls : Value} {d : Option Addr} {pn : List (Addr × Obj)} {e : Expr} {te : TE} {pos : Pos} (U : PySem.RoomX.RoomCls X.K X.mg nm C D fI) (hz : Zc cls d oe) (hf : ∃ vs, oe.data = .fields vs) (he : PE (X.suite a ((a, oe) :: pn)) e te)
    (hb : attributeBase e "value" X.env (eval e X.env) = eval e X.env := by rfl) :
    PE (X.suite a ((a, oe) :: pn)) (.Attribute e "value" pos) (tValRoom C a cls d te) := by
  refine ⟨fun pins s σ H Q I h => ?_⟩
  refine attr_of hb (thn (he.run pins s σ H _ I h) fun u s1 hh => ?_)
  obtain ⟨x, H1, I1, rx, ex, ec, dd, v, ed, ea, q⟩ := hh
  subst ex
  obtain rfl : u = Value.ref a := rx
  subst ec
  subst ed
  obtain ⟨ha, _⟩ := I1.pin (a, oe) (List.mem_append_left _ List.mem_cons_self)
  obtain ⟨vs, hd⟩ := hf
  have hx : ObjOk X.prog X.w H1 s1.heap dd (xval v) := I1.hok dd _ ea
  obtain ⟨mA, hns, hr⟩ := hx
  obtain ⟨od, ho, hl⟩ := lookIn_ns hns
  have l : List.lookup ("value" : Str) [(("value" : Str), v)] = some v := by simp [List.lookup]
  obtain ⟨u, hu, ru⟩ := RelO.some_of (v := v) (o := mA "value") (by rw [← l]; exact hr "value")
  have J : PySem.W.InstAt s1.heap a oe C (some od) := ⟨ha, hz.1, by unfold PySem.W.notCls; rw [hd] <;> rfl, by rw [hz.2]; exact ho⟩
  exact HandSPX.exc_get I1.kIn J U.ga U.gg U.exC (PySem.W.findObj_own U.hdC U.noN rfl (by rw [hl, hu])) (handed_of ru) ⟨v, H1, I1.tok _, ru, q⟩
/-- what the class must say more, so that isinstance asks its instances rightly -/
structure RoomIs (K : PySem.W.Frag) (C : Addr) : Prop where
  ha : PySem.W.findIn K (.ref C) "__class__" = some (some (.builtin "object.__class__"))
  hn : PySem.W.specialIn K (.builtin "object.__class__") "__get__" = some (some (.builtin "getset_descriptor.__get__"))
  ht : PySem.W.takesIn K (.builtin "object.__class__") = some true
  hm : PySem.W.mroIn K C (.type "object") = some true
end
end L2
set_option Elab.async false
set_option linter.all false
set_option maxRecDepth 100000
set_option maxHeartbeats 4000000
/-! Hz0: what the top has written, looked at once by the kernel: the looks. -/
namespace Hz
open PySem PySem.Spec PyProof.Rows L2 He
def ra (K : PySem.W.Frag) (p : Addr) (T : String) : Addr := match PySem.W.recIn K p T with
  | some (.ref m :: _) => m
  | _ => 0
def sa (K : PySem.W.Frag) (C : Addr) (m : Str) : Addr := match PySem.W.findCls K (.ref C) (.type "type") m with
  | some (.get _ (.ref p) _ _) => p
  | _ => 0
def fd0 : FuncData := PySem.W.fnOf "" "" (defArgs (.Pass ⟨0, 0, 0, 0⟩)) [] (defScope (.Pass ⟨0, 0, 0, 0⟩)) .none .none .none .none none .none .none
def fdAt (K : PySem.W.Frag) (f : Addr) : FuncData := match K.lookup f with
  | some ⟨_, _, .func fd, _⟩ => fd
  | _ => fd0
def tkAt (K : PySem.W.Frag) (x : Str) : Tok := match PySem.W.nsIn K mainGlobals x with
  | some (some (.int _ t)) => t
  | some (some (.str _ t)) => t
  | _ => default
abbrev FnC : Type := Option (Str × Str × Arguments × FuncBody × Scope × Addr × List Str × Addr)
def fnC (K : PySem.W.Frag) (f : Addr) : FnC := match K.lookup f with
  | some ⟨_, _, .func fd, _⟩ => some (fd.name, fd.qualname, fd.params, fd.body, fd.scope, fd.globals, fd.closure.map (·.1), fd.builtins)
  | _ => none
abbrev fnV (x q : Str) (st : Stmt) : FnC := some (x, q, defArgs st, .stmts (defBody st), defScope st, mainGlobals, [], builtinsNs)
inductive Dk where
  | no | int (i : Int) | non2 | unit
def dkB (K : PySem.W.Frag) (v : Value) : Dk → Bool
  | .no => (match v with
    | .none => true
    | _ => false)
  | .int i => (match v with
    | .ref T => (match K.lookup T with
      | some ⟨_, _, .seq its _, _⟩ => (match its.toList with
        | [.int j _] => decide (j = i)
        | _ => false)
      | _ => false)
    | _ => false)
  | .non2 => (match v with
    | .ref T => (match K.lookup T with
      | some ⟨_, _, .seq its _, _⟩ => (match its.toList with
        | [.none, .none] => true
        | _ => false)
      | _ => false)
    | _ => false)
  | .unit => (match v with
    | .ref T => (match K.lookup T with
      | some ⟨_, _, .seq its _, _⟩ => (match its.toList with
        | [.ref t] => (match K.lookup t with
          | some ⟨.type c, _, .seq js _, _⟩ => decide (c = "tuple") && js.isEmpty
          | _ => false)
        | _ => false)
      | _ => false)
    | _ => false)
def fB (K : PySem.W.Frag) (f : Addr) (q : Str) (d : Dk) : Bool := PySem.W.keepIn K (.ref f) && (match K.lookup f with
  | some ⟨_, _, .func fd, _⟩ => PySem.W.codeIn K fd.code q && dkB K fd.defaults d
  | _ => false)
def defB (K : PySem.W.Frag) (x : Str) (d : Dk) : Bool := (Fa.glo x).ok K && fB K (ga K x) x d
def clsB (K : PySem.W.Frag) (x : Str) : Bool := (Fa.glo x).ok K && ((Fa.cls x).ok K && (eqO (PySem.W.findIn K (.ref (ga K x)) "__class__") (some (some (.builtin "object.__class__"))) && (eqO (PySem.W.specialIn K (.builtin "object.__class__") "__get__") (some (some (.builtin "getset_descriptor.__get__"))) &&
  (decide (PySem.W.takesIn K (.builtin "object.__class__") = some true) && (decide (PySem.W.mroIn K (ga K x) (.type "object") = some true) && (decide (PySem.W.kitOne K (.ref (ga K x)) (.ref (ga K x)) = some true) && ((PySem.W.clsIn K (ga K x)).isSome && decide (PySem.W.typeIn K (.ref (ga K x)) = some (.type "type")))))))))
def eqB (K : PySem.W.Frag) (C g : Addr) : Bool := eqO (PySem.W.findIn K (.ref C) "__eq__") (some (some (.ref g))) && (eqO (PySem.W.findIn K (.ref C) "__ne__") (some (some (.builtin "object.__ne__"))) && (PySem.W.isFn K (.ref g) && decide (PySem.W.mroIn K C (.type "object") = some true)))
def subF (K : PySem.W.Frag) (a b : Addr) : Bool := decide (PySem.W.subIn K (.ref a) (.ref b) = some false)
def iniB (P : Program) (K : PySem.W.Frag) (f D : Addr) (q : Str) : Bool := (match K.lookup f with
  | some ⟨_, _, .func fd, _⟩ => (match fd.defaults, fd.kwdefaults, fd.code, fd.closure with
    | .none, .none, .ref cda, [(_, cc)] => PySem.W.codeIn K (.ref cda) q && ((match K.lookup cda with
      | some ⟨_, _, .fields vs, _⟩ => (match (vs[2]? : Option Value) with
        | some (Value.str file _) => ((P.main.file : Str) == file)
        | _ => false)
      | _ => false) && (match K.lookup cc with
      | some ⟨_, _, .cell (some (.ref D')), _⟩ => D' == D
      | _ => false))
    | _, _, _, _ => false)
  | _ => false) && ((PySem.W.clsIn K D).isSome && (eqO (PySem.W.nsIn K mainGlobals "super") (some none) && (!(P.main.scope.names.lookup ("super" : Str)).isSome && eqO (PySem.W.nsIn K cStatics "thirdparty.any") (some none))))
abbrev iniV (q : Str) (A : Arguments) (b : List Stmt) (sc : Scope) : FnC := some (("__init__" : Str), q, A, FuncBody.stmts b, sc, mainGlobals, [("__class__" : Str)], builtinsNs)
def exObjV (K : PySem.W.Frag) (C : Addr) : Bool := match K.lookup C with
  | some ⟨.type "type", _, .cls cd, sl⟩ => (match cd.mro, sl.toList with
    | .ref C' :: bm, [_, _, _, _, some (.builtin n), _] => C' == C && n == "ValueError.__new__" && !cd.hasDel && cd.hasDict && PySem.HandSPX.refsVE bm
    | _, _ => false)
  | _ => false
def errB (K : PySem.W.Frag) (x : Str) (D f : Addr) : Bool := (Fa.glo x).ok K && (exObjV K (ga K x) && (eqO (PySem.W.findIn K (.ref (ga K x)) "__setattr__") (some (some (.builtin "object.__setattr__"))) && (eqO (PySem.W.findIn K (.ref (ga K x)) "__getattribute__") (some (some (.builtin "BaseException.__getattribute__"))) &&
  (eqO (PySem.W.findIn K (.ref (ga K x)) "__getattr__") (some none) && (eqO (PySem.W.findIn K (.ref (ga K x)) "value") (some none) && (eqO (PySem.W.findIn K (.ref (ga K x)) "__init__") (some (some (.ref f))) && (decide (PySem.W.typeIn K (.ref f) = some (.type "function")) && (PySem.W.keepIn K (.ref (ga K x)) &&
  (decide (PySem.W.subIn K (.ref (ga K x)) (.type "BaseException") = some true) && (decide (PySem.W.subIn K (.ref (ga K x)) (.type "ValueError") = some true) && (decide (PySem.W.typeIn K (.ref (ga K x)) = some (.type "type")) && (PySem.W.hasDictIn K (ga K x) && (PySem.W.isClsIn K (ga K x) &&
  (decide (PySem.W.subIn K (.ref (ga K x)) (.ref (ga K x)) = some true) && (eqO (PySem.W.ks_superIn K (ga K x) D "__init__") (some (some (.builtin "ValueError.__init__"))) && decide (PySem.W.mroIn K (ga K x) (.ref D) = some true))))))))))))))))
def errI (K : PySem.W.Frag) (C : Addr) : Bool := eqO (PySem.W.findIn K (.ref C) "__class__") (some (some (.builtin "object.__class__"))) && (eqO (PySem.W.specialIn K (.builtin "object.__class__") "__get__") (some (some (.builtin "getset_descriptor.__get__"))) && (decide (PySem.W.takesIn K (.builtin "object.__class__") = some true) && decide (PySem.W.mroIn K C (.type "object") = some true)))
def callB (K : PySem.W.Frag) (C g : Addr) : Bool := eqO (PySem.W.findIn K (.ref C) "__call__") (some (some (.ref g))) && (PySem.W.isFn K (.ref g) && PySem.W.fnIn K g)
/-- own classes, then the tail tl -/
def tailK (tl : List Value) : List Value → Bool
  | .ref _ :: r => tailK tl r
  | l => l == tl
def exObjK (K : PySem.W.Frag) (C : Addr) (nw : String) (tl : List Value) : Bool := match K.lookup C with
  | some ⟨.type "type", _, .cls cd, sl⟩ => (match cd.mro, sl.toList with
    | .ref C' :: bm, [_, _, _, _, some (.builtin n), _] => C' == C && n == nw && !cd.hasDel && cd.hasDict && tailK tl bm
    | _, _ => false)
  | _ => false
def exK (K : PySem.W.Frag) (B i nw : String) (tl : List Value) (C D fI : Addr) : Bool :=
  exObjK K C nw tl && (eqO (PySem.W.findIn K (.ref C) "__setattr__") (some (some (.builtin "object.__setattr__"))) && (eqO (PySem.W.findIn K (.ref C) "value") (some none) && (eqO (PySem.W.findIn K (.ref C) "word") (some none) &&
  (eqO (PySem.W.findIn K (.ref C) "__init__") (some (some (.ref fI))) && (decide (PySem.W.typeIn K (.ref fI) = some (.type "function")) && (PySem.W.keepIn K (.ref C) && (decide (PySem.W.subIn K (.ref C) (.type B) = some true) &&
  (eqO (PySem.W.ks_superIn K C D "__init__") (some (some (.builtin i))) && decide (PySem.W.mroIn K C (.ref D) = some true)))))))))
def kTail : List Value := [.type "KeyError", .type "LookupError", .type "Exception", .type "BaseException", .type "object"]
def keyG (K : PySem.W.Frag) (x : Str) (D f : Addr) : Bool := (Fa.glo x).ok K && (exK K "KeyError" "KeyError.__init__" "LookupError.__new__" kTail (ga K x) D f && (eqO (PySem.W.findIn K (.ref (ga K x)) "__getattribute__") (some (some (.builtin "BaseException.__getattribute__"))) && (eqO (PySem.W.findIn K (.ref (ga K x)) "__getattr__") (some none) &&
  (decide (PySem.W.subIn K (.ref (ga K x)) (.type "BaseException") = some true) && (decide (PySem.W.typeIn K (.ref (ga K x)) = some (.type "type")) && (PySem.W.hasDictIn K (ga K x) && decide (PySem.W.subIn K (.ref (ga K x)) (.ref (ga K x)) = some true)))))))
/-! ### the objects that are looked at: what the module's names lead to -/
def nextO (o : Obj) : List Addr := match o.data with
  | .func fd => refV fd.code ++ (refV fd.defaults ++ fd.closure.map (·.2))
  | .cls cd => [cd.ns]
  | .dict es _ => es.toList.flatMap fun e => refV e.val
  | .seq its _ => its.toList.flatMap refV
  | .fields vs => (match o.cls with
    | .type c => (match decide (c = "code") with
      | true => []
      | false => vs.toList.flatMap refV)
    | _ => [])
  | _ => []
def nextL (g : Addr → Option Obj) (as : List Addr) : List Addr := as.flatMap fun a => match g a with
  | some o => nextO o
  | none => []
def asU (g : Addr → Option Obj) : Nat → List Addr → List Addr
  | 0, as => as
  | n + 1, as => as ++ asU g n (nextL g as)
def asY (g : Addr → Option Obj) : List Addr := cStatics :: asU g 5 [mainGlobals]
/-! ### the look -/
structure HD where
  fs : List (List ((PySem.W.Frag → Addr) × FnC))
  ts : List Tab
  ex : PySem.W.Frag → List (List Bool)
abbrev AlY : Type := List (List FnC) × List (Option (List (Option (Str × Int)))) × Bool
def look (d : HD) (K : PySem.W.Frag) : AlY := (d.fs.map fun l => l.map fun f => fnC K (f.1 K), d.ts.map fun t => dicW K (t.1 K), (d.ex K).all fun l => l.all id)
def good (d : HD) (w : World) : AlY := (d.fs.map fun l => l.map (·.2), d.ts.map fun t => some (keysIn w.params t.2), true)
def Says (d : HD) (w : World) (K : PySem.W.Frag) : Prop := look d K = good d w
def hook (d : HD) : PySem.W.Hook where
  α := AlY
  obs := fun s => look d (frT s.heap.get? (asY s.heap.get?))
  val := fun w => good d w
  says := fun w h => ∃ K : PySem.W.Frag, K.In h ∧ Says d w K
  of := fun _ _ e => ⟨_, frT_in, e⟩
  keeps := fun _ _ _ ⟨K, hK, c⟩ k => ⟨K, PySem.W.Frag.In.keeps hK k, c⟩
def ob (d : HD) (s : PySem.W.SharedT) : AlY := look d (frT (HandSHeadRun.getT s) (asY (HandSHeadRun.getT s)))
theorem ob_eq (d : HD) (s : PySem.W.SharedT) : ob d s = (hook d).obs s.abs := by
  unfold ob
  rw [show HandSHeadRun.getT s = s.abs.heap.get? from funext (HandSHeadRun.getT_eq s)]
  rfl
end Hz
set_option Elab.async false
set_option linter.all false
set_option maxRecDepth 100000
set_option maxHeartbeats 4000000
namespace G
open PySem L2
def top (i : Nat) : Stmt := PySem.Challenge.pw_leastrooms_k51_lined_papers_at_m.main.body.getD i (.Pass ⟨0, 0, 0, 0⟩)
abbrev s_is_integer : Stmt := top 26
abbrev s_is_word : Stmt := top 27
abbrev s_is_between : Stmt := top 28
abbrev s_check_number : Stmt := top 29
abbrev s_parts_many : Stmt := top 41
abbrev s_part_many : Stmt := top 42
abbrev s_check_row : Stmt := top 46
abbrev s_part_text : Stmt := top 49
abbrev s_parts_text : Stmt := top 50
abbrev s_inner_parts : Stmt := top 51
abbrev s_channels_in_parts : Stmt := top 52
abbrev s_channels_of : Stmt := top 53
abbrev s_ends_in : Stmt := top 58
abbrev s_are_programs : Stmt := top 59
abbrev s_ends_of_channels : Stmt := top 60
abbrev s_are_first : Stmt := top 61
abbrev s_are_stores : Stmt := top 62
abbrev s_check_net : Stmt := top 64
abbrev s_is_marked : Stmt := top 115
abbrev s_check_line_number : Stmt := top 125
abbrev s_line_text : Stmt := top 126
abbrev s_are_lines : Stmt := top 128
abbrev s_lined_many : Stmt := top 129
abbrev s_is_lined_form : Stmt := top 130
abbrev s_value_at : Stmt := top 131
abbrev s_items_at : Stmt := top 132
abbrev s_paper_at : Stmt := top 133
abbrev s_check_first_step : Stmt := top 143
abbrev s_is_lined : Stmt := top 144
abbrev s__law_pool : Stmt := top 146
abbrev s__law_take : Stmt := top 147
abbrev s__law_line : Stmt := top 148
abbrev s__law_items : Stmt := top 149
abbrev s__law_made_line : Stmt := top 150
abbrev s__law_at : Stmt := top 151
abbrev s__law_built : Stmt := top 152
abbrev s__law_told : Stmt := top 153
abbrev s__law_wrong : Stmt := top 154
abbrev s__law_deep : Stmt := top 155
abbrev s_law : Stmt := top 156
abbrev s_Row___init__ : Stmt := L2.inClass (top 45) 0
abbrev s_Net___init__ : Stmt := L2.inClass (top 63) 0
abbrev s_Rooms___init__ : Stmt := L2.inClass (top 81) 0
abbrev s_Moment___init__ : Stmt := L2.inClass (top 88) 0
abbrev s_Course___init__ : Stmt := L2.inClass (top 98) 0
abbrev s_Walk___init__ : Stmt := L2.inClass (top 101) 0
abbrev s_Line___init__ : Stmt := L2.inClass (top 127) 0
abbrev s_Line___call__ : Stmt := L2.inClass (top 127) 1
abbrev s_Line___eq__ : Stmt := L2.inClass (top 127) 5
end G
set_option Elab.async false
set_option linter.all false
set_option maxRecDepth 100000
set_option maxHeartbeats 4000000
namespace G
open PySem PySem.Spec PyProof.Rows L2 He Hz
def fs0 : List ((PySem.W.Frag → Addr) × FnC) := [(fun K => (ga K "is_integer"), fnV "is_integer" "is_integer" s_is_integer), (fun K => (ga K "is_word"), fnV "is_word" "is_word" s_is_word), (fun K => (ga K "is_between"), fnV "is_between" "is_between" s_is_between), (fun K => (ga K "check_number"), fnV "check_number" "check_number" s_check_number), (fun K => (ga K "parts_many"), fnV "parts_many" "parts_many" s_parts_many), (fun K => (ga K "part_many"), fnV "part_many" "part_many" s_part_many), (fun K => (ga K "check_row"), fnV "check_row" "check_row" s_check_row), (fun K => (ga K "part_text"), fnV "part_text" "part_text" s_part_text), (fun K => (ga K "parts_text"), fnV "parts_text" "parts_text" s_parts_text), (fun K => (ga K "inner_parts"), fnV "inner_parts" "inner_parts" s_inner_parts), (fun K => (ga K "channels_in_parts"), fnV "channels_in_parts" "channels_in_parts" s_channels_in_parts), (fun K => (ga K "channels_of"), fnV "channels_of" "channels_of" s_channels_of)]
def fs1 : List ((PySem.W.Frag → Addr) × FnC) := [(fun K => (ga K "ends_in"), fnV "ends_in" "ends_in" s_ends_in), (fun K => (ga K "are_programs"), fnV "are_programs" "are_programs" s_are_programs), (fun K => (ga K "ends_of_channels"), fnV "ends_of_channels" "ends_of_channels" s_ends_of_channels), (fun K => (ga K "are_first"), fnV "are_first" "are_first" s_are_first), (fun K => (ga K "are_stores"), fnV "are_stores" "are_stores" s_are_stores), (fun K => (ga K "check_net"), fnV "check_net" "check_net" s_check_net), (fun K => (ga K "is_marked"), fnV "is_marked" "is_marked" s_is_marked), (fun K => (ga K "check_line_number"), fnV "check_line_number" "check_line_number" s_check_line_number), (fun K => (ga K "line_text"), fnV "line_text" "line_text" s_line_text), (fun K => (ga K "are_lines"), fnV "are_lines" "are_lines" s_are_lines), (fun K => (ga K "lined_many"), fnV "lined_many" "lined_many" s_lined_many), (fun K => (ga K "is_lined_form"), fnV "is_lined_form" "is_lined_form" s_is_lined_form)]
def fs2 : List ((PySem.W.Frag → Addr) × FnC) := [(fun K => (ga K "value_at"), fnV "value_at" "value_at" s_value_at), (fun K => (ga K "items_at"), fnV "items_at" "items_at" s_items_at), (fun K => (ga K "paper_at"), fnV "paper_at" "paper_at" s_paper_at), (fun K => (ga K "check_first_step"), fnV "check_first_step" "check_first_step" s_check_first_step), (fun K => (ga K "is_lined"), fnV "is_lined" "is_lined" s_is_lined), (fun K => (ga K "_law_pool"), fnV "_law_pool" "_law_pool" s__law_pool), (fun K => (ga K "_law_take"), fnV "_law_take" "_law_take" s__law_take), (fun K => (ga K "_law_line"), fnV "_law_line" "_law_line" s__law_line), (fun K => (ga K "_law_items"), fnV "_law_items" "_law_items" s__law_items), (fun K => (ga K "_law_made_line"), fnV "_law_made_line" "_law_made_line" s__law_made_line), (fun K => (ga K "_law_at"), fnV "_law_at" "_law_at" s__law_at), (fun K => (ga K "_law_built"), fnV "_law_built" "_law_built" s__law_built)]
def fs3 : List ((PySem.W.Frag → Addr) × FnC) := [(fun K => (ga K "_law_told"), fnV "_law_told" "_law_told" s__law_told), (fun K => (ga K "_law_wrong"), fnV "_law_wrong" "_law_wrong" s__law_wrong), (fun K => (ga K "_law_deep"), fnV "_law_deep" "_law_deep" s__law_deep), (fun K => (ga K "law"), fnV "law" "law" s_law), (fun K => (ma K (ga K "RoomError") "__init__"), iniV "RoomError.__init__" (PySem.RoomX.iA ⟨7, 17, 7, 21⟩ ⟨7, 23, 7, 28⟩) (PySem.RoomX.iB ⟨8, 8, 8, 13⟩ ⟨8, 8, 8, 15⟩ ⟨8, 8, 8, 24⟩ ⟨8, 25, 8, 30⟩ ⟨8, 8, 8, 31⟩ ⟨8, 8, 8, 31⟩ ⟨9, 8, 9, 12⟩ ⟨9, 8, 9, 18⟩ ⟨9, 21, 9, 26⟩ ⟨9, 8, 9, 26⟩) PySem.RoomX.iS), (fun K => (ma K (ga K "Row") "__init__"), fnV "__init__" "Row.__init__" s_Row___init__), (fun K => (ma K (ga K "Net") "__init__"), fnV "__init__" "Net.__init__" s_Net___init__), (fun K => (ma K (ga K "Rooms") "__init__"), fnV "__init__" "Rooms.__init__" s_Rooms___init__), (fun K => (ma K (ga K "Moment") "__init__"), fnV "__init__" "Moment.__init__" s_Moment___init__), (fun K => (ma K (ga K "Course") "__init__"), fnV "__init__" "Course.__init__" s_Course___init__), (fun K => (ma K (ga K "Walk") "__init__"), fnV "__init__" "Walk.__init__" s_Walk___init__), (fun K => (ma K (ga K "Line") "__init__"), fnV "__init__" "Line.__init__" s_Line___init__)]
def fs4 : List ((PySem.W.Frag → Addr) × FnC) := [(fun K => (ma K (ga K "Line") "__call__"), fnV "__call__" "Line.__call__" s_Line___call__), (fun K => (ma K (ga K "Line") "__eq__"), fnV "__eq__" "Line.__eq__" s_Line___eq__)]
def ex0 (P : Program) (K : PySem.W.Frag) : List Bool := [defB K "is_integer" .no, defB K "is_word" .no, defB K "is_between" .no, defB K "check_number" .no, defB K "parts_many" .no, defB K "part_many" .no, defB K "check_row" .no, defB K "part_text" .no, defB K "parts_text" .no, defB K "inner_parts" .no, defB K "channels_in_parts" .no, defB K "channels_of" .no]
def ex1 (P : Program) (K : PySem.W.Frag) : List Bool := [defB K "ends_in" .no, defB K "are_programs" .no, defB K "ends_of_channels" .no, defB K "are_first" .no, defB K "are_stores" .no, defB K "check_net" .no, defB K "is_marked" .no, defB K "check_line_number" .no, defB K "line_text" .no, defB K "are_lines" .no, defB K "lined_many" .no, defB K "is_lined_form" .no]
def ex2 (P : Program) (K : PySem.W.Frag) : List Bool := [defB K "value_at" .no, defB K "items_at" .no, defB K "paper_at" .no, defB K "check_first_step" .no, defB K "is_lined" .no, defB K "_law_pool" .no, defB K "_law_take" .no, defB K "_law_line" .no, defB K "_law_items" .no, defB K "_law_made_line" .no, defB K "_law_at" .no, defB K "_law_built" .no]
def ex3 (P : Program) (K : PySem.W.Frag) : List Bool := [defB K "_law_told" .no, defB K "_law_wrong" .no, defB K "_law_deep" .no, defB K "law" .no, (Fa.free "all").ok K, (Fa.free "any").ok K, (Fa.free "bool").ok K, (Fa.free "dict").ok K, (Fa.free "enumerate").ok K, (Fa.free "int").ok K, (Fa.free "isinstance").ok K, (Fa.free "len").ok K]
def ex4 (P : Program) (K : PySem.W.Frag) : List Bool := [(Fa.free "list").ok K, (Fa.free "max").ok K, (Fa.free "min").ok K, (Fa.free "range").ok K, (Fa.free "set").ok K, (Fa.free "sorted").ok K, (Fa.free "str").ok K, (Fa.free "sum").ok K, (Fa.free "tuple").ok K, (Fa.int "MOST_WORD" (8)).ok K, (Fa.int "MOST_NUMBER" (1000000000000000000000000000000)).ok K, (Fa.int "MOST_PARTS" (60)).ok K]
def ex5 (P : Program) (K : PySem.W.Frag) : List Bool := [(Fa.int "MOST_PROCESSES" (8)).ok K, (Fa.int "MOST_CHANNELS" (12)).ok K, (Fa.int "MOST_LINE" (10000000000000000000000000000000000000000000000000000000000000000000000000000000000000000000000000000000000000000000000000000000000000000000000000000000000000000000000000000000000000000000000000000000000000000000000000000000000000000000000000000000000000000000000000000000000000000000000000000000000000000000000000000000000000000000000000000000000000000000000000000000000000000000000000000000000000000)).ok K, (Fa.int "MOST_STEP" (9)).ok K, (Fa.int "MOST_DEEP_lines" (40)).ok K, (Fa.int "MOST_ITEMS_lines" (2000)).ok K, (Fa.str "LETTERS" "abcdefghijklmnopqrstuvwxyz").ok K, iniB P K (ma K (ga K "RoomError") "__init__") (ga K "RoomError") "RoomError.__init__", errB K "BadRow" (ga K "RoomError") (ma K (ga K "RoomError") "__init__"), errI K (ga K "BadRow"), errB K "BadNumber" (ga K "RoomError") (ma K (ga K "RoomError") "__init__"), errI K (ga K "BadNumber")]
def ex6 (P : Program) (K : PySem.W.Frag) : List Bool := [errB K "BadNet" (ga K "RoomError") (ma K (ga K "RoomError") "__init__"), errI K (ga K "BadNet"), errB K "BadLine" (ga K "RoomError") (ma K (ga K "RoomError") "__init__"), errI K (ga K "BadLine"), errB K "BadPaper" (ga K "RoomError") (ma K (ga K "RoomError") "__init__"), errI K (ga K "BadPaper"), clsB K "Row", clsB K "Net", clsB K "Rooms", clsB K "Moment", clsB K "Course", clsB K "Walk"]
def ex7 (P : Program) (K : PySem.W.Frag) : List Bool := [clsB K "Line", fB K (ma K (ga K "Row") "__init__") "Row.__init__" .unit, fB K (ma K (ga K "Net") "__init__") "Net.__init__" .non2, fB K (ma K (ga K "Rooms") "__init__") "Rooms.__init__" .no, fB K (ma K (ga K "Moment") "__init__") "Moment.__init__" .no, fB K (ma K (ga K "Course") "__init__") "Course.__init__" .unit, fB K (ma K (ga K "Walk") "__init__") "Walk.__init__" .no, fB K (ma K (ga K "Line") "__init__") "Line.__init__" (.int (0)), fB K (ma K (ga K "Line") "__call__") "Line.__call__" .no, fB K (ma K (ga K "Line") "__eq__") "Line.__eq__" .no, (Fa.mkr "Row").ok K, (Fa.noat "Row" "parts").ok K]
def ex8 (P : Program) (K : PySem.W.Frag) : List Bool := [(Fa.noat "Row" "size").ok K, (Fa.noat "Row" "text").ok K, (Fa.mkr "Net").ok K, (Fa.noat "Net" "first_ones").ok K, (Fa.noat "Net" "homes").ok K, (Fa.noat "Net" "programs").ok K, (Fa.noat "Net" "senders").ok K, (Fa.noat "Net" "takers").ok K, (Fa.noat "Net" "tale").ok K, (Fa.mkr "Rooms").ok K, (Fa.mkr "Moment").ok K, (Fa.mkr "Course").ok K]
def ex9 (P : Program) (K : PySem.W.Frag) : List Bool := [(Fa.mkr "Walk").ok K, (Fa.mkr "Line").ok K, (Fa.noat "Line" "at_zero").ok K, (Fa.noat "Line" "slope").ok K, (Fa.noat "Line" "text").ok K, eqB K (ga K "Line") (ma K (ga K "Line") "__eq__"), callB K (ga K "Line") (ma K (ga K "Line") "__call__"), subF K (ga K "BadNumber") (ga K "BadPaper"), subF K (ga K "BadPaper") (ga K "BadNumber")]
def headD (P : Program) : HD := ⟨[fs0, fs1, fs2, fs3, fs4], [], fun K => [ex0 P K, ex1 P K, ex2 P K, ex3 P K, ex4 P K, ex5 P K, ex6 P K, ex7 P K, ex8 P K, ex9 P K]⟩
def nm0 : List PySem.Str := [("_wall" : PySem.Str), ("__name__" : PySem.Str), ("RoomError" : PySem.Str), ("BadCount" : PySem.Str), ("BadRow" : PySem.Str), ("BadNumber" : PySem.Str), ("BadNet" : PySem.Str), ("BadRooms" : PySem.Str), ("Small" : PySem.Str), ("BadGroup" : PySem.Str), ("BadCourse" : PySem.Str), ("NoEntry" : PySem.Str), ("NoProcess" : PySem.Str), ("NoChannel" : PySem.Str), ("NoStore" : PySem.Str), ("Refused" : PySem.Str)]
def nm1 : List PySem.Str := [("BadVector" : PySem.Str), ("BadLine" : PySem.Str), ("BadPaper" : PySem.Str), ("LETTERS" : PySem.Str), ("FIGURES" : PySem.Str), ("MOST_WORD" : PySem.Str), ("MOST_NUMBER" : PySem.Str), ("MOST_FIGURES" : PySem.Str), ("MOST_TIMES_counts" : PySem.Str), ("is_integer" : PySem.Str), ("is_word" : PySem.Str), ("is_between" : PySem.Str), ("check_number" : PySem.Str), ("is_count" : PySem.Str), ("check_count" : PySem.Str), ("rounds_at" : PySem.Str)]
def nm2 : List PySem.Str := [("format_count" : PySem.Str), ("number_in" : PySem.Str), ("count_in" : PySem.Str), ("MOST_PARTS" : PySem.Str), ("MOST_DEPTH" : PySem.Str), ("MOST_MESSAGES" : PySem.Str), ("MOST_WORK" : PySem.Str), ("parts_many" : PySem.Str), ("part_many" : PySem.Str), ("check_parts" : PySem.Str), ("as_count" : PySem.Str), ("Row" : PySem.Str), ("check_row" : PySem.Str), ("row_of" : PySem.Str), ("loop" : PySem.Str), ("part_text" : PySem.Str)]
def nm3 : List PySem.Str := [("parts_text" : PySem.Str), ("inner_parts" : PySem.Str), ("channels_in_parts" : PySem.Str), ("channels_of" : PySem.Str), ("MOST_PROCESSES" : PySem.Str), ("MOST_CHANNELS" : PySem.Str), ("MOST_FIRST" : PySem.Str), ("ends_in" : PySem.Str), ("are_programs" : PySem.Str), ("ends_of_channels" : PySem.Str), ("are_first" : PySem.Str), ("are_stores" : PySem.Str), ("Net" : PySem.Str), ("check_net" : PySem.Str), ("SIMPLE" : PySem.Str), ("rounds_of_part" : PySem.Str)]
def nm4 : List PySem.Str := [("first_in" : PySem.Str), ("next_in" : PySem.Str), ("first_place" : PySem.Str), ("next_place" : PySem.Str), ("part_at" : PySem.Str), ("bound_at" : PySem.Str), ("gone_on" : PySem.Str), ("MOST_ROOM" : PySem.Str), ("is_room" : PySem.Str), ("is_less" : PySem.Str), ("greater" : PySem.Str), ("lesser" : PySem.Str), ("Rooms" : PySem.Str), ("check_alike" : PySem.Str), ("check_rooms" : PySem.Str), ("wait_for" : PySem.Str)]
def nm5 : List PySem.Str := [("store_level" : PySem.Str), ("levels_behind" : PySem.Str), ("Moment" : PySem.Str), ("begin" : PySem.Str), ("MOST_ITEMS_courses" : PySem.Str), ("MOST_DEEP_courses" : PySem.Str), ("MOST_TIMES_courses" : PySem.Str), ("items_many" : PySem.Str), ("item_many" : PySem.Str), ("steps_in" : PySem.Str), ("all_steps" : PySem.Str), ("Course" : PySem.Str), ("course_of" : PySem.Str), ("check_course" : PySem.Str), ("Walk" : PySem.Str), ("walked" : PySem.Str)]
def nm6 : List PySem.Str := [("movers_of" : PySem.Str), ("words_in" : PySem.Str), ("check_movers" : PySem.Str), ("lost_ones" : PySem.Str), ("helpers_of" : PySem.Str), ("is_closed" : PySem.Str), ("is_group" : PySem.Str), ("is_knot" : PySem.Str), ("is_vector" : PySem.Str), ("rooms_of" : PySem.Str), ("is_marked" : PySem.Str), ("end_in" : PySem.Str), ("waits_for_messages" : PySem.Str), ("is_enough_paper" : PySem.Str), ("is_stuck_paper" : PySem.Str), ("MOST_LINE" : PySem.Str)]
def nm7 : List PySem.Str := [("MOST_STEP" : PySem.Str), ("MOST_DEEP_lines" : PySem.Str), ("MOST_ITEMS_lines" : PySem.Str), ("check_line_number" : PySem.Str), ("line_text" : PySem.Str), ("Line" : PySem.Str), ("are_lines" : PySem.Str), ("lined_many" : PySem.Str), ("is_lined_form" : PySem.Str), ("value_at" : PySem.Str), ("items_at" : PySem.Str), ("paper_at" : PySem.Str), ("first_change" : PySem.Str), ("go_alike" : PySem.Str), ("step_alike" : PySem.Str), ("changes_since" : PySem.Str)]
def nm8 : List PySem.Str := [("times_alike" : PySem.Str), ("all_alike" : PySem.Str), ("movers_in" : PySem.Str), ("rests_alike" : PySem.Str), ("last_m" : PySem.Str), ("check_first_step" : PySem.Str), ("is_lined" : PySem.Str), ("_law_pool" : PySem.Str), ("_law_take" : PySem.Str), ("_law_line" : PySem.Str), ("_law_items" : PySem.Str), ("_law_made_line" : PySem.Str), ("_law_at" : PySem.Str), ("_law_built" : PySem.Str), ("_law_told" : PySem.Str), ("_law_wrong" : PySem.Str)]
def nm9 : List PySem.Str := [("_law_deep" : PySem.Str)]
def names : List PySem.Str := nm0 ++ nm1 ++ nm2 ++ nm3 ++ nm4 ++ nm5 ++ nm6 ++ nm7 ++ nm8 ++ nm9
abbrev R : PySem.W.OpenRow := PySem.W.OpenLaw.row PySem.Challenge.rw_leastrooms_k51_lined_papers_at_m
open PySem.W PySem.Calls HandSHeadRun in
theorem run1 (w : World) : ∀ os : OsState, (endF (stepQ (denQ tabQ) R.prog w) 40000 R.prog w os).map (fun s => looksF R.prog (boot_heap w.params) s.abs) = some true := by
  intro os
  kernel_rfl
open PySem.W PySem.Calls HandSHeadRun in
theorem run2 (w : World) : ∀ os : OsState, (endF (stepQ (denQ tabQ) R.prog w) 40000 R.prog w os).map (fun s => HandSHeadRun.seenQ (PySem.W.view R.prog [156]) names (importedModules R.prog.main.body) (fun s => xlAt (PySem.W.view R.prog [156]) [] s && recOk R.toRowW.records s) s.abs) = some (openGood (PySem.W.view R.prog [156]) names) := by
  intro os
  kernel_rfl
open PySem.W PySem.Calls HandSHeadRun in
theorem run3 (w : World) : ∀ os : OsState, (endF (stepQ (denQ tabQ) R.prog w) 40000 R.prog w os).map (fun s => ob (headD PySem.Challenge.rw_leastrooms_k51_lined_papers_at_m.prog) s) = some ((hook (headD PySem.Challenge.rw_leastrooms_k51_lined_papers_at_m.prog)).val w) := by
  intro os
  kernel_rfl
theorem map3 {α β γ δ : Type _} {o : Option α} {f : α → β} {g : α → γ} {h : α → δ} {a : β} {b : γ} {c : δ} (e1 : o.map f = some a) (e2 : o.map g = some b) (e3 : o.map h = some c) : o.map (fun s => (f s, g s, h s)) = some (a, b, c) := by
  cases o with
  | none => cases e1
  | some s =>
    injection e1 with e1
    injection e2 with e2
    injection e3 with e3
    subst e1 e2 e3
    rfl
theorem run (w : World) : HandSHeadRun.RunEq R (PySem.W.view R.prog [156]) (hook (headD PySem.Challenge.rw_leastrooms_k51_lined_papers_at_m.prog)) (ob (headD PySem.Challenge.rw_leastrooms_k51_lined_papers_at_m.prog)) 40000 names w := fun os => map3 (run1 w os) (run2 w os) (run3 w os)
end G
set_option Elab.async false
set_option linter.all false
set_option maxRecDepth 100000
set_option maxHeartbeats 4000000
/-! Dv: readings over plain data. What a def does to data that nobody changes is told without the heap. -/
namespace Dv
open PySem L2
/-! ### data -/
inductive D where
  | non | bl (b : Bool) | int (i : Int) | str (x : Str) | lst (xs : List D) | tup (xs : List D) | obj (C : Addr) (fs : List (Str × D)) | dic (kvs : List (Key × D)) | scr (xs : List D) | exn (C : Addr) (fs : List (Str × D))
/-- numbers of a pool -/
def PoolL (l : List V) : Prop := ∃ a b : Int, l = [.int a, .int b] ∧ 0 ≤ b ∧ b < 4294967296
/-- no table, nothing that is known by its words alone -/
def sol : HO → Bool
  | .tbl _ => false
  | .ext _ => false
  | _ => true
theorem sol_tbl {o : HO} (h : sol o = true) : ∀ ps, o ≠ .tbl ps := fun ps e => by
  rw [e] at h
  cases h
/-- what is no data (F), what the statements here may change (W), what calls may change (G), what holds all the time (I), the pools, what is owned -/
structure Cfg where
  K : PySem.W.Frag
  F : Addr → Prop
  W : Addr → Prop
  G : Addr → Prop
  I : Hp → Prop
  pl : Addr → Prop
  ow : Nat → Option Addr
  mono : ∀ {H H' : Hp}, (∀ a o, H a = some o → H' a = some o) → I H → I H'
  live : ∀ {H : Hp} {a : Addr}, I H → F a → H a ≠ none
  WF : ∀ {a : Addr}, W a → F a
  GW : ∀ {a : Addr}, G a → W a
  plG : ∀ {p : Addr}, pl p → G p
  owW : ∀ {k : Nat} {a : Addr}, ow k = some a → W a ∧ ¬ G a
  inj : ∀ {k j : Nat} {a : Addr}, ow k = some a → ow j = some a → k = j
  plAt : ∀ {H : Hp} {p : Addr}, I H → pl p → ∃ l, H p = some (.lst l) ∧ PoolL l
  plPut : ∀ {H : Hp} {p : Addr} {l : List V}, I H → pl p → PoolL l → I (upd H p (.lst l))
  owPut : ∀ {H : Hp} {k : Nat} {a : Addr} {o : HO}, I H → ow k = some a → sol o = true → (∀ ob u, H a ≠ some (.frz ob u)) → I (upd H a o)
  tb : List (Addr × Str)
  tabs : ∀ {H : Hp}, I H → LamX.Tabs tb H
  ext : ∀ {H H1 : Hp}, I H → LamX.ExtN H H1 → LamX.Tabs tb H1 → I H1
/-- the view of one who owns nothing any more -/
def Cfg.rel (c : Cfg) : Cfg where
  K := c.K
  F := fun b => c.F b ∧ (c.W b → c.G b)
  W := c.G
  G := c.G
  I := c.I
  pl := c.pl
  ow := fun _ => none
  mono := c.mono
  live := fun h z => c.live h z.1
  WF := fun z => ⟨c.WF (c.GW z), fun _ => z⟩
  GW := fun z => z
  plG := c.plG
  owW := fun e => nomatch e
  inj := fun e => nomatch e
  plAt := c.plAt
  plPut := c.plPut
  owPut := fun _ e _ _ => nomatch e
  tb := c.tb
  tabs := c.tabs
  ext := c.ext
/-- a list, a tuple of the written part -/
def KL (K : PySem.W.Frag) (a : Addr) (xs : List V) : Prop := ∃ (o : Obj) (its : Array Value) (n : Nat), K.lookup a = some o ∧ o.cls = .type "list" ∧ o.dict = none ∧ o.data = .seq its n ∧ its.size ≤ sizeLine ∧ Vals xs its.toList
def KT (K : PySem.W.Frag) (a : Addr) (xs : List V) : Prop := ∃ (o : Obj) (its : Array Value) (n : Nat), K.lookup a = some o ∧ o.cls = .type "tuple" ∧ o.data = .seq its n ∧ its.size ≤ sizeLine ∧ Vals xs its.toList
def InL (c : Cfg) (H : Hp) (a : Addr) (xs : List V) : Prop := (¬ c.F a ∧ Rd H a (.lst xs)) ∨ KL c.K a xs
def InT (c : Cfg) (H : Hp) (a : Addr) (xs : List V) : Prop := (¬ c.F a ∧ Rd H a (.tup xs)) ∨ KT c.K a xs
theorem InL.sq {c : Cfg} {H : Hp} {a : Addr} {xs : List V} (h : InL c H a xs) : SqL c.K H a xs := h.elim (fun z => .inl z.2) .inr
theorem InT.sq {c : Cfg} {H : Hp} {a : Addr} {xs : List V} (h : InT c H a xs) : SqT c.K H a xs := h.elim (fun z => .inl z.2) .inr
/-- an exception's object, of the class at C, its dict at d -/
def ExcIs (oe : Obj) (C : Addr) (d : Option Addr) : Prop := oe.cls = .ref C ∧ oe.dict = d ∧ ∃ fv, oe.data = .fields fv
def XdAt (c : Cfg) (H : Hp) : Option Addr → List (Str × V) → Prop
  | none, vs => vs = []
  | some dx, vs => ¬ c.F dx ∧ H dx = some (.xd vs)
mutual
inductive Rp (c : Cfg) (H : Hp) : V → D → Prop
  | non : Rp c H .non .non
  | bl (b : Bool) : Rp c H (.bl b) (.bl b)
  | int (i : Int) : Rp c H (.int i) (.int i)
  | str (x : Str) : Rp c H (.str x) (.str x)
  | lst {a : Addr} {xs : List V} {ds : List D} : ¬ c.F a → H a = some (.lst xs) → RpAll c H xs ds → Rp c H (.ref a) (.lst ds)
  | scr {a : Addr} {xs : List V} {ds : List D} : InL c H a xs → RpAll c H xs ds → Rp c H (.ref a) (.scr ds)
  | tup {a : Addr} {xs : List V} {ds : List D} : InT c H a xs → RpAll c H xs ds → Rp c H (.ref a) (.tup ds)
  | obj {a C dx : Addr} {fs : List (Str × V)} {ds : List (Str × D)} : ¬ c.F a → H a = some (.ins C dx fs) → RpFs c H fs ds → Rp c H (.ref a) (.obj C ds)
  | dic {a : Addr} {kvs : List (Key × V)} {ds : List (Key × D)} {ob : Obj} : ¬ c.F a → H a = some (.frz ob (.dK kvs)) → RpKv c H kvs ds → Rp c H (.ref a) (.dic ds)
  | exn {a C : Addr} {oe : Obj} {d : Option Addr} {vs : List (Str × V)} {ds : List (Str × D)} : ¬ c.F a → H a = some (.frz oe (.own a)) → ExcIs oe C d → XdAt c H d vs → RpFs c H vs ds → Rp c H (.ref a) (.exn C ds)
inductive RpAll (c : Cfg) (H : Hp) : List V → List D → Prop
  | nil : RpAll c H [] []
  | cons {v : V} {d : D} {vs : List V} {ds : List D} : Rp c H v d → RpAll c H vs ds → RpAll c H (v :: vs) (d :: ds)
inductive RpFs (c : Cfg) (H : Hp) : List (Str × V) → List (Str × D) → Prop
  | nil : RpFs c H [] []
  | cons {n : Str} {v : V} {d : D} {vs : List (Str × V)} {ds : List (Str × D)} : Rp c H v d → RpFs c H vs ds → RpFs c H ((n, v) :: vs) ((n, d) :: ds)
inductive RpKv (c : Cfg) (H : Hp) : List (Key × V) → List (Key × D) → Prop
  | nil : RpKv c H [] []
  | cons {n : Key} {v : V} {d : D} {vs : List (Key × V)} {ds : List (Key × D)} : Rp c H v d → RpKv c H vs ds → RpKv c H ((n, v) :: vs) ((n, d) :: ds)
end
/-- what stands outside of F stands -/
def Kp (F : Addr → Prop) (H H' : Hp) : Prop := ∀ a o, ¬ F a → sol o = true → H a = some o → H' a = some o
structure Go (c : Cfg) (H H' : Hp) : Prop where
  keep : Kp c.G H H'
  inv : c.I H'
theorem Cfg.GF (c : Cfg) {a : Addr} (h : c.G a) : c.F a := c.WF (c.GW h)
theorem Cfg.plF (c : Cfg) {a : Addr} (h : c.pl a) : c.F a := c.GF (c.plG h)
theorem Kp.self {F : Addr → Prop} {H : Hp} : Kp F H H := fun _ _ _ _ e => e
theorem Kp.trans {F : Addr → Prop} {H H1 H2 : Hp} (a : Kp F H H1) (b : Kp F H1 H2) : Kp F H H2 := fun x o n t e => b x o n t (a x o n t e)
theorem Kp.le {F G : Addr → Prop} {H H1 : Hp} (h : ∀ a, F a → G a) (a : Kp F H H1) : Kp G H H1 := fun x o n t e => a x o (fun z => n (h x z)) t e
theorem Go.kF {c : Cfg} {H H' : Hp} (g : Go c H H') : Kp c.F H H' := g.keep.le fun _ z => c.GF z
theorem Go.kW {c : Cfg} {H H' : Hp} (g : Go c H H') : Kp c.W H H' := g.keep.le fun _ z => c.GW z
theorem Go.self {c : Cfg} {H : Hp} (h : c.I H) : Go c H H := ⟨Kp.self, h⟩
theorem Go.trans {c : Cfg} {H H1 H2 : Hp} (a : Go c H H1) (b : Go c H1 H2) : Go c H H2 := ⟨a.keep.trans b.keep, b.inv⟩
theorem Kp.new {F : Addr → Prop} {H : Hp} {p : Addr} {o : HO} (h : H p = none) : Kp F H (upd H p o) := fun a u _ _ e => by
  rw [upd_ne (ne_of_none e h)]
  exact e
theorem Go.new {c : Cfg} {H : Hp} {p : Addr} {o : HO} (hi : c.I H) (h : H p = none) : Go c H (upd H p o) := ⟨Kp.new h, c.mono (fun a u e => by
  rw [upd_ne (ne_of_none e h)]
  exact e) hi⟩
theorem Cfg.fresh (c : Cfg) {H : Hp} {p : Addr} (hi : c.I H) (h : H p = none) : ¬ c.F p := fun z => c.live hi z h
theorem rd_kp {F : Addr → Prop} {H H' : Hp} {a : Addr} {u : HO} (k : Kp F H H') (n : ¬ F a) (h : Rd H a u) (t : sol u = true := by rfl) : Rd H' a u := by
  rcases h with h | ⟨o, h⟩
  · exact .inl (k a _ n t h)
  · exact .inr ⟨o, k a _ n rfl h⟩
theorem InL.to {c c' : Cfg} {H H' : Hp} {a : Addr} {xs : List V} (eK : c'.K = c.K) (lF : ∀ a, c'.F a → c.F a) (k : Kp c.F H H') (h : InL c H a xs) : InL c' H' a xs := by
  rcases h with ⟨n, h⟩ | h
  · exact .inl ⟨fun z => n (lF _ z), rd_kp k n h⟩
  · exact .inr (by rw [eK]; exact h)
theorem InT.to {c c' : Cfg} {H H' : Hp} {a : Addr} {xs : List V} (eK : c'.K = c.K) (lF : ∀ a, c'.F a → c.F a) (k : Kp c.F H H') (h : InT c H a xs) : InT c' H' a xs := by
  rcases h with ⟨n, h⟩ | h
  · exact .inl ⟨fun z => n (lF _ z), rd_kp k n h⟩
  · exact .inr (by rw [eK]; exact h)
theorem XdAt.to {c c' : Cfg} {H H' : Hp} {d : Option Addr} {vs : List (Str × V)} (lF : ∀ a, c'.F a → c.F a) (k : Kp c.F H H') (h : XdAt c H d vs) : XdAt c' H' d vs := by
  cases d with
  | none => exact h
  | some dx => exact ⟨fun z => h.1 (lF _ z), k _ _ h.1 rfl h.2⟩
theorem XdAt.in_ {c c' : Cfg} {H H' : Hp} {d : Option Addr} {vs : List (Str × V)} (k : ∀ dx u, ¬ c.F dx → H dx = some u → ¬ c'.F dx ∧ H' dx = some u) (h : XdAt c H d vs) : XdAt c' H' d vs := by
  cases d with
  | none => exact h
  | some dx => exact k _ _ h.1 h.2
/-- the data stay, in a greater heap, seen with less that may change -/
theorem Rp.to {c c' : Cfg} {H H' : Hp} {v : V} {d : D} (eK : c'.K = c.K) (lF : ∀ a, c'.F a → c.F a) (k : Kp c.F H H') (h : Rp c H v d) : Rp c' H' v d := by
  refine Rp.rec (motive_1 := fun v d _ => Rp c' H' v d) (motive_2 := fun vs ds _ => RpAll c' H' vs ds) (motive_3 := fun vs ds _ => RpFs c' H' vs ds) (motive_4 := fun vs ds _ => RpKv c' H' vs ds)
    .non .bl .int .str ?_ ?_ ?_ ?_ ?_ ?_ .nil ?_ .nil ?_ .nil ?_ h
  · intro a xs ds n s _ r
    exact .lst (fun z => n (lF _ z)) (k _ _ n rfl s) r
  · intro a xs ds s _ r
    exact .scr (s.to eK lF k) r
  · intro a xs ds s _ r
    exact .tup (s.to eK lF k) r
  · intro a C dx fs ds n s _ r
    exact .obj (fun z => n (lF _ z)) (k _ _ n rfl s) r
  · intro a kvs ds ob n s _ r
    exact .dic (fun z => n (lF _ z)) (k _ _ n rfl s) r
  · intro a C oe d vs ds n s e x _ r
    exact .exn (fun z => n (lF _ z)) (k _ _ n rfl s) e (x.to lF k) r
  · intro v d vs ds _ _ a b
    exact .cons a b
  · intro n v d vs ds _ _ a b
    exact .cons a b
  · intro n v d vs ds _ _ a b
    exact .cons a b
theorem RpAll.to {c c' : Cfg} {H H' : Hp} (eK : c'.K = c.K) (lF : ∀ a, c'.F a → c.F a) (k : Kp c.F H H') : ∀ {vs : List V} {ds : List D}, RpAll c H vs ds → RpAll c' H' vs ds
  | _, _, .nil => .nil
  | _, _, .cons a b => .cons (a.to eK lF k) (b.to eK lF k)
theorem RpFs.to {c c' : Cfg} {H H' : Hp} (eK : c'.K = c.K) (lF : ∀ a, c'.F a → c.F a) (k : Kp c.F H H') : ∀ {vs : List (Str × V)} {ds : List (Str × D)}, RpFs c H vs ds → RpFs c' H' vs ds
  | _, _, .nil => .nil
  | _, _, .cons a b => .cons (a.to eK lF k) (b.to eK lF k)
theorem Rp.go {c : Cfg} {H H' : Hp} {v : V} {d : D} (h : Rp c H v d) (k : Kp c.F H H') : Rp c H' v d := h.to (Eq.refl _) (fun _ z => z) k
theorem RpAll.go {c : Cfg} {H H' : Hp} {vs : List V} {ds : List D} (h : RpAll c H vs ds) (k : Kp c.F H H') : RpAll c H' vs ds := h.to (Eq.refl _) (fun _ z => z) k
theorem RpAll.length {c : Cfg} {H : Hp} : ∀ {vs : List V} {ds : List D}, RpAll c H vs ds → vs.length = ds.length
  | _, _, .nil => rfl
  | _, _, .cons _ b => congrArg (· + 1) b.length
theorem RpAll.get {c : Cfg} {H : Hp} : ∀ {vs : List V} {ds : List D} {i : Nat} {d : D}, RpAll c H vs ds → ds[i]? = some d → ∃ v, vs[i]? = some v ∧ Rp c H v d
  | _, _, _, _, .nil, e => by simp at e
  | _, _, 0, _, .cons a _, e => by
    simp at e
    subst e
    exact ⟨_, rfl, a⟩
  | _, _, i + 1, d, .cons _ b, e => by
    obtain ⟨v, h1, h2⟩ := RpAll.get (i := i) (d := d) b (by simpa using e)
    exact ⟨v, by simpa using h1, h2⟩
theorem RpAll.append {c : Cfg} {H : Hp} : ∀ {vs ws : List V} {ds es : List D}, RpAll c H vs ds → RpAll c H ws es → RpAll c H (vs ++ ws) (ds ++ es)
  | _, _, _, _, .nil, s => s
  | _, _, _, _, .cons a b, s => .cons a (RpAll.append b s)
/-- what an error carries: its fields, None if it has no dict -/
abbrev XP := Option (List (Str × D))
def XOk (c : Cfg) (H : Hp) : Option Addr → XP → Prop
  | some dd, some fs => ∃ vs, ¬ c.F dd ∧ H dd = some (.xd vs) ∧ RpFs c H vs fs
  | none, none => True
  | _, _ => False
theorem XOk.to {c c' : Cfg} {H H' : Hp} {d : Option Addr} {p : XP} (eK : c'.K = c.K) (lF : ∀ a, c'.F a → c.F a) (k : Kp c.F H H') (h : XOk c H d p) : XOk c' H' d p := by
  cases d <;> cases p <;> first | exact h | skip
  obtain ⟨vs, n, e, r⟩ := h
  exact ⟨vs, fun z => n (lF _ z), k _ _ n rfl e, r.to eK lF k⟩
/-! ### slots -/
inductive Sl where
  | any | v (x : V) | d (x : D) | pool | ex (a : Addr) (cls : Value) (dd : Option Addr) (p : XP) | own (k : Nat) (x : D) | tab (T : List (Addr × Str)) | bor (ds : List (Key × D))
/-- what an owned thing holds now -/
def OwRp (c : Cfg) (H : Hp) (a : Addr) : D → Prop
  | .lst ds => ∃ xs, H a = some (.lst xs) ∧ RpAll c H xs ds
  | .obj C fs => ∃ dx vs, H a = some (.ins C dx vs) ∧ RpFs c H vs fs
  | .dic kvs => ∃ vs, H a = some (.dK vs) ∧ RpKv c H vs kvs
  | _ => False
theorem RpKv.to {c c' : Cfg} {H H' : Hp} (eK : c'.K = c.K) (lF : ∀ a, c'.F a → c.F a) (k : Kp c.F H H') : ∀ {vs : List (Key × V)} {ds : List (Key × D)}, RpKv c H vs ds → RpKv c' H' vs ds
  | _, _, .nil => .nil
  | _, _, .cons a b => .cons (a.to eK lF k) (b.to eK lF k)
theorem OwRp.to {c c' : Cfg} {H H' : Hp} {a : Addr} {d : D} (eK : c'.K = c.K) (lF : ∀ a, c'.F a → c.F a) (k : Kp c.F H H') (ka : ∀ o, sol o = true → H a = some o → H' a = some o) (h : OwRp c H a d) : OwRp c' H' a d := by
  cases d <;> try exact h
  · obtain ⟨xs, e, r⟩ := h
    exact ⟨xs, ka _ rfl e, r.to eK lF k⟩
  · obtain ⟨dx, vs, e, r⟩ := h
    exact ⟨dx, vs, ka _ rfl e, r.to eK lF k⟩
  · obtain ⟨vs, e, r⟩ := h
    exact ⟨vs, ka _ rfl e, r.to eK lF k⟩
/-- what may be given away as it stands -/
def isDic : D → Bool
  | .dic _ => true
  | _ => false
theorem OwRp.rp {c : Cfg} {H : Hp} {a : Addr} {d : D} (n : ¬ c.F a) (h : OwRp c H a d) (nd : isDic d = false := by rfl) : Rp c H (.ref a) d := by
  cases d <;> try exact h.elim
  · obtain ⟨xs, e, r⟩ := h
    exact .lst n e r
  · obtain ⟨dx, vs, e, r⟩ := h
    exact .obj n e r
  · cases nd
def SlOk (c : Cfg) (H : Hp) (o : Option V) : Sl → Prop
  | .any => True
  | .v x => o = some x
  | .d x => ∃ v, o = some v ∧ Rp c H v x
  | .pool => ∃ p, o = some (.ref p) ∧ c.pl p
  | .ex a _ dd p => o = some (.ref a) ∧ XOk c H dd p
  | .own k x => ∃ a, o = some (.ref a) ∧ c.ow k = some a ∧ OwRp c H a x
  | .tab T => c.tb = T
  | .bor ds => ∃ a ob kvs, o = some (.ref a) ∧ ¬ c.G a ∧ H a = some (.frz ob (.dK kvs)) ∧ RpKv c H kvs ds
/-- what is locked, and not for calls to change, stays -/
def Kz (c : Cfg) (H H' : Hp) : Prop := ∀ a ob u, ¬ c.G a → H a = some (.frz ob u) → H' a = some (.frz ob u)
theorem Kz.of {c : Cfg} {H H' : Hp} (k : Kp c.G H H') : Kz c H H' := fun a ob u n e => k a _ n rfl e
theorem Kz.self {c : Cfg} {H : Hp} : Kz c H H := fun _ _ _ _ e => e
/-- no lock there -/
def Unf (H : Hp) (a : Addr) : Prop := ∀ ob u, H a ≠ some (.frz ob u)
theorem Unf.none {H : Hp} {a : Addr} (h : H a = none) : Unf H a := fun _ _ e => by
  rw [h] at e
  cases e
theorem Unf.lst {H : Hp} {a : Addr} {xs : List V} (h : H a = some (.lst xs)) : Unf H a := fun _ _ e => by
  rw [h] at e
  cases e
theorem Unf.dK {H : Hp} {a : Addr} {xs : List (Key × V)} (h : H a = some (.dK xs)) : Unf H a := fun _ _ e => by
  rw [h] at e
  cases e
theorem Unf.ins {H : Hp} {a C dx : Addr} {xs : List (Str × V)} (h : H a = some (.ins C dx xs)) : Unf H a := fun _ _ e => by
  rw [h] at e
  cases e
theorem Kz.upd {c : Cfg} {H : Hp} {a : Addr} {o : HO} (n : Unf H a) : Kz c H (upd H a o) := fun b ob u _ e => by
  rw [upd_ne (fun y => n ob u (by rw [← y]; exact e))]
  exact e
abbrev Gm := List Sl
structure StOk (c : Cfg) (σ : St) (H : Hp) (Γ : Gm) : Prop where
  inv : c.I H
  len : σ.length = Γ.length
  at_ : ∀ (i : Nat) (o : Option V) (s : Sl), σ[i]? = some o → Γ[i]? = some s → SlOk c H o s
theorem SlOk.to {c c' : Cfg} {H H' : Hp} {o : Option V} {s : Sl} (eK : c'.K = c.K) (lF : ∀ a, c'.F a → c.F a) (lp : ∀ a, c.pl a → c'.pl a) (k : Kp c.F H H') (lo : ∀ n x a, s = .own n x → c.ow n = some a → c'.ow n = some a ∧ ∀ o, sol o = true → H a = some o → H' a = some o) (lt : c'.tb = c.tb) (lb : (∀ a, c'.G a → c.G a) ∧ Kz c H H') (h : SlOk c H o s) : SlOk c' H' o s := by
  cases s with
  | bor ds =>
    obtain ⟨a, ob, kvs, e, n, q, r⟩ := h
    exact ⟨a, ob, kvs, e, fun z => n (lb.1 _ z), lb.2 a ob _ n q, RpKv.to eK lF k r⟩
  | any => trivial
  | v x => exact h
  | d x =>
    obtain ⟨v, e, r⟩ := h
    exact ⟨v, e, r.to eK lF k⟩
  | pool =>
    obtain ⟨p, e, r⟩ := h
    exact ⟨p, e, lp _ r⟩
  | ex a cls dd p => exact ⟨h.1, h.2.to eK lF k⟩
  | own n x =>
    obtain ⟨a, e, w, r⟩ := h
    obtain ⟨w', ka⟩ := lo n x a rfl w
    exact ⟨a, e, w', r.to eK lF k ka⟩
  | tab T => exact lt.trans h
theorem Cfg.owKeep (c : Cfg) {H H' : Hp} {n : Nat} {a : Addr} (k : Kp c.G H H') (w : c.ow n = some a) : ∀ o, sol o = true → H a = some o → H' a = some o := fun o t e => k a o (c.owW w).2 t e
theorem SlOk.go {c : Cfg} {H H' : Hp} {o : Option V} {s : Sl} (h : SlOk c H o s) (k : Kp c.G H H') : SlOk c H' o s := h.to rfl (fun _ z => z) (fun _ z => z) (k.le fun _ z => c.GF z) (fun n x a _ w => ⟨w, c.owKeep k w⟩) rfl ⟨fun _ z => z, Kz.of k⟩
theorem StOk.go {c : Cfg} {σ : St} {H H' : Hp} {Γ : Gm} (h : StOk c σ H Γ) (g : Go c H H') : StOk c σ H' Γ := ⟨g.inv, h.len, fun i o s a b => (h.at_ i o s a b).go g.keep⟩
theorem StOk.set {c : Cfg} {σ : St} {H : Hp} {Γ : Gm} {i : Nat} {o : Option V} {s : Sl} (h : StOk c σ H Γ) (q : SlOk c H o s) : StOk c (σ.set i o) H (Γ.set i s) := by
  refine ⟨h.inv, by rw [List.length_set, List.length_set]; exact h.len, fun j o' s' a b => ?_⟩
  rw [List.getElem?_set] at a b
  by_cases e : i = j
  · subst e
    by_cases l : i < σ.length
    · have l' : i < Γ.length := by rw [← h.len]; exact l
      simp only [l, l', if_true] at a b
      cases a
      cases b
      exact q
    · simp [l] at a
  · simp only [e, if_false] at a b
    exact h.at_ j o' s' a b
/-- a wider view -/
structure Le (c c' : Cfg) : Prop where
  K : c'.K = c.K
  F : ∀ a, c.F a → c'.F a
  I : ∀ H, c'.I H → c.I H
  pl : ∀ a, c'.pl a → c.pl a
  ow : ∀ k a, c'.ow k = some a → c.ow k = some a
  R : ∀ a, c.rel.F a → c'.rel.F a
  tb : c'.tb = c.tb
  G : ∀ a, c.G a → c'.G a
theorem SlOk.le {c c' : Cfg} {H : Hp} {o : Option V} {s : Sl} (l : Le c c') (h : SlOk c' H o s) : SlOk c H o s := h.to l.K.symm l.F l.pl Kp.self (fun k x a _ w => ⟨l.ow k a w, fun _ _ e => e⟩) l.tb.symm ⟨l.G, Kz.self⟩
theorem StOk.le {c c' : Cfg} {σ : St} {H : Hp} {Γ : Gm} (l : Le c c') (h : StOk c' σ H Γ) : StOk c σ H Γ := ⟨l.I _ h.inv, h.len, fun i o s a b => (h.at_ i o s a b).le l⟩
theorem Rp.le {c c' : Cfg} {H : Hp} {v : V} {d : D} (l : Le c c') (h : Rp c' H v d) : Rp c H v d := h.to l.K.symm l.F Kp.self
/-- something more holds all the time -/
def Cfg.wth (c : Cfg) (φ : Hp → Prop) (hφ : ∀ {H H' : Hp}, Kp c.W H H' → Kz c H H' → φ H → φ H') : Cfg where
  K := c.K
  F := c.F
  W := c.W
  G := c.G
  I := fun H => c.I H ∧ φ H
  pl := c.pl
  ow := c.ow
  mono := fun k h => ⟨c.mono k h.1, hφ (fun a o _ _ e => k a o e) (fun a ob u _ e => k a _ e) h.2⟩
  live := fun h z => c.live h.1 z
  WF := c.WF
  GW := c.GW
  plG := c.plG
  owW := c.owW
  inj := c.inj
  plAt := fun h z => c.plAt h.1 z
  plPut := fun {H p l} h z q => ⟨c.plPut h.1 z q, hφ (fun a o n _ e => by
    rw [upd_ne (fun y => n (by rw [y]; exact c.GW (c.plG z)))]
    exact e) (fun a ob u n e => by
    rw [upd_ne (fun y => n (by rw [y]; exact c.plG z))]
    exact e) h.2⟩
  owPut := fun {H k a o} h w t nf => ⟨c.owPut h.1 w t nf, hφ (fun b u n _ e => by
    rw [upd_ne (fun y => n (by rw [y]; exact (c.owW w).1))]
    exact e) (fun b ob u _ e => by
    rw [upd_ne (fun y => nf ob u (by rw [← y]; exact e))]
    exact e) h.2⟩
  tb := c.tb
  tabs := fun h => c.tabs h.1
  ext := fun h e t => ⟨c.ext h.1 e t, hφ (fun a o _ s z => e a o z (sol_tbl s)) (fun a ob u _ z => e a _ z (sol_tbl rfl)) h.2⟩
theorem Le.wth {c : Cfg} {φ : Hp → Prop} {hφ : ∀ {H H' : Hp}, Kp c.W H H' → Kz c H H' → φ H → φ H'} : Le c (c.wth φ hφ) := ⟨rfl, fun _ z => z, fun _ h => h.1, fun _ z => z, fun _ _ z => z, fun _ z => z, rfl, fun _ z => z⟩
theorem StOk.wth {c : Cfg} {φ : Hp → Prop} {hφ : ∀ {H H' : Hp}, Kp c.W H H' → Kz c H H' → φ H → φ H'} {σ : St} {H : Hp} {Γ : Gm} (h : StOk c σ H Γ) (q : φ H) : StOk (c.wth φ hφ) σ H Γ :=
  ⟨⟨h.inv, q⟩, h.len, fun i o s a b => SlOk.to (c := c) (c' := c.wth φ hφ) rfl (fun _ z => z) (fun _ z => z) Kp.self (fun _ _ _ _ w => ⟨w, fun _ _ e => e⟩) rfl ⟨fun _ z => z, Kz.self⟩ (h.at_ i o s a b)⟩
/-- a def's own view: it changes what calls may change, and owns nothing yet -/
def Cfg.sub (c : Cfg) : Cfg where
  K := c.K
  F := c.F
  W := c.G
  G := c.G
  I := c.I
  pl := c.pl
  ow := fun _ => none
  mono := c.mono
  live := c.live
  WF := fun z => c.GF z
  GW := fun z => z
  plG := c.plG
  owW := fun e => nomatch e
  inj := fun e => nomatch e
  plAt := c.plAt
  plPut := c.plPut
  owPut := fun _ e _ _ => nomatch e
  tb := c.tb
  tabs := c.tabs
  ext := c.ext
/-- the heap without a -/
def rem (H : Hp) (a : Addr) : Hp := fun b => if b = a then none else H b
theorem rem_ne {H : Hp} {a b : Addr} (h : b ≠ a) : rem H a b = H b := if_neg h
theorem rem_same {H : Hp} {a : Addr} : rem H a a = none := if_pos rfl
theorem rem_sub {H : Hp} {a b : Addr} {o : HO} (h : rem H a b = some o) : b ≠ a ∧ H b = some o := by
  by_cases e : b = a
  · rw [e, rem_same] at h
    cases h
  · rw [rem_ne e] at h
    exact ⟨e, h⟩
theorem rem_upd {H : Hp} {a : Addr} {o : HO} : rem (upd H a o) a = rem H a := by
  funext b
  by_cases e : b = a
  · rw [e, rem_same, rem_same]
  · rw [rem_ne e, rem_ne e, upd_ne e]
theorem rem_new {H : Hp} {a : Addr} (n : H a = none) : rem H a = H := by
  funext b
  by_cases e : b = a
  · rw [e, rem_same, n]
  · rw [rem_ne e]
theorem rem_upd_ne {H : Hp} {a p : Addr} {o : HO} (h : p ≠ a) : rem (upd H p o) a = upd (rem H a) p o := by
  funext b
  by_cases e : b = a
  · rw [e, rem_same, upd_ne (Ne.symm h), rem_same]
  · by_cases e2 : b = p
    · rw [rem_ne e, e2, upd_same, upd_same]
    · rw [rem_ne e, upd_ne e2, upd_ne e2, rem_ne e]

theorem rem_in {H H' : Hp} {a : Addr} (n : H a = none) (kp : ∀ b o, H b = some o → H' b = some o) : ∀ b o, H b = some o → rem H' a b = some o := fun b o e => by
  rw [rem_ne (ne_of_none e n)]
  exact kp b o e
/-! ### a thing at work that is no data -/
def Cfg.hide (c : Cfg) (a : Addr) (ha : ¬ c.F a) : Cfg where
  K := c.K
  F := fun b => c.F b ∨ b = a
  W := c.W
  G := c.G
  I := fun H => c.I (rem H a) ∧ ∃ o, H a = some o ∧ sol o = true
  pl := c.pl
  ow := c.ow
  mono := fun {H H'} q h => ⟨c.mono (fun b u e => by
    obtain ⟨n, e⟩ := rem_sub e
    rw [rem_ne n]
    exact q b u e) h.1, by
    obtain ⟨o, z, t⟩ := h.2
    exact ⟨o, q a o z, t⟩⟩
  live := fun {H b} h z => by
    rcases z with z | z
    · intro y
      refine c.live h.1 z ?_
      by_cases e : b = a
      · rw [e, rem_same]
      · rw [rem_ne e]
        exact y
    · rw [z]
      obtain ⟨o, y, _⟩ := h.2
      exact fun q => by
        rw [y] at q
        cases q
  WF := fun z => .inl (c.WF z)
  GW := c.GW
  plG := c.plG
  owW := c.owW
  inj := c.inj
  plAt := fun h z => by
    obtain ⟨l, e, r⟩ := c.plAt h.1 z
    exact ⟨l, (rem_sub e).2, r⟩
  plPut := fun {H p l} h z q => by
    have n : p ≠ a := fun e => ha (by rw [← e]; exact c.plF z)
    refine ⟨?_, by rw [upd_ne (Ne.symm n)]; exact h.2⟩
    rw [rem_upd_ne n]
    exact c.plPut h.1 z q
  owPut := fun {H k b o} h w t nf => by
    have n : b ≠ a := fun e => ha (by rw [← e]; exact c.WF (c.owW w).1)
    refine ⟨?_, by rw [upd_ne (Ne.symm n)]; exact h.2⟩
    rw [rem_upd_ne n]
    exact c.owPut h.1 w t (fun ob u => by rw [rem_ne n]; exact nf ob u)
  tb := c.tb
  tabs := fun h => (c.tabs h.1).ext fun _ _ e => (rem_sub e).2
  ext := fun {H H1} h e t => by
    obtain ⟨o, y, s⟩ := h.2
    have y1 := e a o y (sol_tbl s)
    refine ⟨c.ext h.1 (fun b u z n => ?_) (fun p hp => ?_), o, y1, s⟩
    · obtain ⟨z1, z2⟩ := rem_sub z
      rw [rem_ne z1]
      exact e b u z2 n
    · obtain ⟨ps, t1, t2, t3⟩ := t p hp
      have n1 : p.1 ≠ a := fun q => by
        rw [q, y1] at t1
        cases t1
        cases s
      refine ⟨ps, by rw [rem_ne n1]; exact t1, t2, fun pos cv hc => ?_⟩
      obtain ⟨c1, e1, e2⟩ := t3 pos cv hc
      refine ⟨c1, e1, ?_⟩
      rw [rem_ne (fun q => ?_)]
      · exact e2
      · rw [q, y1] at e2
        cases e2
        cases s
theorem Le.hide {c : Cfg} {a : Addr} {ha : ¬ c.F a} : Le c (c.hide a ha) := ⟨rfl, fun _ z => .inl z, fun _ h => c.mono (fun _ _ e => (rem_sub e).2) h.1, fun _ z => z, fun _ _ z => z, fun _ z => ⟨.inl z.1, z.2⟩, rfl, fun _ z => z⟩
/-! ### one thing more is owned -/
def Cfg.mine (c : Cfg) (k : Nat) (a : Addr) (ha : ¬ c.F a) : Cfg where
  K := c.K
  F := fun b => c.F b ∨ b = a
  W := fun b => c.W b ∨ b = a
  G := c.G
  I := fun H => c.I (rem H a) ∧ ∃ o, H a = some o ∧ sol o = true
  pl := c.pl
  ow := fun j => if j = k then some a else c.ow j
  mono := fun {H H'} q h => ⟨c.mono (fun b u e => by
    obtain ⟨n, e⟩ := rem_sub e
    rw [rem_ne n]
    exact q b u e) h.1, by
    obtain ⟨o, z, t⟩ := h.2
    exact ⟨o, q a o z, t⟩⟩
  live := fun {H b} h z => by
    rcases z with z | z
    · intro y
      refine c.live h.1 z ?_
      by_cases e : b = a
      · rw [e, rem_same]
      · rw [rem_ne e]
        exact y
    · rw [z]
      obtain ⟨o, y, _⟩ := h.2
      exact fun q => by
        rw [y] at q
        cases q
  WF := fun z => z.elim (fun z => .inl (c.WF z)) .inr
  GW := fun z => .inl (c.GW z)
  plG := c.plG
  owW := fun {j b} e => by
    by_cases q : j = k
    · simp only [q, if_true] at e
      cases e
      exact ⟨.inr rfl, fun z => ha (c.GF z)⟩
    · simp only [q, if_false] at e
      exact ⟨.inl (c.owW e).1, (c.owW e).2⟩
  inj := fun {i j b} e1 e2 => by
    by_cases q1 : i = k <;> by_cases q2 : j = k
    · rw [q1, q2]
    · simp only [q1, q2, if_true, if_false] at e1 e2
      cases e1
      exact (ha (c.WF (c.owW e2).1)).elim
    · simp only [q1, q2, if_true, if_false] at e1 e2
      cases e2
      exact (ha (c.WF (c.owW e1).1)).elim
    · simp only [q1, q2, if_false] at e1 e2
      exact c.inj e1 e2
  plAt := fun h z => by
    obtain ⟨l, e, r⟩ := c.plAt h.1 z
    exact ⟨l, (rem_sub e).2, r⟩
  plPut := fun {H p l} h z q => by
    have n : p ≠ a := fun e => ha (by rw [← e]; exact c.plF z)
    refine ⟨?_, by rw [upd_ne (Ne.symm n)]; exact h.2⟩
    rw [rem_upd_ne n]
    exact c.plPut h.1 z q
  owPut := fun {H j b o} h w t nf => by
    by_cases q : j = k
    · simp only [q, if_true] at w
      cases w
      refine ⟨by rw [rem_upd]; exact h.1, o, upd_same, t⟩
    · simp only [q, if_false] at w
      have n : b ≠ a := fun e => ha (by rw [← e]; exact c.WF (c.owW w).1)
      refine ⟨?_, by rw [upd_ne (Ne.symm n)]; exact h.2⟩
      rw [rem_upd_ne n]
      exact c.owPut h.1 w t (fun ob u => by rw [rem_ne n]; exact nf ob u)
  tb := c.tb
  tabs := fun h => (c.tabs h.1).ext fun _ _ e => (rem_sub e).2
  ext := fun {H H1} h e t => by
    obtain ⟨o, y, s⟩ := h.2
    have y1 := e a o y (sol_tbl s)
    refine ⟨c.ext h.1 (fun b u z n => ?_) (fun p hp => ?_), o, y1, s⟩
    · obtain ⟨z1, z2⟩ := rem_sub z
      rw [rem_ne z1]
      exact e b u z2 n
    · obtain ⟨ps, t1, t2, t3⟩ := t p hp
      have n1 : p.1 ≠ a := fun q => by
        rw [q, y1] at t1
        cases t1
        cases s
      refine ⟨ps, by rw [rem_ne n1]; exact t1, t2, fun pos cv hc => ?_⟩
      obtain ⟨c1, e1, e2⟩ := t3 pos cv hc
      refine ⟨c1, e1, ?_⟩
      rw [rem_ne (fun q => ?_)]
      · exact e2
      · rw [q, y1] at e2
        cases e2
        cases s
/-- no slot with this key -/
def clr (k : Nat) (Γ : Gm) : Gm := Γ.map fun s => match s with
  | .own j x => if j = k then .any else .own j x
  | s => s
/-- what was owned is data -/
def frD : D → Sl
  | .dic _ => .any
  | x => .d x
theorem frD_ok {c : Cfg} {H : Hp} {a : Addr} {x : D} (n : ¬ c.F a) (h : OwRp c H a x) : SlOk c H (some (.ref a)) (frD x) := by
  cases x <;> first | exact trivial | exact ⟨_, rfl, h.rp n⟩
def fzS (k : Nat) : Sl → Sl
  | .own j x => if j = k then frD x else .own j x
  | s => s
def fz (k : Nat) (Γ : Gm) : Gm := Γ.map (fzS k)
/-- data that stand while a is new are seen so with a that may change -/
theorem Rp.hide {c : Cfg} {H : Hp} {v : V} {d : D} {a : Addr} {ha : ¬ c.F a} (n : H a = none) (h : Rp c H v d) : Rp (c.hide a ha) H v d := by
  have no : ∀ {b : Addr} {u : HO}, Rd H b u → b ≠ a := fun {b u} z e => by
    subst e
    rcases z with z | ⟨_, z⟩ <;> (rw [n] at z; cases z)
  refine Rp.rec (motive_1 := fun v d _ => Rp (c.hide a ha) H v d) (motive_2 := fun vs ds _ => RpAll (c.hide a ha) H vs ds) (motive_3 := fun vs ds _ => RpFs (c.hide a ha) H vs ds) (motive_4 := fun vs ds _ => RpKv (c.hide a ha) H vs ds)
    .non .bl .int .str ?_ ?_ ?_ ?_ ?_ ?_ .nil ?_ .nil ?_ .nil ?_ h
  · intro b xs ds m s _ r
    exact .lst (fun z => z.elim m fun e => no (.inl s) e) s r
  · intro b xs ds s _ r
    exact .scr (s.elim (fun z => .inl ⟨fun y => y.elim z.1 (no z.2), z.2⟩) .inr) r
  · intro b xs ds s _ r
    exact .tup (s.elim (fun z => .inl ⟨fun y => y.elim z.1 (no z.2), z.2⟩) .inr) r
  · intro b C dx fs ds m s _ r
    exact .obj (fun z => z.elim m fun e => no (.inl s) e) s r
  · intro b kvs ds ob m s _ r
    exact .dic (fun z => z.elim m fun e => no (.inl s) e) s r
  · intro b C oe d vs ds m s e x _ r
    exact .exn (fun z => z.elim m fun e => no (.inl s) e) s e (x.in_ fun dx u m2 s2 => ⟨fun z => z.elim m2 fun e => no (.inl s2) e, s2⟩) r
  · intro v d vs ds _ _ a b
    exact .cons a b
  · intro n v d vs ds _ _ a b
    exact .cons a b
  · intro n v d vs ds _ _ a b
    exact .cons a b
theorem RpAll.hide {c : Cfg} {H : Hp} {a : Addr} {ha : ¬ c.F a} (n : H a = none) : ∀ {vs : List V} {ds : List D}, RpAll c H vs ds → RpAll (c.hide a ha) H vs ds
  | _, _, .nil => .nil
  | _, _, .cons r t => .cons (r.hide n) (RpAll.hide n t)
theorem RpFs.hide {c : Cfg} {H : Hp} {a : Addr} {ha : ¬ c.F a} (n : H a = none) : ∀ {vs : List (Str × V)} {ds : List (Str × D)}, RpFs c H vs ds → RpFs (c.hide a ha) H vs ds
  | _, _, .nil => .nil
  | _, _, .cons r t => .cons (r.hide n) (RpFs.hide n t)
theorem RpKv.hide {c : Cfg} {H : Hp} {a : Addr} {ha : ¬ c.F a} (n : H a = none) : ∀ {vs : List (Key × V)} {ds : List (Key × D)}, RpKv c H vs ds → RpKv (c.hide a ha) H vs ds
  | _, _, .nil => .nil
  | _, _, .cons r t => .cons (r.hide n) (RpKv.hide n t)
theorem XOk.hide {c : Cfg} {H : Hp} {a : Addr} {ha : ¬ c.F a} {d : Option Addr} {p : XP} (n : H a = none) (h : XOk c H d p) : XOk (c.hide a ha) H d p := by
  cases d <;> cases p <;> first | exact h | skip
  obtain ⟨vs, m, e, r⟩ := h
  refine ⟨vs, fun z => z.elim m fun y => ?_, e, r.hide n⟩
  rw [y, n] at e
  cases e
theorem OwRp.hide {c : Cfg} {H : Hp} {a b : Addr} {ha : ¬ c.F a} {d : D} (n : H a = none) (h : OwRp c H b d) : OwRp (c.hide a ha) H b d := by
  cases d <;> try exact h
  · obtain ⟨xs, e, r⟩ := h
    exact ⟨xs, e, r.hide n⟩
  · obtain ⟨dx, vs, e, r⟩ := h
    exact ⟨dx, vs, e, r.hide n⟩
  · obtain ⟨vs, e, r⟩ := h
    exact ⟨vs, e, r.hide n⟩
theorem SlOk.hide {c : Cfg} {H : Hp} {a : Addr} {ha : ¬ c.F a} {u : Option V} {s : Sl} (n : H a = none) (h : SlOk c H u s) : SlOk (c.hide a ha) H u s := by
  cases s with
  | bor ds =>
    obtain ⟨b, ob, kvs, e, g, q, r⟩ := h
    exact ⟨b, ob, kvs, e, g, q, r.hide n⟩
  | any => trivial
  | v x => exact h
  | d x =>
    obtain ⟨v, e, r⟩ := h
    exact ⟨v, e, r.hide n⟩
  | pool => exact h
  | ex b cls dd p => exact ⟨h.1, h.2.hide n⟩
  | own j x =>
    obtain ⟨b, e, w, r⟩ := h
    exact ⟨b, e, w, r.hide n⟩
  | tab T => exact h
theorem StOk.hide {c : Cfg} {σ : St} {H H' : Hp} {Γ : Gm} {a : Addr} (ha : ¬ c.F a) (h : StOk c σ H Γ) (n : H a = none) (kp : ∀ b o, H b = some o → H' b = some o) (na : ∃ o, H' a = some o ∧ sol o = true) : StOk (c.hide a ha) σ H' Γ := by
  refine ⟨⟨c.mono (rem_in n kp) h.inv, na⟩, h.len, fun i o s e1 e2 => ?_⟩
  exact ((h.at_ i o s e1 e2).hide n).go fun b o _ _ e => kp b o e
/-- data that stand while a is new are seen so with a that may change -/
theorem Rp.mine {c : Cfg} {H : Hp} {v : V} {d : D} {k : Nat} {a : Addr} {ha : ¬ c.F a} (n : H a = none) (h : Rp c H v d) : Rp (c.mine k a ha) H v d := by
  have no : ∀ {b : Addr} {u : HO}, Rd H b u → b ≠ a := fun {b u} z e => by
    subst e
    rcases z with z | ⟨_, z⟩ <;> (rw [n] at z; cases z)
  refine Rp.rec (motive_1 := fun v d _ => Rp (c.mine k a ha) H v d) (motive_2 := fun vs ds _ => RpAll (c.mine k a ha) H vs ds) (motive_3 := fun vs ds _ => RpFs (c.mine k a ha) H vs ds) (motive_4 := fun vs ds _ => RpKv (c.mine k a ha) H vs ds)
    .non .bl .int .str ?_ ?_ ?_ ?_ ?_ ?_ .nil ?_ .nil ?_ .nil ?_ h
  · intro b xs ds m s _ r
    exact .lst (fun z => z.elim m fun e => no (.inl s) e) s r
  · intro b xs ds s _ r
    exact .scr (s.elim (fun z => .inl ⟨fun y => y.elim z.1 (no z.2), z.2⟩) .inr) r
  · intro b xs ds s _ r
    exact .tup (s.elim (fun z => .inl ⟨fun y => y.elim z.1 (no z.2), z.2⟩) .inr) r
  · intro b C dx fs ds m s _ r
    exact .obj (fun z => z.elim m fun e => no (.inl s) e) s r
  · intro b kvs ds ob m s _ r
    exact .dic (fun z => z.elim m fun e => no (.inl s) e) s r
  · intro b C oe d vs ds m s e x _ r
    exact .exn (fun z => z.elim m fun e => no (.inl s) e) s e (x.in_ fun dx u m2 s2 => ⟨fun z => z.elim m2 fun e => no (.inl s2) e, s2⟩) r
  · intro v d vs ds _ _ a b
    exact .cons a b
  · intro n v d vs ds _ _ a b
    exact .cons a b
  · intro n v d vs ds _ _ a b
    exact .cons a b
theorem RpAll.mine {c : Cfg} {H : Hp} {k : Nat} {a : Addr} {ha : ¬ c.F a} (n : H a = none) : ∀ {vs : List V} {ds : List D}, RpAll c H vs ds → RpAll (c.mine k a ha) H vs ds
  | _, _, .nil => .nil
  | _, _, .cons r t => .cons (r.mine n) (RpAll.mine n t)
theorem RpFs.mine {c : Cfg} {H : Hp} {k : Nat} {a : Addr} {ha : ¬ c.F a} (n : H a = none) : ∀ {vs : List (Str × V)} {ds : List (Str × D)}, RpFs c H vs ds → RpFs (c.mine k a ha) H vs ds
  | _, _, .nil => .nil
  | _, _, .cons r t => .cons (r.mine n) (RpFs.mine n t)
theorem RpKv.mine {c : Cfg} {H : Hp} {k : Nat} {a : Addr} {ha : ¬ c.F a} (n : H a = none) : ∀ {vs : List (Key × V)} {ds : List (Key × D)}, RpKv c H vs ds → RpKv (c.mine k a ha) H vs ds
  | _, _, .nil => .nil
  | _, _, .cons r t => .cons (r.mine n) (RpKv.mine n t)
theorem RpAll.le {c c' : Cfg} {H : Hp} (l : Le c c') {vs : List V} {ds : List D} (h : RpAll c' H vs ds) : RpAll c H vs ds := h.to l.K.symm l.F Kp.self
theorem XOk.mine {c : Cfg} {H : Hp} {k : Nat} {a : Addr} {ha : ¬ c.F a} {d : Option Addr} {p : XP} (n : H a = none) (h : XOk c H d p) : XOk (c.mine k a ha) H d p := by
  cases d <;> cases p <;> first | exact h | skip
  obtain ⟨vs, m, e, r⟩ := h
  refine ⟨vs, fun z => z.elim m fun y => ?_, e, r.mine n⟩
  rw [y, n] at e
  cases e
theorem OwRp.mine {c : Cfg} {H : Hp} {k : Nat} {a b : Addr} {ha : ¬ c.F a} {d : D} (n : H a = none) (h : OwRp c H b d) : OwRp (c.mine k a ha) H b d := by
  cases d <;> try exact h
  · obtain ⟨xs, e, r⟩ := h
    exact ⟨xs, e, r.mine n⟩
  · obtain ⟨dx, vs, e, r⟩ := h
    exact ⟨dx, vs, e, r.mine n⟩
  · obtain ⟨vs, e, r⟩ := h
    exact ⟨vs, e, r.mine n⟩
theorem SlOk.mine {c : Cfg} {H : Hp} {k : Nat} {a : Addr} {ha : ¬ c.F a} {u : Option V} {s : Sl} (n : H a = none) (ns : ∀ x, s ≠ .own k x) (h : SlOk c H u s) : SlOk (c.mine k a ha) H u s := by
  cases s with
  | bor ds =>
    obtain ⟨b, ob, kvs, e, g, q, r⟩ := h
    exact ⟨b, ob, kvs, e, g, q, r.mine n⟩
  | any => trivial
  | v x => exact h
  | d x =>
    obtain ⟨v, e, r⟩ := h
    exact ⟨v, e, r.mine n⟩
  | pool => exact h
  | ex b cls dd p => exact ⟨h.1, h.2.mine n⟩
  | own j x =>
    obtain ⟨b, e, w, r⟩ := h
    have nj : j ≠ k := fun z => ns x (by rw [z])
    exact ⟨b, e, by show (if j = k then some a else c.ow j) = some b; rw [if_neg nj]; exact w, r.mine n⟩
  | tab T => exact h
theorem clr_get {k i : Nat} {Γ : Gm} {s : Sl} (h : (clr k Γ)[i]? = some s) : s = .any ∨ ((∀ x, s ≠ .own k x) ∧ Γ[i]? = some s) := by
  unfold clr at h
  rw [List.getElem?_map, Option.map_eq_some_iff] at h
  obtain ⟨t, e, z⟩ := h
  subst z
  split
  · rename_i j x
    by_cases q : j = k
    · rw [if_pos q]
      exact .inl rfl
    · rw [if_neg q]
      exact .inr ⟨fun y z => q (Sl.own.inj z).1, e⟩
  · rename_i hn
    exact .inr ⟨fun x z => hn k x z, e⟩
/-- a new thing at a is owned by key k -/
theorem StOk.mine {c : Cfg} {σ : St} {H H' : Hp} {Γ : Gm} {k : Nat} {a : Addr} (ha : ¬ c.F a) (h : StOk c σ H Γ) (n : H a = none) (kp : ∀ b o, H b = some o → H' b = some o) (na : ∃ o, H' a = some o ∧ sol o = true) : StOk (c.mine k a ha) σ H' (clr k Γ) := by
  refine ⟨⟨c.mono (rem_in n kp) h.inv, na⟩, by rw [h.len]; simp [clr], fun i o s e1 e2 => ?_⟩
  rcases clr_get e2 with z | ⟨z, e⟩
  · subst z
    trivial
  · exact ((h.at_ i o s e1 e).mine n z).go fun b o _ _ e => kp b o e
theorem SlOk.fz {c : Cfg} {H : Hp} {k : Nat} {a : Addr} {ha : ¬ c.F a} {u : Option V} {s : Sl} (h : SlOk (c.mine k a ha) H u s) : SlOk c H u (fzS k s) := by
  have lF : ∀ b, c.F b → (c.mine k a ha).F b := fun _ z => .inl z
  cases s with
  | bor ds =>
    obtain ⟨b, ob, kvs, e, g, q, r⟩ := h
    exact ⟨b, ob, kvs, e, g, q, RpKv.to (c := c.mine k a ha) (c' := c) rfl lF Kp.self r⟩
  | any => trivial
  | v x => exact h
  | d x =>
    obtain ⟨v, e, r⟩ := h
    exact ⟨v, e, r.to (c := c.mine k a ha) rfl lF Kp.self⟩
  | pool => exact h
  | ex b cls dd p => exact ⟨h.1, h.2.to (c := c.mine k a ha) rfl lF Kp.self⟩
  | own j x =>
    obtain ⟨b, e, w, r⟩ := h
    have w : (if j = k then some a else c.ow j) = some b := w
    have r' := r.to (c := c.mine k a ha) (c' := c) rfl lF Kp.self fun _ _ e => e
    show SlOk c H u (if j = k then frD x else .own j x)
    by_cases q : j = k
    · rw [if_pos q] at w ⊢
      cases w
      rw [e]
      exact frD_ok ha r'
    · rw [if_neg q] at w ⊢
      exact ⟨b, e, w, r'⟩
  | tab T => exact h
theorem StOk.fz {c : Cfg} {σ : St} {H : Hp} {Γ : Gm} {k : Nat} {a : Addr} {ha : ¬ c.F a} (h : StOk (c.mine k a ha) σ H Γ) : StOk c σ H (fz k Γ) := by
  refine ⟨c.mono (fun _ _ e => (rem_sub e).2) h.inv.1, by rw [h.len]; simp [Dv.fz], fun i o s e1 e2 => ?_⟩
  unfold Dv.fz at e2
  rw [List.getElem?_map, Option.map_eq_some_iff] at e2
  obtain ⟨t, e, z⟩ := e2
  subst z
  exact (h.at_ i o t e1 e).fz
/-- what an owned thing holds is changed -/
theorem StOk.put {c : Cfg} {σ : St} {H : Hp} {Γ : Gm} {k i : Nat} {a : Addr} {o : HO} {x : D} (h : StOk c σ H Γ) (w : c.ow k = some a) (e : σ[i]? = some (some (.ref a))) (q : OwRp c (upd H a o) a x) (nf : Unf H a) (so : sol o = true := by rfl) : StOk c σ (upd H a o) ((clr k Γ).set i (.own k x)) := by
  have kk : Kp c.W H (upd H a o) := fun b u nb _ e => by
    rw [upd_ne (fun y => nb (by rw [y]; exact (c.owW w).1))]
    exact e
  refine ⟨c.owPut h.inv w so nf, by rw [h.len]; simp [clr], fun j u s e1 e2 => ?_⟩
  rw [List.getElem?_set] at e2
  by_cases ij : i = j
  · subst ij
    simp only [if_true] at e2
    split at e2
    · cases e2
      rw [e] at e1
      cases e1
      exact ⟨a, rfl, w, q⟩
    · cases e2
  · simp only [ij, if_false] at e2
    rcases clr_get e2 with z | ⟨z, e2⟩
    · subst z
      trivial
    · refine (h.at_ j u s e1 e2).to rfl (fun _ z => z) (fun _ z => z) (kk.le fun _ z => c.WF z) (fun n y b es wn => ⟨wn, fun o' _ e' => ?_⟩) rfl ⟨fun _ z => z, Kz.upd nf⟩
      by_cases q : b = a
      · rw [q] at wn
        rw [c.inj wn w] at es
        exact (z y es).elim
      · rw [upd_ne q]
        exact e'
theorem StOk.hput {c : Cfg} {σ : St} {H : Hp} {Γ : Gm} {a : Addr} {ha : ¬ c.F a} {o : HO} (h : StOk (c.hide a ha) σ H Γ) (nf : Unf H a) (so : sol o = true := by rfl) : StOk (c.hide a ha) σ (upd H a o) Γ := by
  refine ⟨⟨by rw [rem_upd]; exact h.inv.1, o, upd_same, so⟩, h.len, fun i u s e1 e2 => ?_⟩
  have kk : Kp (c.hide a ha).F H (upd H a o) := fun b u nb _ e => by
    rw [upd_ne (fun y => nb (.inr y))]
    exact e
  refine (h.at_ i u s e1 e2).to rfl (fun _ z => z) (fun _ z => z) kk (fun n x b _ w => ⟨w, fun o' _ e' => ?_⟩) rfl ⟨fun _ z => z, Kz.upd nf⟩
  rw [upd_ne (fun y => ha (by rw [← y]; exact c.WF (c.owW w).1))]
  exact e'
/-- all that is owned is data -/
def fzA1 : Sl → Sl
  | .own _ x => frD x
  | s => s
def fzA (Γ : Gm) : Gm := Γ.map fzA1
theorem SlOk.rel {c : Cfg} {H : Hp} {u : Option V} {s : Sl} (h : SlOk c H u s) : SlOk c.rel H u (fzA1 s) := by
  have lF : ∀ b, c.rel.F b → c.F b := fun _ z => z.1
  cases s with
  | bor ds =>
    obtain ⟨b, ob, kvs, e, g, q, r⟩ := h
    exact ⟨b, ob, kvs, e, g, q, RpKv.to (c := c) (c' := c.rel) rfl lF Kp.self r⟩
  | any => trivial
  | v x => exact h
  | d x =>
    obtain ⟨v, e, r⟩ := h
    exact ⟨v, e, Rp.to (c := c) (c' := c.rel) rfl lF Kp.self r⟩
  | pool => exact h
  | ex b cls dd p => exact ⟨h.1, XOk.to (c := c) (c' := c.rel) rfl lF Kp.self h.2⟩
  | own j x =>
    obtain ⟨b, e, w, r⟩ := h
    have r' := OwRp.to (c := c) (c' := c.rel) rfl lF Kp.self (fun _ _ e => e) r
    rw [e]
    exact frD_ok (fun z => (c.owW w).2 (z.2 (c.owW w).1)) r'
  | tab T => exact h
theorem StOk.rel {c : Cfg} {σ : St} {H : Hp} {Γ : Gm} (h : StOk c σ H Γ) : StOk c.rel σ H (fzA Γ) := by
  refine ⟨h.inv, by rw [h.len]; simp [fzA], fun i o s e1 e2 => ?_⟩
  unfold fzA at e2
  rw [List.getElem?_map, Option.map_eq_some_iff] at e2
  obtain ⟨t, e, z⟩ := e2
  subst z
  exact (h.at_ i o t e1 e).rel
theorem rel_mine {c : Cfg} {k : Nat} {a : Addr} {ha : ¬ c.F a} (b : Addr) (h : c.rel.F b) : (c.mine k a ha).rel.F b := ⟨.inl h.1, fun z => z.elim h.2 fun e => (ha (e ▸ h.1)).elim⟩
end Dv
set_option Elab.async false
set_option linter.all false
set_option maxRecDepth 100000
set_option maxHeartbeats 4000000
/-! De: expressions over plain data. -/
namespace Dv
open PySem L2
abbrev DK := Sl → Prop
abbrev DE := Gm → DK → Prop
abbrev DA := Gm → (List Sl → Prop) → Prop
abbrev DT := Gm → (Bool → Prop) → Prop
abbrev XW := Addr → XP → Gm → Prop
/-- W wants of an error no more than what xw tells -/
def WOk (c : Cfg) (W : WX) (xw : XW) : Prop := ∀ σ H Γ C d p, StOk c σ H Γ → XOk c H d p → xw C p Γ → W (.ref C) d σ H
theorem XOk.le {c c' : Cfg} {H : Hp} {d : Option Addr} {p : XP} (l : Le c c') (h : XOk c' H d p) : XOk c H d p := h.to l.K.symm l.F Kp.self
theorem WOk.le {c c' : Cfg} {W : WX} {xw : XW} (l : Le c c') (h : WOk c W xw) : WOk c' W xw := fun σ H Γ C d p s x q => h σ H Γ C d p (s.le l) (x.le l) q
def W0 : WX := fun _ _ _ _ => False
def xw0 : XW := fun _ _ _ => False
theorem WOk.zero {c : Cfg} {W : WX} : WOk c W xw0 := fun _ _ _ _ _ _ _ _ z => z.elim
def EvS (c : Cfg) (te : TE) (Γ : Gm) (k : DK) : Prop := ∀ σ H, StOk c σ H Γ → ∀ Q : VK, (∀ v s H2, Go c H H2 → SlOk c H2 (some v) s → k s → Q v H2) → te σ H Q
def EvAs (c : Cfg) (ta : TA) (Γ : Gm) (k : List Sl → Prop) : Prop := ∀ σ H, StOk c σ H Γ → ∀ Q : List V → Hp → Prop, (∀ vs ss H2, Go c H H2 → Paired (fun v s => SlOk c H2 (some v) s) vs ss → k ss → Q vs H2) → ta σ H Q
def EvTs (c : Cfg) (tt : TT) (Γ : Gm) (k : Bool → Prop) : Prop := ∀ σ H, StOk c σ H Γ → ∀ Q : Bool → Hp → Prop, (∀ b H2, Go c H H2 → k b → Q b H2) → tt σ H Q
def Li (K : PySem.W.Frag) (W : WX) (xw : XW) (te : TE) (de : DE) : Prop := ∀ c : Cfg, c.K = K → WOk c W xw → ∀ Γ k, de Γ k → EvS c te Γ k
def LiA (K : PySem.W.Frag) (W : WX) (xw : XW) (ta : TA) (da : DA) : Prop := ∀ c : Cfg, c.K = K → WOk c W xw → ∀ Γ k, da Γ k → EvAs c ta Γ k
def LiT (K : PySem.W.Frag) (W : WX) (xw : XW) (tt : TT) (dt : DT) : Prop := ∀ c : Cfg, c.K = K → WOk c W xw → ∀ Γ k, dt Γ k → EvTs c tt Γ k
structure PD (X : Cx) (W : WX) (xw : XW) (e : Expr) (te : TE) (de : DE) : Prop where
  pe : Takes X W → PE X e te
  li : Li X.K W xw te de
structure PDA (X : Cx) (W : WX) (xw : XW) (es : List Expr) (ta : TA) (da : DA) : Prop where
  pa : Takes X W → PA X es ta
  li : LiA X.K W xw ta da
structure PDT (X : Cx) (W : WX) (xw : XW) (e : Expr) (tt : TT) (dt : DT) : Prop where
  pt : Takes X W → PT X e tt
  li : LiT X.K W xw tt dt
structure PDW (X : Cx) (W : WX) (xw : XW) (e : Expr) (tt : TT) (dt : DT) : Prop where
  pw : Takes X W → PW X e tt
  li : LiT X.K W xw tt dt
/-! ### names and constants -/
def dVar (i : Nat) : DE := fun Γ k => match Γ[i]? with
  | some (.v x) => k (.v x)
  | some (.d x) => k (.d x)
  | some .pool => k .pool
  | some (.ex a cls dd p) => k (.ex a cls dd p)
  | some (.own n x) => k (.own n x)
  | some (.bor ds) => k (.bor ds)
  | _ => False
def dC (d : D) : DE := fun _ k => k (.d d)
def dR (v : V) : DE := fun _ k => k (.v v)
section
variable {X : Cx} {W : WX} {xw : XW} {K : PySem.W.Frag}
theorem sl_some {c : Cfg} {H : Hp} {o : Option V} {s : Sl} (h : SlOk c H o s) (n : s ≠ .any) (n2 : ∀ T, s ≠ .tab T) : ∃ v, o = some v := by
  cases s with
  | any => exact absurd rfl n
  | v x => exact ⟨x, h⟩
  | d x =>
    obtain ⟨v, e, _⟩ := h
    exact ⟨v, e⟩
  | pool =>
    obtain ⟨p, e, _⟩ := h
    exact ⟨_, e⟩
  | ex a cls dd p => exact ⟨_, h.1⟩
  | own n x =>
    obtain ⟨p, e, _⟩ := h
    exact ⟨_, e⟩
  | tab T => exact (n2 T rfl).elim
  | bor ds =>
    obtain ⟨p, _, _, e, _⟩ := h
    exact ⟨_, e⟩
theorem li_var {i : Nat} : Li K W xw (tVar i) (dVar i) := fun c eK hW Γ k h σ H st Q q => by
  have key : ∀ s, Γ[i]? = some s → s ≠ .any → (∀ T, s ≠ .tab T) → k s → tVar i σ H Q := fun s e n n2 ks => by
    have l : i < Γ.length := (List.getElem?_eq_some_iff.mp e).1
    have l' : i < σ.length := by rw [st.len]; exact l
    have e' : σ[i]? = some σ[i] := List.getElem?_eq_some_iff.mpr ⟨l', rfl⟩
    have z := st.at_ i _ s e' e
    obtain ⟨v, ev⟩ := sl_some z n n2
    refine ⟨v, by rw [e', ev], q v s H (Go.self st.inv) (by rw [← ev]; exact z) ks⟩
  unfold dVar at h
  split at h
  · rename_i x e
    exact key _ e (by simp) (by simp) h
  · rename_i x e
    exact key _ e (by simp) (by simp) h
  · rename_i e
    exact key _ e (by simp) (by simp) h
  · rename_i e
    exact key _ e (by simp) (by simp) h
  · rename_i e
    exact key _ e (by simp) (by simp) h
  · rename_i e
    exact key _ e (by simp) (by simp) h
  · exact h.elim
theorem li_c {v : V} {d : D} (r : ∀ c H, Rp c H v d) : Li K W xw (tC v) (dC d) := fun c eK hW Γ k h σ H st Q q => q v (.d d) H (Go.self st.inv) ⟨v, rfl, r c H⟩ h
theorem li_r {v : V} : Li K W xw (tC v) (dR v) := fun c eK hW Γ k h σ H st Q q => q v (.v v) H (Go.self st.inv) rfl h
theorem pd_v (i : Nat) {x : Str} {pos : Pos} (hN : X.N[i]? = some x := by rfl) (hv : Vis X.env.scope x := by first | exact Or.inl rfl | exact Or.inr (Or.inl rfl) | exact Or.inr (Or.inr rfl)) (hd : (x == ("__debug__" : Str)) = false := by decide) (hcd : (x == ("__classdict__" : Str)) = false := by decide) :
    PD X W xw (.Name x pos) (tVar i) (dVar i) := ⟨fun tk => pe_var hN hv hd hcd, li_var⟩
theorem pd_int {i j pos} : PD X W xw (.Constant (.int i) j pos) (tC (.int i)) (dC (.int i)) := ⟨fun tk => pe_int, li_c fun _ _ => .int _⟩
theorem pd_bl {i j pos} : PD X W xw (.Constant (.bool i) j pos) (tC (.bl i)) (dC (.bl i)) := ⟨fun tk => pe_bl, li_c fun _ _ => .bl _⟩
theorem pd_str {i j pos} : PD X W xw (.Constant (.str i) j pos) (tC (.str i)) (dC (.str i)) := ⟨fun tk => pe_str, li_c fun _ _ => .str _⟩
theorem pd_non {j pos} : PD X W xw (.Constant .none j pos) (tC .non) (dC .non) := ⟨fun tk => pe_non, li_c fun _ _ => .non⟩
theorem pd_gI {x : Str} {i : Int} {t : Tok} {pos : Pos} (hm : X.mg x = some (.int i t)) (hg : Gl X x := by rfl) (hd : (x == ("__debug__" : Str)) = false := by decide) : PD X W xw (.Name x pos) (tC (.int i)) (dC (.int i)) := ⟨fun tk => pe_glob hg hm ⟨_, rfl⟩ hd, li_c fun _ _ => .int _⟩
theorem pd_gS {x : Str} {i : Str} {t : Tok} {pos : Pos} (hm : X.mg x = some (.str i t)) (hg : Gl X x := by rfl) (hd : (x == ("__debug__" : Str)) = false := by decide) : PD X W xw (.Name x pos) (tC (.str i)) (dC (.str i)) := ⟨fun tk => pe_glob hg hm ⟨_, rfl⟩ hd, li_c fun _ _ => .str _⟩
/-- a built-in class as a value; a class of the text -/
theorem pd_ty {x : Str} {T : String} {pos : Pos} (hm : X.mg x = none) (hv : bootBuiltins x = some (.type T)) (hg : Gl X x := by rfl) (hn : x ≠ "__name__" := by decide) (hd : (x == ("__debug__" : Str)) = false := by decide) : PD X W xw (.Name x pos) (tC (.ty T)) (dR (.ty T)) := ⟨fun tk => pe_bltn hg hm hv rfl hn hd, li_r⟩
theorem pd_cls {x : Str} {C : Addr} {pos : Pos} (hm : X.mg x = some (.ref C)) (hg : Gl X x := by rfl) (hd : (x == ("__debug__" : Str)) = false := by decide) : PD X W xw (.Name x pos) (tC (.ref C)) (dR (.ref C)) := ⟨fun tk => pe_glob hg hm rfl hd, li_r⟩
/-! ### arguments, displays -/
def dNil : DA := fun _ k => k []
def dCons (a : DE) (r : DA) : DA := fun Γ k => a Γ fun s => r Γ fun ss => k (s :: ss)
theorem pda_nil : PDA X W xw [] tNil dNil := ⟨fun tk => pa_nil, fun c eK hW Γ k h σ H st Q q => q [] [] H (Go.self st.inv) .nil h⟩
theorem pda_cons {e : Expr} {es : List Expr} {te : TE} {ta : TA} {de : DE} {da : DA} (a : PD X W xw e te de) (r : PDA X W xw es ta da) (hs : starEach (e :: es) X.env = (false, eval e X.env) :: starEach es X.env := by rfl) : PDA X W xw (e :: es) (tCons te ta) (dCons de da) :=
  ⟨fun tk => pa_cons (a.pe tk) (r.pa tk) hs, fun c eK hW Γ k h σ H st Q q => a.li c eK hW Γ _ h σ H st _ fun v s H1 g1 r1 h1 => r.li c eK hW Γ _ h1 σ H1 (st.go g1) _ fun vs ss H2 g2 r2 h2 => q (v :: vs) (s :: ss) H2 (g1.trans g2) (.cons (r1.go g2.keep) r2) h2⟩
/-- data alone -/
def unD : List Sl → Option (List D)
  | [] => some []
  | .d x :: r => (unD r).map (x :: ·)
  | _ :: _ => none
theorem unD_ok {c : Cfg} {H : Hp} : ∀ {vs : List V} {ss : List Sl} {ds : List D}, Paired (fun v s => SlOk c H (some v) s) vs ss → unD ss = some ds → RpAll c H vs ds
  | _, _, _, .nil, e => by
    cases e
    exact .nil
  | _, s :: ss, ds, .cons r t, e => by
    cases s with
    | d x =>
      rw [unD, Option.map_eq_some_iff] at e
      obtain ⟨es, e1, e2⟩ := e
      subst e2
      obtain ⟨v, ev, rv⟩ := r
      cases ev
      exact .cons rv (unD_ok t e1)
    | any => cases e
    | v x => cases e
    | pool => cases e
    | ex _ _ _ _ => cases e
    | own _ _ => cases e
    | tab _ => cases e
    | bor _ => cases e
def dTup (a : DA) : DE := fun Γ k => a Γ fun ss => match unD ss with
  | some ds => ds.length ≤ 100000 ∧ k (.d (.tup ds))
  | none => False
def dLst (a : DA) : DE := fun Γ k => a Γ fun ss => match unD ss with
  | some ds => ds.length ≤ 100000 ∧ k (.d (.lst ds))
  | none => False
theorem sz {n : Nat} (h : n ≤ 100000) : n ≤ sizeLine := Nat.le_trans h (by decide)
theorem rp_newL {c : Cfg} {H : Hp} {p : Addr} {vs : List V} {ds : List D} (hi : c.I H) (n : H p = none) (r : RpAll c H vs ds) : Rp c (upd H p (.lst vs)) (.ref p) (.lst ds) :=
  .lst (c.fresh hi n) upd_same (r.go (Kp.new n))
theorem rp_newT {c : Cfg} {H : Hp} {p : Addr} {vs : List V} {ds : List D} (hi : c.I H) (n : H p = none) (r : RpAll c H vs ds) : Rp c (upd H p (.tup vs)) (.ref p) (.tup ds) :=
  .tup (.inl ⟨c.fresh hi n, .inl upd_same⟩) (r.go (Kp.new n))
theorem pd_tup {es : List Expr} {ta : TA} {da : DA} {x1 : _} {pos : Pos} (a : PDA X W xw es ta da) : PD X W xw (.Tuple es x1 pos) (tTup ta) (dTup da) :=
  ⟨fun tk => pe_tup (a.pa tk), fun c eK hW Γ k h σ H st Q q => a.li c eK hW Γ _ h σ H st _ fun vs ss H1 g1 r1 h1 => by
    split at h1
    · rename_i ds e
      have rr := unD_ok r1 e
      exact ⟨by rw [rr.length]; exact sz h1.1, fun p n => q _ (.d (.tup ds)) _ (g1.trans (Go.new g1.inv n)) ⟨_, rfl, rp_newT g1.inv n rr⟩ h1.2⟩
    · exact h1.elim⟩
theorem pd_lst {es : List Expr} {ta : TA} {da : DA} {pos : Pos} (a : PDA X W xw es ta da) : PD X W xw (.List es pos) (tLst ta) (dLst da) :=
  ⟨fun tk => pe_lst (a.pa tk), fun c eK hW Γ k h σ H st Q q => a.li c eK hW Γ _ h σ H st _ fun vs ss H1 g1 r1 h1 => by
    split at h1
    · rename_i ds e
      have rr := unD_ok r1 e
      exact ⟨by rw [rr.length]; exact sz h1.1, fun p n => q _ (.d (.lst ds)) _ (g1.trans (Go.new g1.inv n)) ⟨_, rfl, rp_newL g1.inv n rr⟩ h1.2⟩
    · exact h1.elim⟩
/-! ### operations on two values -/
def O2 (K : PySem.W.Frag) (r : R2) (g : Sl → Sl → DK → Prop) : Prop := ∀ (c : Cfg) (H : Hp) (x y : V) (s t : Sl) (k : DK) (Q : VK), c.K = K → c.I H → SlOk c H (some x) s → SlOk c H (some y) t → g s t k →
  (∀ v u H2, Go c H H2 → SlOk c H2 (some v) u → k u → Q v H2) → r x y H Q
def dOp (g : Sl → Sl → DK → Prop) (a b : DE) : DE := fun Γ k => a Γ fun s => b Γ fun t => g s t k
theorem li_op {r : R2} {g : Sl → Sl → DK → Prop} {ta tb : TE} {a b : DE} (o : O2 K r g) (ha : Li K W xw ta a) (hb : Li K W xw tb b) : Li K W xw (tOp r ta tb) (dOp g a b) := fun c eK hW Γ k h σ H st Q q =>
  ha c eK hW Γ _ h σ H st _ fun v s H1 g1 r1 h1 => hb c eK hW Γ _ h1 σ H1 (st.go g1) _ fun u t H2 g2 r2 h2 =>
    o c H2 v u s t k Q eK g2.inv (r1.go g2.keep) r2 h2 fun z w H3 g3 r3 h3 => q z w H3 ((g1.trans g2).trans g3) r3 h3
/-- ints -/
def gI (C : Int → Int → Prop) (g : Int → Int → D) : Sl → Sl → DK → Prop := fun s t k => match s, t with
  | .d (.int i), .d (.int j) => C i j ∧ k (.d (g i j))
  | _, _ => False
def gI0 (g : Int → Int → D) : Sl → Sl → DK → Prop := fun s t k => match s, t with
  | .d (.int i), .d (.int j) => k (.d (g i j))
  | _, _ => False
theorem rp_int {c : Cfg} {H : Hp} {v : V} {i : Int} (h : Rp c H v (.int i)) : v = .int i := by
  cases h
  rfl
theorem rp_bl {c : Cfg} {H : Hp} {v : V} {i : Bool} (h : Rp c H v (.bl i)) : v = .bl i := by
  cases h
  rfl
theorem rp_str {c : Cfg} {H : Hp} {v : V} {i : Str} (h : Rp c H v (.str i)) : v = .str i := by
  cases h
  rfl
theorem sl_int {c : Cfg} {H : Hp} {v : V} {i : Int} (h : SlOk c H (some v) (.d (.int i))) : v = .int i := by
  obtain ⟨w, e, r⟩ := h
  cases e
  exact rp_int r
theorem sl_bl {c : Cfg} {H : Hp} {v : V} {i : Bool} (h : SlOk c H (some v) (.d (.bl i))) : v = .bl i := by
  obtain ⟨w, e, r⟩ := h
  cases e
  exact rp_bl r
theorem sl_str {c : Cfg} {H : Hp} {v : V} {i : Str} (h : SlOk c H (some v) (.d (.str i))) : v = .str i := by
  obtain ⟨w, e, r⟩ := h
  cases e
  exact rp_str r
theorem o2_I {C : Int → Int → Prop} {f : Int → Int → V} {g : Int → Int → D} (r : ∀ i j c H, Rp c H (f i j) (g i j)) : O2 K (rI C f) (gI C g) := fun c H x y s t k Q eK hi rs rt h q => by
  unfold gI at h
  split at h
  · exact ⟨_, _, sl_int rs, sl_int rt, h.1, q _ (.d (g _ _)) H (Go.self hi) ⟨_, rfl, r _ _ c H⟩ h.2⟩
  · exact h.elim
theorem o2_I0 {f : Int → Int → V} {g : Int → Int → D} (r : ∀ i j c H, Rp c H (f i j) (g i j)) : O2 K (rI0 f) (gI0 g) := fun c H x y s t k Q eK hi rs rt h q => by
  unfold gI0 at h
  split at h
  · exact ⟨_, _, sl_int rs, sl_int rt, q _ (.d (g _ _)) H (Go.self hi) ⟨_, rfl, r _ _ c H⟩ h⟩
  · exact h.elim
section
variable {a b cc : Expr} {ta tb tc : TE} {da db dc : DE} {pos : Pos}
theorem pd_sub (x : PD X W xw a ta da) (y : PD X W xw b tb db) : PD X W xw (.BinOp a .Sub b pos) (tOp (rI0 fun i j => .int (i - j)) ta tb) (dOp (gI0 fun i j => .int (i - j)) da db) := ⟨fun tk => pe_op op_sub (x.pe tk) (y.pe tk), li_op (o2_I0 fun _ _ _ _ => .int _) x.li y.li⟩
theorem pd_mul (x : PD X W xw a ta da) (y : PD X W xw b tb db) : PD X W xw (.BinOp a .Mult b pos) (tOp (rI CMulW fun i j => .int (i * j)) ta tb) (dOp (gI CMulW fun i j => .int (i * j)) da db) := ⟨fun tk => pe_op op_mulW (x.pe tk) (y.pe tk), li_op (o2_I fun _ _ _ _ => .int _) x.li y.li⟩
theorem pd_pow (x : PD X W xw a ta da) (y : PD X W xw b tb db) : PD X W xw (.BinOp a .Pow b pos) (tOp (rI CPow fun i j => .int (i ^ j.toNat)) ta tb) (dOp (gI CPow fun i j => .int (i ^ j.toNat)) da db) := ⟨fun tk => pe_op op_pow (x.pe tk) (y.pe tk), li_op (o2_I fun _ _ _ _ => .int _) x.li y.li⟩
end
end
end Dv
set_option Elab.async false
set_option linter.all false
set_option maxRecDepth 100000
set_option maxHeartbeats 4000000
/-! De2: equality, tests, places, built-ins. -/
namespace Dv
open PySem L2
/-! ### equality of data -/
mutual
def toPy : D → PyData
  | .non => .none
  | .bl b => .bool b
  | .int i => .int i
  | .str x => .str x
  | .lst xs => .list (toPys xs)
  | .tup xs => .tuple (toPys xs)
  | .obj _ _ => .dict []
  | .dic _ => .dict []
  | .exn _ _ => .dict []
  | .scr _ => .dict []
def toPys : List D → List PyData
  | [] => []
  | x :: r => toPy x :: toPys r
end
def okD (d : D) : Bool := SeqAt.shaped (toPy d)
def deq (d e : D) : Bool := PyData.eqv (toPy d) (toPy e)
theorem rp_dp {c : Cfg} {H : Hp} {v : V} {d : D} (h : Rp c H v d) (o : (toPy d).canLay0 = true) : Dp c.K H v (toPy d) := by
  refine Rp.rec (motive_1 := fun v d _ => (toPy d).canLay0 = true → Dp c.K H v (toPy d)) (motive_2 := fun vs ds _ => PyData.canLayAll0 (toPys ds) = true → DpAll c.K H vs (toPys ds)) (motive_3 := fun _ _ _ => True) (motive_4 := fun _ _ _ => True)
    ?_ ?_ ?_ ?_ ?_ ?_ ?_ ?_ ?_ ?_ ?_ ?_ trivial ?_ trivial ?_ h o
  · exact fun _ => .non
  · exact fun b _ => .bl b
  · exact fun b _ => .int b
  · exact fun b _ => .str b
  · intro a xs ds _ s _ r o
    exact .lst (.inl (.inl s)) (r (by simpa [toPy, PyData.canLay0] using o))
  · intro a xs ds s _ r o
    simp [toPy, PyData.canLay0] at o
  · intro a xs ds s _ r o
    exact .tup s.sq (r (by simpa [toPy, PyData.canLay0] using o))
  · intro a C dx fs ds _ _ _ _ o
    simp [toPy, PyData.canLay0] at o
  · intro a kvs ds _ _ _ _ _ o
    simp [toPy, PyData.canLay0] at o
  · intro a C oe d vs ds _ _ _ _ _ _ o
    simp [toPy, PyData.canLay0] at o
  · intro _
    exact .nil
  · intro v d vs ds _ _ a b o
    have o' : (toPy d).canLay0 = true ∧ PyData.canLayAll0 (toPys ds) = true := by simpa [toPys, PyData.canLayAll0] using o
    exact .cons (a o'.1) (b o'.2)
  · intros
    trivial
  · intros
    trivial
def gEq : Sl → Sl → DK → Prop := fun s t k => match s, t with
  | .d x, .d y => okD x = true ∧ okD y = true ∧ k (.d (.bl (deq x y)))
  | _, _ => False
def gNe : Sl → Sl → DK → Prop := fun s t k => match s, t with
  | .d x, .d y => okD x = true ∧ okD y = true ∧ k (.d (.bl (!deq x y)))
  | _, _ => False
section
variable {X : Cx} {W : WX} {xw : XW} {K : PySem.W.Frag}
theorem o2_eq : O2 K (rEqD K) gEq := fun c H x y s t k Q eK hi rs rt h q => by
  unfold gEq at h
  split at h
  · rename_i x' y'
    obtain ⟨h1, h2, h3⟩ := h
    obtain ⟨w, e, r⟩ := rs
    cases e
    obtain ⟨w, e, r'⟩ := rt
    cases e
    subst eK
    exact ⟨_, _, rp_dp r (SeqAt.canLay_of_shaped h1), rp_dp r' (SeqAt.canLay_of_shaped h2), h1, h2, q _ (.d (.bl _)) H (Go.self hi) ⟨_, rfl, .bl _⟩ h3⟩
  · exact h.elim
theorem o2_ne : O2 K (rNeD K) gNe := fun c H x y s t k Q eK hi rs rt h q => by
  unfold gNe at h
  split at h
  · rename_i x' y'
    obtain ⟨h1, h2, h3⟩ := h
    obtain ⟨w, e, r⟩ := rs
    cases e
    obtain ⟨w, e, r'⟩ := rt
    cases e
    subst eK
    exact ⟨_, _, rp_dp r (SeqAt.canLay_of_shaped h1), rp_dp r' (SeqAt.canLay_of_shaped h2), h1, h2, q _ (.d (.bl _)) H (Go.self hi) ⟨_, rfl, .bl _⟩ h3⟩
  · exact h.elim
section
variable {a b cc : Expr} {ta tb tc : TE} {da db dc : DE} {pos : Pos}
theorem pd_eq (hu : X.A.units + 64 < cLine) (x : PD X W xw a ta da) (y : PD X W xw b tb db) : PD X W xw (.Compare a [.Eq] [b] pos) (tOp (rEqD X.K) ta tb) (dOp gEq da db) := ⟨fun tk => pe_cmpR (op_eqD hu) (x.pe tk) (y.pe tk) (nomark _), li_op o2_eq x.li y.li⟩
theorem pd_ne (hu : X.A.units + 64 < cLine) (x : PD X W xw a ta da) (y : PD X W xw b tb db) : PD X W xw (.Compare a [.NotEq] [b] pos) (tOp (rNeD X.K) ta tb) (dOp gNe da db) := ⟨fun tk => pe_cmpR (op_neD hu) (x.pe tk) (y.pe tk) (nomark _), li_op o2_ne x.li y.li⟩
/-! ### is None -/
def isNon : D → Bool
  | .non => true
  | _ => false
def gIsN : Sl → Sl → DK → Prop := fun s t k => match s, t with
  | .d x, .d .non => k (.d (.bl (isNon x)))
  | _, _ => False
def gNotN : Sl → Sl → DK → Prop := fun s t k => match s, t with
  | .d x, .d .non => k (.d (.bl (!isNon x)))
  | _, _ => False
theorem rp_isNon {c : Cfg} {H : Hp} {v : V} {d : D} (h : Rp c H v d) : decide (v = .non) = isNon d := by
  cases h <;> simp [isNon]
theorem sl_non {c : Cfg} {H : Hp} {v : V} (h : SlOk c H (some v) (.d .non)) : v = .non := by
  obtain ⟨w, e, r⟩ := h
  cases e
  cases r
  rfl
theorem o2_isN : O2 K (fun x y H Q => y = .non ∧ Q (.bl (decide (x = .non))) H) gIsN := fun c H x y s t k Q eK hi rs rt h q => by
  unfold gIsN at h
  split at h
  · rename_i x'
    refine ⟨sl_non rt, ?_⟩
    obtain ⟨w, e, r⟩ := rs
    cases e
    rw [rp_isNon r]
    exact q _ (.d (.bl _)) H (Go.self hi) ⟨_, rfl, .bl _⟩ h
  · exact h.elim
theorem o2_notN : O2 K (fun x y H Q => y = .non ∧ Q (.bl (!decide (x = .non))) H) gNotN := fun c H x y s t k Q eK hi rs rt h q => by
  unfold gNotN at h
  split at h
  · rename_i x'
    refine ⟨sl_non rt, ?_⟩
    obtain ⟨w, e, r⟩ := rs
    cases e
    rw [rp_isNon r]
    exact q _ (.d (.bl _)) H (Go.self hi) ⟨_, rfl, .bl _⟩ h
  · exact h.elim
theorem pd_isN (x : PD X W xw a ta da) (y : PD X W xw b tb db) : PD X W xw (.Compare a [.Is] [b] pos) (tOp (fun x y H Q => y = .non ∧ Q (.bl (decide (x = .non))) H) ta tb) (dOp gIsN da db) := ⟨fun tk => pe_cmpR op_isN (x.pe tk) (y.pe tk) (nomark _), li_op o2_isN x.li y.li⟩
theorem pd_notN (x : PD X W xw a ta da) (y : PD X W xw b tb db) : PD X W xw (.Compare a [.IsNot] [b] pos) (tOp (fun x y H Q => y = .non ∧ Q (.bl (!decide (x = .non))) H) ta tb) (dOp gNotN da db) := ⟨fun tk => pe_cmpR op_notN (x.pe tk) (y.pe tk) (nomark _), li_op o2_notN x.li y.li⟩
/-! ### a op b op c -/
def dChain (g g' : Sl → Sl → DK → Prop) (a b c : DE) : DE := fun Γ k => a Γ fun s => b Γ fun t => g s t fun z => match z with
  | .d (.bl true) => c Γ fun u => g' t u k
  | .d (.bl false) => k (.d (.bl false))
  | _ => False
theorem li_chain {r r' : R2} {g g' : Sl → Sl → DK → Prop} (o : O2 K r g) (o' : O2 K r' g') (ha : Li K W xw ta da) (hb : Li K W xw tb db) (hc : Li K W xw tc dc) : Li K W xw (tChain r r' ta tb tc) (dChain g g' da db dc) := fun c eK hW Γ k h σ H st Q q =>
  ha c eK hW Γ _ h σ H st _ fun v s H1 g1 r1 h1 => hb c eK hW Γ _ h1 σ H1 (st.go g1) _ fun u t H2 g2 r2 h2 =>
    o c H2 v u s t _ _ eK g2.inv (r1.go g2.keep) r2 h2 fun z w H3 g3 r3 h3 => by
      have g13 := (g1.trans g2).trans g3
      try dsimp only at h3
      split at h3
      · refine ⟨true, sl_bl r3, ?_⟩
        rw [if_pos rfl]
        exact hc c eK hW Γ _ h3 σ H3 (st.go g13) _ fun y w H4 g4 r4 h4 => o' c H4 u y t w k Q eK g4.inv ((r2.go g3.keep).go g4.keep) r4 h4 fun z1 w1 H5 g5 r5 h5 => q z1 w1 H5 ((g13.trans g4).trans g5) r5 h5
      · refine ⟨false, sl_bl r3, ?_⟩
        rw [if_neg Bool.false_ne_true]
        exact q _ (.d (.bl false)) H3 g13 ⟨_, rfl, .bl _⟩ h3
      · exact h3.elim
def gLe := gI0 fun i j => .bl (decide (i ≤ j))
theorem pd_chLeLe (x : PD X W xw a ta da) (y : PD X W xw b tb db) (z : PD X W xw cc tc dc) (hm : lastMarks [.LtE, .LtE] [b, cc] = false := by with_unfolding_all rfl) : PD X W xw (.Compare a [.LtE, .LtE] [b, cc] pos) (tChain (rI0 fun i j => .bl (decide (i ≤ j))) (rI0 fun i j => .bl (decide (i ≤ j))) ta tb tc) (dChain gLe gLe da db dc) :=
  ⟨fun tk => pe_chain op_le op_le (x.pe tk) (y.pe tk) (z.pe tk) hm, li_chain (o2_I0 fun _ _ _ _ => .bl _) (o2_I0 fun _ _ _ _ => .bl _) x.li y.li z.li⟩
/-! ### tests -/
def dB (a : DE) : DT := fun Γ k => a Γ fun s => match s with
  | .d (.bl b) => k b
  | _ => False
theorem li_b {t : TE} {d : DE} (h : Li K W xw t d) : LiT K W xw (tB t) (dB d) := fun c eK hW Γ k hk σ H st Q q => h c eK hW Γ _ hk σ H st _ fun v s H1 g1 r1 h1 => by
  try dsimp only at h1
  split at h1
  · exact ⟨_, sl_bl r1, q _ H1 g1 h1⟩
  · exact h1.elim
theorem pdt_val (h : PD X W xw a ta da) (he : ∀ whole, isTrue a X.env whole = (do let v ← whole; standAt a.pos; holding [v] (truthy v)) := by intro _; rfl) : PDT X W xw a (tB ta) (dB da) := ⟨fun tk => pt_val (h.pe tk) he, li_b h.li⟩
/-- a comparison as a test -/
theorem pdt_cmp {op : CmpOp} {r : R2} {g : Sl → Sl → DK → Prop} (ho : OpR X (compareOp op) r) (o : O2 X.K r g) (x : PD X W xw a ta da) (y : PD X W xw b tb db) (hm : behindInMarks op b = false) : PDT X W xw (.Compare a [op] [b] pos) (tTest (tOp r ta tb)) (dB (dOp g da db)) :=
  ⟨fun tk => pt_cmpR ho (x.pe tk) (y.pe tk) hm, li_b (li_op o x.li y.li)⟩
def dAnd (t u : DT) : DT := fun Γ k => t Γ fun b => cond b (u Γ k) (k false)
def dOr (t u : DT) : DT := fun Γ k => t Γ fun b => cond b (k true) (u Γ k)
def dNot (t : DT) : DT := fun Γ k => t Γ fun b => k (!b)
section
variable {t u : TT} {d e : DT} {rest : List Expr}
theorem pdw_pt (h : PDW X W xw a t d) : PDT X W xw a t d := ⟨fun tk => (h.pw tk).pt, h.li⟩
theorem pdw_and1 (h : PDT X W xw a t d) : PDW X W xw (.BoolOp .And [a] pos) t d := ⟨fun tk => pw_and1 (h.pt tk), h.li⟩
theorem pdw_or1 (h : PDT X W xw a t d) : PDW X W xw (.BoolOp .Or [a] pos) t d := ⟨fun tk => pw_or1 (h.pt tk), h.li⟩
theorem pdw_and (h : PDT X W xw a t d) (h' : PDW X W xw (.BoolOp .And (b :: rest) pos) u e) : PDW X W xw (.BoolOp .And (a :: b :: rest) pos) (tAnd t u) (dAnd d e) :=
  ⟨fun tk => pw_and (h.pt tk) (h'.pw tk), fun c eK hW Γ k hk σ H st Q q => h.li c eK hW Γ _ hk σ H st _ fun v H1 g1 h1 => by
    cases v
    · rw [if_neg Bool.false_ne_true]
      exact q false H1 g1 h1
    · rw [if_pos rfl]
      exact h'.li c eK hW Γ _ h1 σ H1 (st.go g1) _ fun w H2 g2 h2 => q w H2 (g1.trans g2) h2⟩
theorem pdw_or (h : PDT X W xw a t d) (h' : PDW X W xw (.BoolOp .Or (b :: rest) pos) u e) : PDW X W xw (.BoolOp .Or (a :: b :: rest) pos) (tOr t u) (dOr d e) :=
  ⟨fun tk => pw_or (h.pt tk) (h'.pw tk), fun c eK hW Γ k hk σ H st Q q => h.li c eK hW Γ _ hk σ H st _ fun v H1 g1 h1 => by
    cases v
    · rw [if_neg Bool.false_ne_true]
      exact h'.li c eK hW Γ _ h1 σ H1 (st.go g1) _ fun w H2 g2 h2 => q w H2 (g1.trans g2) h2
    · rw [if_pos rfl]
      exact q true H1 g1 h1⟩
theorem pdt_not (h : PDT X W xw a t d) : PDT X W xw (.UnaryOp .Not a pos) (tNot t) (dNot d) := ⟨fun tk => pt_not (h.pt tk), fun c eK hW Γ k hk σ H st Q q => h.li c eK hW Γ _ hk σ H st _ fun v H1 g1 h1 => q (!v) H1 g1 h1⟩
/-! ### and, or, not as values -/
def dAndV (a b : DE) : DE := fun Γ k => a Γ fun s => match s with
  | .d (.bl true) => b Γ k
  | .d (.bl false) => k (.d (.bl false))
  | _ => False
def dOrV (a b : DE) : DE := fun Γ k => a Γ fun s => match s with
  | .d (.bl true) => k (.d (.bl true))
  | .d (.bl false) => b Γ k
  | _ => False
def dNotV (a : DE) : DE := fun Γ k => a Γ fun s => match s with
  | .d (.bl b) => k (.d (.bl (!b)))
  | _ => False
theorem pd_one {op} (h : PD X W xw a ta da) : PD X W xw (.BoolOp op [a] pos) ta da := ⟨fun tk => pe_one (h.pe tk), h.li⟩
theorem pd_and (h : PD X W xw a ta da) (h' : PD X W xw (.BoolOp .And (b :: rest) pos) tb db) : PD X W xw (.BoolOp .And (a :: b :: rest) pos) (tAndV ta tb) (dAndV da db) :=
  ⟨fun tk => pe_and (h.pe tk) (h'.pe tk), fun c eK hW Γ k hk σ H st Q q => h.li c eK hW Γ _ hk σ H st _ fun v s H1 g1 r1 h1 => by
    try dsimp only at h1
    split at h1
    · refine ⟨true, sl_bl r1, ?_⟩
      rw [if_pos rfl]
      exact h'.li c eK hW Γ _ h1 σ H1 (st.go g1) _ fun w s2 H2 g2 r2 h2 => q w s2 H2 (g1.trans g2) r2 h2
    · refine ⟨false, sl_bl r1, ?_⟩
      rw [if_neg Bool.false_ne_true]
      exact q _ (.d (.bl false)) H1 g1 ⟨_, rfl, .bl _⟩ h1
    · exact h1.elim⟩
theorem pd_or (h : PD X W xw a ta da) (h' : PD X W xw (.BoolOp .Or (b :: rest) pos) tb db) : PD X W xw (.BoolOp .Or (a :: b :: rest) pos) (tOrV ta tb) (dOrV da db) :=
  ⟨fun tk => pe_or (h.pe tk) (h'.pe tk), fun c eK hW Γ k hk σ H st Q q => h.li c eK hW Γ _ hk σ H st _ fun v s H1 g1 r1 h1 => by
    try dsimp only at h1
    split at h1
    · refine ⟨true, sl_bl r1, ?_⟩
      rw [if_pos rfl]
      exact q _ (.d (.bl true)) H1 g1 ⟨_, rfl, .bl _⟩ h1
    · refine ⟨false, sl_bl r1, ?_⟩
      rw [if_neg Bool.false_ne_true]
      exact h'.li c eK hW Γ _ h1 σ H1 (st.go g1) _ fun w s2 H2 g2 r2 h2 => q w s2 H2 (g1.trans g2) r2 h2
    · exact h1.elim⟩
theorem pd_not (h : PD X W xw a ta da) : PD X W xw (.UnaryOp .Not a pos) (tNotV ta) (dNotV da) :=
  ⟨fun tk => pe_not (h.pe tk), fun c eK hW Γ k hk σ H st Q q => h.li c eK hW Γ _ hk σ H st _ fun v s H1 g1 r1 h1 => by
    try dsimp only at h1
    split at h1
    · exact ⟨_, sl_bl r1, q _ (.d (.bl _)) H1 g1 ⟨_, rfl, .bl _⟩ h1⟩
    · exact h1.elim⟩
def dIf (t : DT) (a b : DE) : DE := fun Γ k => t Γ fun v => cond v (a Γ k) (b Γ k)
theorem pd_ifExp {c0 : Expr} (hc : PDT X W xw c0 t d) (ha : PD X W xw a ta da) (hb : PD X W xw b tb db) : PD X W xw (.IfExp c0 a b pos) (tIf t ta tb) (dIf d da db) :=
  ⟨fun tk => pe_ifExp (hc.pt tk) (ha.pe tk) (hb.pe tk), fun c eK hW Γ k hk σ H st Q q => hc.li c eK hW Γ _ hk σ H st _ fun v H1 g1 h1 => by
    cases v
    · rw [if_neg Bool.false_ne_true]
      exact hb.li c eK hW Γ _ h1 σ H1 (st.go g1) _ fun w s2 H2 g2 r2 h2 => q w s2 H2 (g1.trans g2) r2 h2
    · rw [if_pos rfl]
      exact ha.li c eK hW Γ _ h1 σ H1 (st.go g1) _ fun w s2 H2 g2 r2 h2 => q w s2 H2 (g1.trans g2) r2 h2⟩
end
/-! ### -a -/
def dUnI (f : Int → Int) (a : DE) : DE := fun Γ k => a Γ fun s => match s with
  | .d (.int i) => k (.d (.int (f i)))
  | _ => False
theorem pd_neg (h : PD X W xw a ta da) : PD X W xw (.UnaryOp .USub a pos) (tUn (rU fun i => .int (-i)) ta) (dUnI (fun i => -i) da) :=
  ⟨fun tk => pe_un un_neg (h.pe tk), fun c eK hW Γ k hk σ H st Q q => h.li c eK hW Γ _ hk σ H st _ fun v s H1 g1 r1 h1 => by
    try dsimp only at h1
    split at h1
    · exact ⟨_, sl_int r1, q _ (.d (.int _)) H1 g1 ⟨_, rfl, .int _⟩ h1⟩
    · exact h1.elim⟩
/-! ### x[i] -/
def gIx : Sl → Sl → DK → Prop := fun s t k => match s, t with
  | .d (.lst xs), .d (.int i) => match atI xs i with
    | some x => k (.d x)
    | none => False
  | .d (.tup xs), .d (.int i) => match atI xs i with
    | some x => k (.d x)
    | none => False
  | .d (.scr xs), .d (.int i) => match atI xs i with
    | some x => k (.d x)
    | none => False
  | .d (.str z), .d (.int i) => match atI z.cps.toList i with
    | some x => z.length ≤ 100000 ∧ k (.d (.str ⟨#[x]⟩))
    | none => False
  | _, _ => False
theorem atI_rp {c : Cfg} {H : Hp} {vs : List V} {ds : List D} {i : Int} {d : D} (r : RpAll c H vs ds) (e : atI ds i = some d) : ∃ v, atI vs i = some v ∧ Rp c H v d := by
  unfold atI at e ⊢
  rw [r.length]
  cases z : ixN ds.length i with
  | none =>
    rw [z] at e
    cases e
  | some j =>
    rw [z] at e
    obtain ⟨v, h1, h2⟩ := r.get e
    exact ⟨v, h1, h2⟩
theorem o2_ix : O2 K (rIx K) gIx := fun c H x y s t k Q eK hi rs rt h q => by
  subst eK
  unfold gIx at h
  split at h
  · split at h
    · rename_i z e
      obtain ⟨w, ew, r⟩ := rs
      cases ew
      cases r with
      | lst nf il0 ra =>
        have il := (show Rd _ _ _ from Or.inl il0)
        obtain ⟨v, h1, h2⟩ := atI_rp ra e
        exact .inl ⟨_, _, _, v, rfl, sl_int rt, .inl il, h1, q _ (.d z) H (Go.self hi) ⟨_, rfl, h2⟩ h⟩
    · exact h.elim
  · split at h
    · rename_i z e
      obtain ⟨w, ew, r⟩ := rs
      cases ew
      cases r with
      | tup il ra =>
        obtain ⟨v, h1, h2⟩ := atI_rp ra e
        exact .inr (.inl ⟨_, _, _, v, rfl, sl_int rt, il.sq, h1, q _ (.d z) H (Go.self hi) ⟨_, rfl, h2⟩ h⟩)
    · exact h.elim
  · split at h
    · rename_i z e
      obtain ⟨w, ew, r⟩ := rs
      cases ew
      cases r with
      | scr il ra =>
        obtain ⟨v, h1, h2⟩ := atI_rp ra e
        exact .inl ⟨_, _, _, v, rfl, sl_int rt, il.sq, h1, q _ (.d z) H (Go.self hi) ⟨_, rfl, h2⟩ h⟩
    · exact h.elim
  · split at h
    · rename_i z e
      exact .inr (.inr ⟨_, _, _, sl_str rs, sl_int rt, sz h.1, e, q _ (.d (.str _)) H (Go.self hi) ⟨_, rfl, .str _⟩ h.2⟩)
    · exact h.elim
  · exact h.elim
theorem pd_ix (x : PD X W xw a ta da) (y : PD X W xw b tb db) (hs : PlainIx b := by intro _ _; rfl) : PD X W xw (.Subscript a b pos) (tOp (rIx X.K) ta tb) (dOp gIx da db) := ⟨fun tk => pe_ix ix_seq (x.pe tk) (y.pe tk) hs, li_op o2_ix x.li y.li⟩
/-! ### a + b of ints, texts, lists, tuples -/
def gAdd : Sl → Sl → DK → Prop := fun s t k => match s, t with
  | .d (.int i), .d (.int j) => k (.d (.int (i + j)))
  | .d (.str x), .d (.str y) => x.length + y.length ≤ 100000 ∧ k (.d (.str (x ++ y)))
  | .d (.lst xs), .d (.lst ys) => xs.length + ys.length ≤ 100000 ∧ k (.d (.lst (xs ++ ys)))
  | .d (.tup xs), .d (.tup ys) => xs.length + ys.length ≤ 100000 ∧ k (.d (.tup (xs ++ ys)))
  | _, _ => False
def rCatR : R2 := fun x y H Q => ∃ l b xs zs, x = .ref l ∧ y = .ref b ∧ Rd H l (.lst xs) ∧ Rd H b (.lst zs) ∧ xs.length + zs.length ≤ sizeLine ∧ ∀ p, H p = none → Q (.ref p) (upd H p (.lst (xs ++ zs)))
theorem rd_lst {pins : List (Addr × Obj)} {σ : St} {H : Hp} {sh : Shared} {l : Addr} {xs : List V} (I : Inv X pins σ H sh) (h : Rd H l (.lst xs)) : ∃ (its : List Value) (n : Nat), Vals xs its ∧ sh.heap.get? l = some { cls := .type "list", data := .seq its.toArray n } := by
  rcases h with h | ⟨o, h⟩
  · obtain ⟨_, its, n, r, e⟩ := I.hok l _ h
    exact ⟨its, n, r, e⟩
  · obtain ⟨_, _, its, n, r, e⟩ := I.hok l _ h
    exact ⟨its, n, r, e⟩
theorem op_catR : OpR X (binaryOp .Add) rCatR := by
  intro pins s σ H x y v u Q I rx ry h
  obtain ⟨l, b, xs, zs, rfl, rfl, hH, hB, hz, q⟩ := h
  cases rx
  cases ry
  obtain ⟨its, n, r, e⟩ := rd_lst I hH
  obtain ⟨its2, n2, r2, e2⟩ := rd_lst I hB
  refine PySem.P.add_list e e2 ?_ (by rw [List.size_toArray, List.size_toArray, ← r.length, ← r2.length]; omega)
  have ea : its.toArray ++ its2.toArray = (its ++ its2).toArray := by simp
  rw [ea]
  exact ⟨.ref _, _, I.lnew (t' := s.toks) (r.append r2) (by rw [List.length_append]; omega), rfl, q _ I.fresh⟩
abbrev rAddA (K : PySem.W.Frag) : R2 := fun x y H Q => rI0 (fun i j => .int (i + j)) x y H Q ∨ ((∃ i j, x = .str i ∧ y = .str j ∧ i.length + j.length ≤ sizeLine ∧ Q (.str (i ++ j)) H) ∨ (rCatR x y H Q ∨ rCatA K x y H Q))
theorem op_addA : OpR X (binaryOp .Add) (rAddA X.K) := op_add.or (op_add_str.or (op_catR.or op_catA))
theorem o2_add : O2 K (rAddA K) gAdd := fun c H x y s t k Q eK hi rs rt h q => by
  subst eK
  unfold gAdd at h
  split at h
  · exact .inl ⟨_, _, sl_int rs, sl_int rt, q _ (.d (.int _)) H (Go.self hi) ⟨_, rfl, .int _⟩ h⟩
  · exact .inr (.inl ⟨_, _, sl_str rs, sl_str rt, sz h.1, q _ (.d (.str _)) H (Go.self hi) ⟨_, rfl, .str _⟩ h.2⟩)
  · obtain ⟨w, ew, r⟩ := rs
    cases ew
    obtain ⟨w, ew, r'⟩ := rt
    cases ew
    cases r with
    | lst nf il0 ra =>
      have il := (show Rd _ _ _ from Or.inl il0)
      cases r' with
      | lst nf' il' ra' => exact .inr (.inr (.inl ⟨_, _, _, _, rfl, rfl, il, (Or.inl il'), by rw [ra.length, ra'.length]; exact sz h.1, fun p np => q _ (.d (.lst _)) _ (Go.new hi np) ⟨_, rfl, rp_newL hi np (ra.append ra')⟩ h.2⟩))
  · obtain ⟨w, ew, r⟩ := rs
    cases ew
    obtain ⟨w, ew, r'⟩ := rt
    cases ew
    cases r with
    | tup il ra =>
      cases r' with
      | tup il' ra' =>
        refine .inr (.inr (.inr ⟨_, _, _, _, rfl, rfl, il.sq, il'.sq, by rw [ra.length, ra'.length]; exact sz h.1, fun e => ?_, fun _ e => ?_, fun _ _ p np => q _ (.d (.tup _)) _ (Go.new hi np) ⟨_, rfl, rp_newT hi np (ra.append ra')⟩ h.2⟩))
        · subst e
          cases ra
          exact q _ (.d (.tup _)) H (Go.self hi) ⟨_, rfl, .tup il' ra'⟩ h.2
        · subst e
          cases ra'
          have z := h.2
          rw [List.append_nil] at z
          exact q _ (.d (.tup _)) H (Go.self hi) ⟨_, rfl, .tup il ra⟩ z
  · exact h.elim
theorem pd_add (x : PD X W xw a ta da) (y : PD X W xw b tb db) : PD X W xw (.BinOp a .Add b pos) (tOp (rAddA X.K) ta tb) (dOp gAdd da db) := ⟨fun tk => pe_op op_addA (x.pe tk) (y.pe tk), li_op o2_add x.li y.li⟩
/-! ### comparisons as tests -/
theorem pdt_gt (x : PD X W xw a ta da) (y : PD X W xw b tb db) : PDT X W xw (.Compare a [.Gt] [b] pos) (tTest (tOp (rI0 fun i j => .bl (decide (j < i))) ta tb)) (dB (dOp (gI0 fun i j => .bl (decide (j < i))) da db)) := pdt_cmp op_gt (o2_I0 fun _ _ _ _ => .bl _) x y (nomark _)
theorem pdt_eq (hu : X.A.units + 64 < cLine) (x : PD X W xw a ta da) (y : PD X W xw b tb db) : PDT X W xw (.Compare a [.Eq] [b] pos) (tTest (tOp (rEqD X.K) ta tb)) (dB (dOp gEq da db)) := pdt_cmp (op_eqD hu) o2_eq x y (nomark _)
theorem pdt_ne (hu : X.A.units + 64 < cLine) (x : PD X W xw a ta da) (y : PD X W xw b tb db) : PDT X W xw (.Compare a [.NotEq] [b] pos) (tTest (tOp (rNeD X.K) ta tb)) (dB (dOp gNe da db)) := pdt_cmp (op_neD hu) o2_ne x y (nomark _)
theorem pdt_isN (x : PD X W xw a ta da) (y : PD X W xw b tb db) : PDT X W xw (.Compare a [.Is] [b] pos) (tTest (tOp (fun x y H Q => y = .non ∧ Q (.bl (decide (x = .non))) H) ta tb)) (dB (dOp gIsN da db)) := pdt_cmp op_isN o2_isN x y (nomark _)
theorem pdt_notN (x : PD X W xw a ta da) (y : PD X W xw b tb db) : PDT X W xw (.Compare a [.IsNot] [b] pos) (tTest (tOp (fun x y H Q => y = .non ∧ Q (.bl (!decide (x = .non))) H) ta tb)) (dB (dOp gNotN da db)) := pdt_cmp op_notN o2_notN x y (nomark _)
theorem pdt_chLeLe (x : PD X W xw a ta da) (y : PD X W xw b tb db) (z : PD X W xw cc tc dc) (hm : lastMarks [.LtE, .LtE] [b, cc] = false := by with_unfolding_all rfl) : PDT X W xw (.Compare a [.LtE, .LtE] [b, cc] pos) (tTest (tChain (rI0 fun i j => .bl (decide (i ≤ j))) (rI0 fun i j => .bl (decide (i ≤ j))) ta tb tc)) (dB (dChain gLe gLe da db dc)) :=
  ⟨fun tk => pt_chain op_le op_le (x.pe tk) (y.pe tk) (z.pe tk) hm, li_b (li_chain (o2_I0 fun _ _ _ _ => .bl _) (o2_I0 fun _ _ _ _ => .bl _) x.li y.li z.li)⟩
end
end
end Dv
set_option Elab.async false
set_option linter.all false
set_option maxRecDepth 100000
set_option maxHeartbeats 4000000
/-! De3: calls of built-ins, walks, comprehensions. -/
namespace Dv
open PySem L2
section
variable {X : Cx} {W : WX} {xw : XW} {K : PySem.W.Frag}
/-! ### calls of built-ins -/
def OC (K : PySem.W.Frag) (r : List V → Hp → VK → Prop) (g : List Sl → DK → Prop) : Prop := ∀ (c : Cfg) (H : Hp) (vs : List V) (ss : List Sl) (k : DK) (Q : VK), c.K = K → c.I H → Paired (fun v s => SlOk c H (some v) s) vs ss → g ss k →
  (∀ v u H2, Go c H H2 → SlOk c H2 (some v) u → k u → Q v H2) → r vs H Q
def dCB (g : List Sl → DK → Prop) (a : DA) : DE := fun Γ k => a Γ fun ss => g ss k
theorem li_cb {r : List V → Hp → VK → Prop} {g : List Sl → DK → Prop} {ta : TA} {da : DA} (o : OC K r g) (h : LiA K W xw ta da) : Li K W xw (tCB r ta) (dCB g da) := fun c eK hW Γ k hk σ H st Q q =>
  h c eK hW Γ _ hk σ H st _ fun vs ss H1 g1 r1 h1 => o c H1 vs ss k Q eK g1.inv r1 h1 fun v u H2 g2 r2 h2 => q v u H2 (g1.trans g2) r2 h2
section
variable {x : Str} {p pos : Pos} {e : Expr} {es : List Expr} {ta : TA} {da : DA} {id T : String} {r : List V → Hp → VK → Prop} {g : List Sl → DK → Prop}
theorem pd_callB (hc : CallR X (.builtin id) r) (o : OC X.K r g) (hm : X.mg x = none) (hv : bootBuiltins x = some (.builtin id)) (a : PDA X W xw (e :: es) ta da) (hg : Gl X x := by rfl) (hn : x ≠ "__name__" := by decide) (hdb : (x == ("__debug__" : Str)) = false := by decide)
    (he : starEach (e :: es) X.env = (false, eval e X.env) :: starEach es X.env := by rfl) (hpl : (backTo pos (starEach es X.env)).any (·.1) = false := by rfl) : PD X W xw (.Call (.Name x p) (e :: es) [] pos) (tCB r ta) (dCB g da) :=
  ⟨fun tk => pe_callB hc hg hm hv (a.pa tk) hn hdb he hpl, li_cb o a.li⟩
theorem pd_callTy (hc : CallR X (.type T) r) (o : OC X.K r g) (hm : X.mg x = none) (hv : bootBuiltins x = some (.type T)) (a : PDA X W xw (e :: es) ta da) (hg : Gl X x := by rfl) (hn : x ≠ "__name__" := by decide) (hdb : (x == ("__debug__" : Str)) = false := by decide)
    (he : starEach (e :: es) X.env = (false, eval e X.env) :: starEach es X.env := by rfl) (hpl : (backTo pos (starEach es X.env)).any (·.1) = false := by rfl) : PD X W xw (.Call (.Name x p) (e :: es) [] pos) (tCB r ta) (dCB g da) :=
  ⟨fun tk => pe_callTy hc hg hm hv (a.pa tk) hn hdb he hpl, li_cb o a.li⟩
end
theorem paired1 {F : V → Sl → Prop} {vs : List V} {s : Sl} (h : Paired F vs [s]) : ∃ v, vs = [v] ∧ F v s := by
  cases h with
  | cons a b =>
    cases b
    exact ⟨_, rfl, a⟩
theorem paired2 {F : V → Sl → Prop} {vs : List V} {s t : Sl} (h : Paired F vs [s, t]) : ∃ v w, vs = [v, w] ∧ F v s ∧ F w t := by
  cases h with
  | cons a b =>
    obtain ⟨w, rfl, q⟩ := paired1 b
    exact ⟨_, _, rfl, a, q⟩
/-- len -/
def gLen : List Sl → DK → Prop := fun ss k => match ss with
  | [.d (.lst xs)] => k (.d (.int xs.length))
  | [.d (.tup xs)] => k (.d (.int xs.length))
  | [.d (.scr xs)] => k (.d (.int xs.length))
  | [.d (.str z)] => z.length ≤ 100000 ∧ k (.d (.int z.length))
  | _ => False
theorem oc_len : OC K (fun xs H Q => ∃ x n, xs = [x] ∧ LenV K x H n ∧ Q (.int n) H) gLen := fun c H vs ss k Q eK hi r h q => by
  subst eK
  unfold gLen at h
  split at h
  · obtain ⟨v, rfl, w, e, rr⟩ := paired1 r
    cases e
    cases rr with
    | lst nf il ra => exact ⟨_, _, rfl, .inl ⟨_, .inl (Or.inl il), rfl⟩, q _ (.d (.int _)) H (Go.self hi) ⟨_, rfl, by rw [ra.length]; exact .int _⟩ h⟩
  · obtain ⟨v, rfl, w, e, rr⟩ := paired1 r
    cases e
    cases rr with
    | tup il ra => exact ⟨_, _, rfl, .inr ⟨_, il.sq, rfl⟩, q _ (.d (.int _)) H (Go.self hi) ⟨_, rfl, by rw [ra.length]; exact .int _⟩ h⟩
  · obtain ⟨v, rfl, w, e, rr⟩ := paired1 r
    cases e
    cases rr with
    | scr il ra => exact ⟨_, _, rfl, .inl ⟨_, il.sq, rfl⟩, q _ (.d (.int _)) H (Go.self hi) ⟨_, rfl, by rw [ra.length]; exact .int _⟩ h⟩
  · obtain ⟨v, rfl, rr⟩ := paired1 r
    have e := sl_str rr
    subst e
    exact ⟨_, _, rfl, ⟨sz h.1, rfl⟩, q _ (.d (.int _)) H (Go.self hi) ⟨_, rfl, .int _⟩ h.2⟩
  · exact h.elim
/-- all, any of a list of truths -/
def unB : List D → Option (List Bool)
  | [] => some []
  | .bl b :: r => (unB r).map (b :: ·)
  | _ :: _ => none
theorem unB_ok {c : Cfg} {H : Hp} : ∀ {vs : List V} {ds : List D} {bs : List Bool}, RpAll c H vs ds → unB ds = some bs → vs = bs.map V.bl
  | _, _, _, .nil, e => by
    cases e
    rfl
  | _, d :: ds, bs, .cons r t, e => by
    cases d <;> first | cases e; done | skip
    rw [unB, Option.map_eq_some_iff] at e
    obtain ⟨es, e1, e2⟩ := e
    subst e2
    rw [unB_ok t e1, rp_bl r]
    rfl
def gAll : List Sl → DK → Prop := fun ss k => match ss with
  | [.d (.lst xs)] => match unB xs with
    | some bs => k (.d (.bl (bs.all id)))
    | none => False
  | _ => False
theorem oc_all : OC K (rAll K) gAll := fun c H vs ss k Q eK hi r h q => by
  subst eK
  unfold gAll at h
  split at h
  · split at h
    · rename_i bs e
      obtain ⟨v, rfl, w, ew, rr⟩ := paired1 r
      cases ew
      cases rr with
      | lst nf il0 ra =>
        have il := (show Rd _ _ _ from Or.inl il0)
        have z : SqL c.K H _ _ := .inl il
        rw [unB_ok ra e] at z
        exact ⟨_, bs, rfl, z, q _ (.d (.bl _)) H (Go.self hi) ⟨_, rfl, .bl _⟩ h⟩
    · exact h.elim
  · exact h.elim
/-- max, min of two ints, abs -/
def gI2 (f : Int → Int → Int) : List Sl → DK → Prop := fun ss k => match ss with
  | [.d (.int i), .d (.int j)] => k (.d (.int (f i j)))
  | _ => False
theorem oc_I2 {f : Int → Int → Int} : OC K (fun xs H Q => ∃ i j, xs = [.int i, .int j] ∧ Q (.int (f i j)) H) (gI2 f) := fun c H vs ss k Q eK hi r h q => by
  unfold gI2 at h
  split at h
  · obtain ⟨v, w, rfl, rr, r2⟩ := paired2 r
    have e := sl_int rr
    subst e
    have e := sl_int r2
    subst e
    exact ⟨_, _, rfl, q _ (.d (.int _)) H (Go.self hi) ⟨_, rfl, .int _⟩ h⟩
  · exact h.elim
/-! ### isinstance with a built-in class -/
inductive Ty where
  | int | bool | str | list | tuple | dict
def Ty.nm : Ty → String
  | .int => "int"
  | .bool => "bool"
  | .str => "str"
  | .list => "list"
  | .tuple => "tuple"
  | .dict => "dict"
def isTy : Ty → D → Bool
  | .int, .int _ => true
  | .int, .bl _ => true
  | .bool, .bl _ => true
  | .str, .str _ => true
  | .list, .lst _ => true
  | .tuple, .tup _ => true
  | .dict, .dic _ => true
  | _, _ => false
def isObj : D → Bool
  | .obj _ _ => true
  | .exn _ _ => true
  | .scr _ => true
  | _ => false
def gIs (T : Ty) : List Sl → DK → Prop := fun ss k => match ss with
  | [.d x, .v (.ty n)] => n = T.nm ∧ isObj x = false ∧ k (.d (.bl (isTy T x)))
  | _ => False
theorem kitN {K : PySem.W.Frag} (T : Ty) : PySem.W.kitOne K (.type "NoneType") (.type T.nm) = some false := by cases T <;> first | exact kit_ty (show kitB _ _ = some true from by decide +kernel) | exact kit_ty (show kitB _ _ = some false from by decide +kernel)
theorem kitBl {K : PySem.W.Frag} (T : Ty) (b : Bool) : PySem.W.kitOne K (.type "bool") (.type T.nm) = some (isTy T (.bl b)) := by cases T <;> first | exact kit_ty (show kitB _ _ = some true from by decide +kernel) | exact kit_ty (show kitB _ _ = some false from by decide +kernel)
theorem kitI {K : PySem.W.Frag} (T : Ty) (b : Int) : PySem.W.kitOne K (.type "int") (.type T.nm) = some (isTy T (.int b)) := by cases T <;> first | exact kit_ty (show kitB _ _ = some true from by decide +kernel) | exact kit_ty (show kitB _ _ = some false from by decide +kernel)
theorem kitS {K : PySem.W.Frag} (T : Ty) (b : Str) : PySem.W.kitOne K (.type "str") (.type T.nm) = some (isTy T (.str b)) := by cases T <;> first | exact kit_ty (show kitB _ _ = some true from by decide +kernel) | exact kit_ty (show kitB _ _ = some false from by decide +kernel)
theorem kitL {K : PySem.W.Frag} (T : Ty) (b : List D) : PySem.W.kitOne K (.type "list") (.type T.nm) = some (isTy T (.lst b)) := by cases T <;> first | exact kit_ty (show kitB _ _ = some true from by decide +kernel) | exact kit_ty (show kitB _ _ = some false from by decide +kernel)
theorem kitT {K : PySem.W.Frag} (T : Ty) (b : List D) : PySem.W.kitOne K (.type "tuple") (.type T.nm) = some (isTy T (.tup b)) := by cases T <;> first | exact kit_ty (show kitB _ _ = some true from by decide +kernel) | exact kit_ty (show kitB _ _ = some false from by decide +kernel)
theorem kitD {K : PySem.W.Frag} (T : Ty) (b : List (Key × D)) : PySem.W.kitOne K (.type "dict") (.type T.nm) = some (isTy T (.dic b)) := by cases T <;> first | exact kit_ty (show kitB _ _ = some true from by decide +kernel) | exact kit_ty (show kitB _ _ = some false from by decide +kernel)
/-- a type for what is no object of an own class -/
theorem rp_ty {c : Cfg} {H : Hp} {v : V} {d : D} (h : Rp c H v d) (n : isObj d = false) : ∃ t, TyX c.K H v t ∧ ∀ T : Ty, PySem.W.kitOne c.K t (.type T.nm) = some (isTy T d) := by
  cases h with
  | non => exact ⟨_, .base .non, fun T => by cases T <;> exact kitN _⟩
  | bl b => exact ⟨_, .base (.bl _), fun T => kitBl T b⟩
  | int b => exact ⟨_, .base (.int _), fun T => kitI T b⟩
  | str b => exact ⟨_, .base (.str _), fun T => kitS T b⟩
  | @lst a xs ds nf il ra =>
    refine ⟨.type "list", ?_, fun T => kitL T ds⟩
    exact .base (.lst il)
  | scr _ _ => cases n
  | @tup a xs ds il ra =>
    refine ⟨.type "tuple", ?_, fun T => kitT T ds⟩
    rcases il with ⟨_, il | ⟨o, il⟩⟩ | ⟨o, _, _, e, cl, _⟩
    · exact .base (.tup il)
    · exact .fTuple il
    · exact .kTuple e cl
  | obj _ _ _ => cases n
  | exn _ _ _ _ _ => cases n
  | @dic a kvs ds ob nf il ra =>
    refine ⟨.type "dict", ?_, fun T => kitD T ds⟩
    exact .fDict il
theorem oc_is (T : Ty) : OC K (rIsi K) (gIs T) := fun c H vs ss k Q eK hi r h q => by
  subst eK
  unfold gIs at h
  split at h
  · rename_i x n
    obtain ⟨v, w, rfl, ⟨z, ez, rr⟩, r2⟩ := paired2 r
    cases ez
    have ew : w = .ty n := Option.some.inj r2
    subst ew
    obtain ⟨en, no, hk⟩ := h
    subst en
    obtain ⟨t, ht, hT⟩ := rp_ty rr no
    exact ⟨_, _, _, _, _, rfl, .ty _, ht, hT T, q _ (.d (.bl _)) H (Go.self hi) ⟨_, rfl, .bl _⟩ hk⟩
  · exact h.elim
/-! ### walks -/
structure WalkD (c : Cfg) (J : It) (xs : List D) (φ : Hp → Prop) : Prop where
  st : ∀ {H H' : Hp}, Kp c.F H H' → Kz c H H' → φ H → φ H'
  go : ∀ i H, φ H → c.I H → i < xs.length → J.go i H
  stop : ∀ i H, φ H → xs.length ≤ i → J.stop i H
  yld : ∀ i H x H' d, φ H → c.I H → xs[i]? = some d → J.yld i H x H' → Go c H H' ∧ Rp c H' x d
/-- a walk that stands at H, also beside a new thing that changes -/
structure WalkOk (c : Cfg) (J : It) (xs : List D) (H : Hp) : Prop where
  now : ∃ φ, WalkD c J xs φ ∧ φ H
  own : ∀ a, H a = none → ∃ φ : Hp → Prop, φ H ∧ ∀ ha, WalkD (c.hide a ha) J xs φ
abbrev DI := Gm → (List D → Prop) → Prop
def LiI (K : PySem.W.Frag) (W : WX) (xw : XW) (wi : TI) (di : DI) : Prop := ∀ c : Cfg, c.K = K → WOk c W xw → ∀ Γ k, di Γ k → ∀ σ H, StOk c σ H Γ → ∀ R : It → Hp → Prop,
  (∀ J H1 xs, Go c H H1 → WalkOk c J xs H1 → k xs → R J H1) → wi σ H R
structure PDI (X : Cx) (W : WX) (xw : XW) (tg iter : Expr) (wi : TI) (di : DI) : Prop where
  pi : Takes X W → PI X tg iter wi
  li : LiI X.K W xw wi di
/-- a list or a tuple -/
def iSeq (K : PySem.W.Frag) (tl : TE) : TI := fun σ H R => tl σ H fun x H1 => (∃ a, x = .ref a ∧ (∃ xs, SqL K H1 a xs) ∧ R (Itl K a) H1) ∨ (∃ a, x = .ref a ∧ (∃ xs, SqT K H1 a xs) ∧ R (Itt K a) H1)
theorem pi_seq {tg l : Expr} {tl : TE} (hl : PE X l tl) : PI X tg l (iSeq X.K tl) := by
  refine ⟨fun pins s σ H R I h => ?_⟩
  refine thn (hl.run pins s σ H _ I h) fun v s1 ⟨x, H1, I1, r1, q1⟩ => ?_
  rcases q1 with ⟨a, e, ⟨xs, hq⟩, q⟩ | ⟨a, e, ⟨xs, hq⟩, q⟩
  · subst e
    cases r1
    obtain ⟨its, rv, p, hz⟩ := I1.list hq
    refine wpAny_pyIter_list p.isList ?_
    refine ⟨s1.heap.objs.size, [s1.heap.objs.size], _, _, H1, rfl, I1.kept (t' := s1.toks) fun b o e => Heap.get?_push_of_some _ e, turn_list a _, ⟨_, Heap.get?_push_size _ rfl, rfl, rfl⟩, fun b hb => ?_, q⟩
    have e : b = s1.heap.objs.size := by simpa using hb
    subst e
    exact I1.fpOk (Nat.le_refl _) (I1.hok.fresh (Nat.le_refl _))
  · subst e
    cases r1
    obtain ⟨its, rv, p, hz⟩ := I1.tuple hq
    refine wpAny_pyIter_tuple (show s1.heap.IsTuple a its.toArray from p) ?_
    refine ⟨s1.heap.objs.size, [s1.heap.objs.size], _, _, H1, rfl, I1.kept (t' := s1.toks) fun b o e => Heap.get?_push_of_some _ e, turn_tuple a _, ⟨_, Heap.get?_push_size _ rfl, rfl, rfl⟩, fun b hb => ?_, q⟩
    have e : b = s1.heap.objs.size := by simpa using hb
    subst e
    exact I1.fpOk (Nat.le_refl _) (I1.hok.fresh (Nat.le_refl _))
theorem walk_l {c : Cfg} {a : Addr} {vs : List V} {xs : List D} : WalkD c (Itl c.K a) xs (fun H => InL c H a vs ∧ RpAll c H vs xs) where
  st := fun k _ h => ⟨h.1.to rfl (fun _ z => z) k, h.2.go k⟩
  go := fun i H h _ l => ⟨vs, vs[i]'(by rw [h.2.length]; exact l), h.1.sq, List.getElem?_eq_some_iff.mpr ⟨by rw [h.2.length]; exact l, rfl⟩⟩
  stop := fun i H h l => ⟨vs, h.1.sq, by rw [h.2.length]; exact l⟩
  yld := fun i H x H' d h hi e y => by
    obtain ⟨e1, e2⟩ := y
    subst e1
    obtain ⟨v, h1, h2⟩ := h.2.get e
    have e3 := e2 vs h.1.sq
    rw [h1] at e3
    cases e3
    exact ⟨Go.self hi, h2⟩
theorem walk_t {c : Cfg} {a : Addr} {vs : List V} {xs : List D} : WalkD c (Itt c.K a) xs (fun H => InT c H a vs ∧ RpAll c H vs xs) where
  st := fun k _ h => ⟨h.1.to rfl (fun _ z => z) k, h.2.go k⟩
  go := fun i H h _ l => ⟨vs, vs[i]'(by rw [h.2.length]; exact l), h.1.sq, List.getElem?_eq_some_iff.mpr ⟨by rw [h.2.length]; exact l, rfl⟩⟩
  stop := fun i H h l => ⟨vs, h.1.sq, by rw [h.2.length]; exact l⟩
  yld := fun i H x H' d h hi e y => by
    obtain ⟨e1, e2⟩ := y
    subst e1
    obtain ⟨v, h1, h2⟩ := h.2.get e
    have e3 := e2 vs h.1.sq
    rw [h1] at e3
    cases e3
    exact ⟨Go.self hi, h2⟩
theorem walkOk_l {c : Cfg} {a : Addr} {vs : List V} {xs : List D} {H : Hp} (il : InL c H a vs) (ra : RpAll c H vs xs) : WalkOk c (Itl c.K a) xs H :=
  ⟨⟨_, walk_l, il, ra⟩, fun b nb => ⟨fun H => ((¬ (c.F a ∨ a = b) ∧ Rd H a (.lst vs)) ∨ KL c.K a vs) ∧ ∀ ha, RpAll (c.hide b ha) H vs xs, ⟨il.elim (fun z => .inl ⟨fun y => y.elim z.1 fun e => by
      subst e
      rcases z.2 with z | ⟨_, z⟩ <;> (rw [nb] at z; cases z), z.2⟩) .inr, fun ha => ra.hide nb⟩, fun ha => by
    have w : WalkD (c.hide b ha) (Itl (c.hide b ha).K a) xs (fun H => InL (c.hide b ha) H a vs ∧ RpAll (c.hide b ha) H vs xs) := walk_l
    exact ⟨fun k _ h => ⟨(InL.to (c := c.hide b ha) (c' := c.hide b ha) rfl (fun _ z => z) k h.1), fun ha' => RpAll.to (c := c.hide b ha') (c' := c.hide b ha') rfl (fun _ z => z) k (h.2 ha')⟩,
      fun i H h => w.go i H ⟨h.1, h.2 ha⟩, fun i H h => w.stop i H ⟨h.1, h.2 ha⟩, fun i H x H' d h => w.yld i H x H' d ⟨h.1, h.2 ha⟩⟩⟩⟩
theorem walkOk_t {c : Cfg} {a : Addr} {vs : List V} {xs : List D} {H : Hp} (il : InT c H a vs) (ra : RpAll c H vs xs) : WalkOk c (Itt c.K a) xs H :=
  ⟨⟨_, walk_t, il, ra⟩, fun b nb => ⟨fun H => ((¬ (c.F a ∨ a = b) ∧ Rd H a (.tup vs)) ∨ KT c.K a vs) ∧ ∀ ha, RpAll (c.hide b ha) H vs xs, ⟨il.elim (fun z => .inl ⟨fun y => y.elim z.1 fun e => by
      subst e
      rcases z.2 with z | ⟨_, z⟩ <;> (rw [nb] at z; cases z), z.2⟩) .inr, fun ha => ra.hide nb⟩, fun ha => by
    have w : WalkD (c.hide b ha) (Itt (c.hide b ha).K a) xs (fun H => InT (c.hide b ha) H a vs ∧ RpAll (c.hide b ha) H vs xs) := walk_t
    exact ⟨fun k _ h => ⟨(InT.to (c := c.hide b ha) (c' := c.hide b ha) rfl (fun _ z => z) k h.1), fun ha' => RpAll.to (c := c.hide b ha') (c' := c.hide b ha') rfl (fun _ z => z) k (h.2 ha')⟩,
      fun i H h => w.go i H ⟨h.1, h.2 ha⟩, fun i H h => w.stop i H ⟨h.1, h.2 ha⟩, fun i H x H' d h => w.yld i H x H' d ⟨h.1, h.2 ha⟩⟩⟩⟩
def diSeq (a : DE) : DI := fun Γ k => a Γ fun s => match s with
  | .d (.lst xs) => k xs
  | .d (.tup xs) => k xs
  | _ => False
theorem pdi_seq {tg l : Expr} {tl : TE} {dl : DE} (h : PD X W xw l tl dl) : PDI X W xw tg l (iSeq X.K tl) (diSeq dl) :=
  ⟨fun tk => pi_seq (h.pe tk), fun c eK hW Γ k hk σ H st R q => h.li c eK hW Γ _ hk σ H st _ fun v s H1 g1 r1 h1 => by
    rw [← eK]
    try dsimp only at h1
    split at h1
    · obtain ⟨w, e, rr⟩ := r1
      cases e
      cases rr with
      | lst nf il ra => exact .inl ⟨_, rfl, ⟨_, .inl (Or.inl il)⟩, q _ H1 _ g1 (walkOk_l (.inl ⟨nf, (Or.inl il)⟩) ra) h1⟩
    · obtain ⟨w, e, rr⟩ := r1
      cases e
      cases rr with
      | tup il ra => exact .inr ⟨_, rfl, ⟨_, il.sq⟩, q _ H1 _ g1 (walkOk_t il ra) h1⟩
    · exact h1.elim⟩
/-- range(n) -/
def intsFrom (lo : Int) : Nat → List D
  | 0 => []
  | n + 1 => .int lo :: intsFrom (lo + 1) n
theorem intsFrom_length (lo : Int) (n : Nat) : (intsFrom lo n).length = n := by
  induction n generalizing lo with
  | zero => rfl
  | succ n ih => rw [intsFrom, List.length_cons, ih]
theorem intsFrom_get {lo : Int} {n i : Nat} {d : D} (h : (intsFrom lo n)[i]? = some d) : d = .int (lo + i) := by
  induction n generalizing lo i with
  | zero => simp [intsFrom] at h
  | succ n ih =>
    cases i with
    | zero =>
      simp [intsFrom] at h
      rw [← h]
      simp
    | succ i =>
      rw [intsFrom, List.getElem?_cons_succ] at h
      rw [ih h]
      congr 1
      omega
theorem walk_r {c : Cfg} {lo : Int} {n : Nat} : WalkD c (Itr lo n) (intsFrom lo n) (fun _ => True) where
  st := fun _ _ h => h
  go := fun i H _ _ l => by rw [intsFrom_length] at l; exact l
  stop := fun i H _ l => by rw [intsFrom_length] at l; exact l
  yld := fun i H x H' d _ hi e y => by
    obtain ⟨e1, e2⟩ := y
    subst e1 e2
    rw [intsFrom_get e]
    exact ⟨Go.self hi, .int _⟩
def diRange1 (a : DA) : DI := fun Γ k => a Γ fun ss => match ss with
  | [.d (.int n)] => (-(2 ^ 62) ≤ n ∧ n < 2 ^ 62) ∧ k (intsFrom 0 n.toNat)
  | _ => False
theorem pdi_range1 {tg e : Expr} {p pos : Pos} {ta : TA} {da : DA} (hm : X.mg "range" = none) (a : PDA X W xw [e] ta da) (hg : Gl X "range" := by rfl) (hs : starEach [e] X.env = [(false, eval e X.env)] := by rfl) : PDI X W xw tg (.Call (.Name "range" p) [e] [] pos) (iRng1 ta) (diRange1 da) :=
  ⟨fun tk => pi_range1 hg hm (a.pa tk) hs, fun c eK hW Γ k hk σ H st R q => a.li c eK hW Γ _ hk σ H st _ fun vs ss H1 g1 r1 h1 => by
    try dsimp only at h1
    split at h1
    · obtain ⟨v, rfl, rr⟩ := paired1 r1
      have e := sl_int rr
      subst e
      exact ⟨_, rfl, h1.1.1, h1.1.2, q _ H1 _ g1 ⟨⟨_, walk_r, trivial⟩, fun _ _ => ⟨fun _ => True, trivial, fun _ => walk_r⟩⟩ h1.2⟩
    · exact h1.elim⟩
/-! ### comprehensions with one name -/
def lcD (i : Nat) (ts : DT) (e : DE) (Γ : Gm) : List D → (List D → Prop) → Prop
  | [], k => k []
  | x :: r, k => ts (Γ.set i (.d x)) fun b => cond b (e (Γ.set i (.d x)) fun s => match s with
    | .d y => lcD i ts e Γ r fun ys => k (y :: ys)
    | _ => False) (lcD i ts e Γ r k)
def dLc (i : Nat) (di : DI) (ts : DT) (e : DE) : DE := fun Γ k => di Γ fun xs => xs.length ≤ 100000 ∧ lcD i ts e Γ xs fun ys => k (.d (.lst ys))
def dYes : DT := fun _ k => k true
theorem li_lc {i : Nat} {wi : TI} {tt : TT} {te : TE} {di : DI} {ts : DT} {e : DE} (hi : LiI K W xw wi di) (ht : LiT K W0 xw0 tt ts) (he : Li K W0 xw0 te e) : Li K W xw (tLc wi (gName i) tt te [i]) (dLc i di ts e) := fun c eK hW Γ k hk σ H st Q q => by
  refine hi c eK hW Γ _ hk σ H st _ fun J H1 xs g1 wo hxs => fun q0 nD => ?_
  obtain ⟨hl, hk⟩ := hxs
  obtain ⟨φ, hφ, wk⟩ := wo.own q0 nD
  have nF : ¬ c.F q0 := c.fresh g1.inv nD
  -- beside the new list, with the walk's own and all that stood
  let G : Addr → Prop := fun b => c.G b ∨ b = q0
  have kD : ∀ {H : Hp} {o : HO}, Kp G H (upd H q0 o) := fun {H o} b u nb _ e => by
    rw [upd_ne (fun y => nb (.inr y))]
    exact e
  have kF : ∀ {H : Hp} {o : HO}, Kp (c.hide q0 nF).F H (upd H q0 o) := fun {H o} => kD.le fun b z => z.elim (fun z => .inl (c.GF z)) .inr
  have kG : ∀ {H H' : Hp}, Kp c.G H H' → Kp G H H' := fun k => k.le fun _ z => .inl z
  refine ⟨fun n m H => m = xs.length - n ∧ n ≤ xs.length ∧ φ H ∧ Kp G H1 H ∧ ∃ (acc : List V) (ys : List D), H q0 = some (.lst acc) ∧ StOk (c.hide q0 nF) σ H Γ ∧ RpAll (c.hide q0 nF) H acc ys ∧ acc.length ≤ n ∧ lcD i ts e Γ (xs.drop n) (fun zs => k (.d (.lst (ys ++ zs)))), ⟨xs.length, by simp, Nat.zero_le _, (wk nF).st kF (Kz.upd (.none nD)) hφ, kD, [], [], upd_same, (st.go g1).hide nF nD (fun b o e => by rw [upd_ne (ne_of_none e nD)]; exact e) ⟨_, upd_same, rfl⟩, .nil, Nat.le_refl _, by simpa using hk⟩, ?_⟩
  rintro n m H2 ⟨rfl, hn, hf, kk, acc, ys, ea, sk, ra, la, hd⟩
  by_cases hlt : n < xs.length
  · refine .inr ⟨(wk nF).go n H2 hf sk.inv hlt, fun H' => n + 1 ≤ xs.length ∧ φ H' ∧ Kp G H1 H' ∧ ∃ (acc : List V) (ys : List D), H' q0 = some (.lst acc) ∧ StOk (c.hide q0 nF) σ H' Γ ∧ RpAll (c.hide q0 nF) H' acc ys ∧ acc.length ≤ n + 1 ∧ lcD i ts e Γ (xs.drop (n + 1)) (fun zs => k (.d (.lst (ys ++ zs)))), fun H' z => ⟨xs.length - (n + 1), by omega, rfl, z⟩, fun x H' y => ?_⟩
    have ex : xs[n]? = some xs[n] := List.getElem?_eq_some_iff.mpr ⟨hlt, rfl⟩
    obtain ⟨g2, rx⟩ := (wk nF).yld n H2 x H' xs[n] hf sk.inv ex y
    rw [List.drop_eq_getElem_cons hlt, lcD] at hd
    have ew : wipe σ [i] = σ.set i none := rfl
    refine ⟨by rw [ew]; simp [wipe], ?_⟩
    rw [ew, List.set_set]
    have s2 : StOk (c.hide q0 nF) (σ.set i (some x)) H' (Γ.set i (.d xs[n])) := (sk.go g2).set ⟨x, rfl, rx⟩
    refine ht (c.hide q0 nF) eK WOk.zero _ _ hd _ H' s2 _ fun b H3 g3 hb => ?_
    have st3 : ∀ {H3 : Hp}, Go (c.hide q0 nF) H2 H3 → φ H3 ∧ Kp G H1 H3 ∧ H3 q0 = some (.lst acc) := fun {H3} g => ⟨(wk nF).st g.kF (Kz.of g.keep) hf, kk.trans (kG g.keep), g.keep q0 _ (fun z => nF (c.GF z)) rfl ea⟩
    cases b
    · rw [if_neg Bool.false_ne_true]
      have g23 := g2.trans g3
      exact ⟨hlt, (st3 g23).1, (st3 g23).2.1, acc, ys, (st3 g23).2.2, sk.go g23, ra.go g23.kF, by omega, hb⟩
    · rw [if_pos rfl]
      refine he (c.hide q0 nF) eK WOk.zero _ _ hb _ H3 (s2.go g3) _ fun v s H4 g4 rv hv => ?_
      try dsimp only at hv
      have g24 := (g2.trans g3).trans g4
      split at hv
      · rename_i yy
        obtain ⟨w, ew', rr⟩ := rv
        cases ew'
        have sk4 := sk.go g24
        refine ⟨acc, (st3 g24).2.2, Nat.lt_of_le_of_lt la (Nat.lt_of_lt_of_le hlt (sz hl)), hlt, (wk nF).st kF (Kz.upd (.lst (st3 g24).2.2)) (st3 g24).1, (st3 g24).2.1.trans kD, acc ++ [v], ys ++ [yy], upd_same, sk4.hput (.lst (st3 g24).2.2), ?_, by rw [List.length_append]; simp; omega, ?_⟩
        · exact RpAll.append ((ra.go g24.kF).go kF) (.cons (rr.go kF) .nil)
        · simpa using hv
      · exact hv.elim
  · have en : n = xs.length := by omega
    subst en
    rw [List.drop_length] at hd
    refine .inl ⟨(wk nF).stop _ H2 hf (Nat.le_refl _), q (.ref q0) (.d (.lst ys)) H2 (g1.trans ⟨fun b u nb tb eb => kk b u (fun z => z.elim nb fun y => by
      rw [y, nD] at eb
      cases eb) tb eb, Le.hide.I _ sk.inv⟩) ⟨_, rfl, .lst nF ea (ra.le Le.hide)⟩ (by simpa [lcD] using hd)⟩
end
end Dv
set_option Elab.async false
set_option linter.all false
set_option maxRecDepth 100000
set_option maxHeartbeats 4000000
/-! Ds: statements over plain data. -/
namespace Dv
open PySem L2
structure DEnds where
  nx : Gm → Prop
  rt : Sl → Prop := fun _ => False
  bk : Gm → Prop := fun _ => False
  ct : Gm → Prop := fun _ => False
  ro : D → Prop := fun x => rt (.d x)
  rg : Sl → Gm → Prop := fun _ _ => False
abbrev DS := DEnds → Gm → Prop
structure EndsOk (c : Cfg) (E : Ends) (D : DEnds) : Prop where
  nx : ∀ Γ σ H, StOk c σ H Γ → D.nx Γ → E.nx σ H
  rt : ∀ v s H, c.I H → SlOk c H (some v) s → D.rt s → E.rt v H
  bk : ∀ Γ σ H, StOk c σ H Γ → D.bk Γ → E.bk σ H
  ct : ∀ Γ σ H, StOk c σ H Γ → D.ct Γ → E.ct σ H
  ro : ∀ v x H, c.I H → Rp c.rel H v x → D.ro x → E.rt v H
  rg : ∀ v s Γ σ H, StOk c σ H Γ → SlOk c H (some v) s → D.rg s Γ → E.rt v H
theorem EndsOk.le {c c' : Cfg} {E : Ends} {D : DEnds} (l : Le c c') (h : EndsOk c E D) : EndsOk c' E D :=
  ⟨fun Γ σ H s q => h.nx Γ σ H (s.le l) q, fun v s H i r q => h.rt v s H (l.I _ i) (r.le l) q, fun Γ σ H s q => h.bk Γ σ H (s.le l) q, fun Γ σ H s q => h.ct Γ σ H (s.le l) q, fun v x H i r q => h.ro v x H (l.I _ i) (Rp.to (c := c'.rel) (c' := c.rel) l.K.symm l.R Kp.self r) q, fun v s Γ σ H st r q => h.rg v s Γ σ H (st.le l) (r.le l) q⟩
def LiS (K : PySem.W.Frag) (W : WX) (xw : XW) (ts : TS) (ds : DS) : Prop := ∀ c : Cfg, c.K = K → WOk c W xw → ∀ (E : Ends) (D : DEnds), EndsOk c E D → ∀ Γ σ H, StOk c σ H Γ → ds D Γ → ts E σ H
structure PDS (X : Cx) (W : WX) (xw : XW) (st : Stmt) (ts : TS) (ds : DS) : Prop where
  ps : Takes X W → PS X st ts
  li : LiS X.K W xw ts ds
structure PDSs (X : Cx) (W : WX) (xw : XW) (st : List Stmt) (ts : TS) (ds : DS) : Prop where
  ps : Takes X W → PSs X st ts
  li : LiS X.K W xw ts ds
section
variable {X : Cx} {W : WX} {xw : XW} {K : PySem.W.Frag} {pos : Pos}
def dNext : DS := fun D Γ => D.nx Γ
def dSeq (a b : DS) : DS := fun D Γ => a { D with nx := b D } Γ
def dRet (e : DE) : DS := fun D Γ => e Γ D.rt
def dDrop (e : DE) : DS := fun D Γ => e Γ fun _ => D.nx Γ
def dIfS (t : DT) (a b : DS) : DS := fun D Γ => t Γ fun v => cond v (a D Γ) (b D Γ)
def dAsg (i : Nat) (e : DE) : DS := fun D Γ => e Γ fun s => D.nx (Γ.set i s)
section
variable {st : Stmt} {rest : List Stmt} {t u : TS} {d e : DS}
theorem pdss_nil : PDSs X W xw [] tNext dNext := ⟨fun tk => pss_nil, fun c eK hW E D o Γ σ H s h => o.nx Γ σ H s h⟩
theorem li_seq (h1 : LiS K W xw t d) (h2 : LiS K W xw u e) : LiS K W xw (tSeq t u) (dSeq d e) := fun c eK hW E D o Γ σ H s h =>
  h1 c eK hW { E with nx := u E } { D with nx := e D } ⟨fun Γ σ H s q => h2 c eK hW E D o Γ σ H s q, o.rt, o.bk, o.ct, o.ro, o.rg⟩ Γ σ H s h
theorem pdss_cons (h1 : PDS X W xw st t d) (h2 : PDSs X W xw rest u e) : PDSs X W xw (st :: rest) (tSeq t u) (dSeq d e) := ⟨fun tk => pss_cons (h1.ps tk) (h2.ps tk), li_seq h1.li h2.li⟩
theorem pdss_one (h1 : PDS X W xw st t d) : PDSs X W xw [st] t d := ⟨fun tk => pss_one (h1.ps tk), h1.li⟩
theorem pds_ret {a : Expr} {ta : TE} {da : DE} (h : PD X W xw a ta da) : PDS X W xw (.Return (some a) pos) (tRet ta) (dRet da) :=
  ⟨fun tk => ps_ret (h.pe tk), fun c eK hW E D o Γ σ H s hd => h.li c eK hW Γ _ hd σ H s _ fun v s' H1 g r q => o.rt v s' H1 g.inv r q⟩
/-- return e, where what is owned becomes data -/
def dRetR (e : DE) : DS := fun D Γ => e (fzA Γ) fun s => match s with
  | .d x => D.ro x
  | _ => False
theorem pds_retR {a : Expr} {ta : TE} {da : DE} (h : PD X W0 xw0 a ta da) : PDS X W xw (.Return (some a) pos) (tRet ta) (dRetR da) :=
  ⟨fun tk => ps_ret (h.pe takes0), fun c eK hW E D o Γ σ H s hd => h.li c.rel eK WOk.zero (fzA Γ) _ hd σ H s.rel _ fun v s' H1 g r q => by
    try dsimp only at q
    split at q
    · obtain ⟨w, e, rr⟩ := r
      cases e
      exact o.ro v _ H1 g.inv rr q
    · exact q.elim⟩
theorem pds_expr {a : Expr} {ta : TE} {da : DE} (h : PD X W xw a ta da) (hs : swapsWith a none pos.line X.env = pure false := by rfl) : PDS X W xw (.Expr a pos) (tDrop ta) (dDrop da) :=
  ⟨fun tk => ps_expr (h.pe tk) hs, fun c eK hW E D o Γ σ H s hd => h.li c eK hW Γ _ hd σ H s _ fun v s' H1 g r q => o.nx Γ σ H1 (s.go g) q⟩
theorem pds_if {c0 : Expr} {a b : List Stmt} {tc : TT} {dc : DT} (hc : PDT X W xw c0 tc dc) (ha : PDSs X W xw a t d) (hb : PDSs X W xw b u e) : PDS X W xw (.If c0 a b pos) (tIfS tc t u) (dIfS dc d e) :=
  ⟨fun tk => ps_if (hc.pt tk) (ha.ps tk) (hb.ps tk), fun c eK hW E D o Γ σ H s hd => hc.li c eK hW Γ _ hd σ H s _ fun v H1 g h1 => by
    cases v
    · rw [if_neg Bool.false_ne_true]
      exact hb.li c eK hW E D o Γ σ H1 (s.go g) h1
    · rw [if_pos rfl]
      exact ha.li c eK hW E D o Γ σ H1 (s.go g) h1⟩
theorem pds_set {i : Nat} {x : Str} {a : Expr} {ta : TE} {da : DE} {pos' : Pos} (h : PD X W xw a ta da) (hN : X.N.Nodup) (hi : X.N[i]? = some x := by rfl) (hx : Loc X.env.scope x := by first | exact Or.inl rfl | exact Or.inr rfl) (hs : swapsWith a (some (.Name x pos')) pos.line X.env = pure false := by rfl) (hf : X.fn x = true ∨ X.env.scope.names.lookup x = some .local := by first | exact .inl rfl | exact .inr rfl | assumption) :
    PDS X W xw (.Assign [.Name x pos'] a pos) (tAsg ta (gName i)) (dAsg i da) :=
  ⟨fun tk => ps_set hN hi hx (h.pe tk) hs hf, fun c eK hW E D o Γ σ H s hd => h.li c eK hW Γ _ hd σ H s _ fun v s' H1 g r q => o.nx _ _ H1 ((s.go g).set r) q⟩
/-- a, b = x, y -/
def dPar (i j : Nat) (a : DA) : DS := fun D Γ => a Γ fun ss => match ss with
  | [s, t] => D.nx ((Γ.set i s).set j t)
  | _ => False
theorem pds_par {i j : Nat} {x y : Str} {a b : Expr} {ta : TA} {da : DA} {px py pt : Pos} {kt k2 pt2} (h : PDA X W xw [a, b] ta da) (hc : X.calm = true) (hN : X.N.Nodup) (hi : X.N[i]? = some x := by rfl) (hj : X.N[j]? = some y := by rfl) (hij : i ≠ j := by decide)
    (hx : X.env.scope.names.lookup x = some .local := by rfl) (hy : X.env.scope.names.lookup y = some .local := by rfl)
    (hw : swappedStores [.Tuple [.Name x px, .Name y py] kt pt] (.Tuple [a, b] k2 pt2) X.env = pure (some [x, y]) := by rfl)
    (hs : swapsWithSole [.Tuple [.Name x px, .Name y py] kt pt] (.Tuple [a, b] k2 pt2) pos.line X.env = pure false := by rfl) :
    PDS X W xw (.Assign [.Tuple [.Name x px, .Name y py] kt pt] (.Tuple [a, b] k2 pt2) pos) (tPar i j ta) (dPar i j da) :=
  ⟨fun tk => ps_par hc hN hi hj hij hx hy (h.pa tk) hw hs, fun c eK hW E D o Γ σ H s hd => h.li c eK hW Γ _ hd σ H s _ fun vs ss H1 g r q => by
    try dsimp only at q
    split at q
    · obtain ⟨v, w, rfl, r1, r2⟩ := paired2 r
      exact ⟨v, w, rfl, o.nx _ _ H1 (((s.go g).set r1).set r2) q⟩
    · exact q.elim⟩
end
/-! ### targets -/
abbrev DG := D → Gm → (Gm → Prop) → Prop
def LiG (K : PySem.W.Frag) (g : TG) (dg : DG) : Prop := ∀ c : Cfg, c.K = K → ∀ x d Γ σ H k, StOk c σ H Γ → Rp c H x d → dg d Γ k → ∀ Q : St → Hp → Prop, (∀ σ' Γ', StOk c σ' H Γ' → k Γ' → Q σ' H) → g x σ H Q
structure PDG (X : Cx) (tg : Expr) (g : TG) (dg : DG) : Prop where
  pg : PG X tg g
  li : LiG X.K g dg
def dgName (i : Nat) : DG := fun d Γ k => k (Γ.set i (.d d))
theorem pdg_name {i : Nat} {x : Str} (hN : X.N.Nodup) (hi : X.N[i]? = some x := by rfl) (hx : Loc X.env.scope x := by first | exact Or.inl rfl | exact Or.inr rfl) (hf : X.fn x = true ∨ X.env.scope.names.lookup x = some .local := by first | exact .inl rfl | exact .inr rfl | assumption) : PDG X (.Name x pos) (gName i) (dgName i) :=
  ⟨pg_name hN hi hx hf, fun c eK x d Γ σ H k s r h Q q => q _ _ (s.set (s := .d d) ⟨x, rfl, r⟩) h⟩
abbrev DGs := List D → Gm → (Gm → Prop) → Prop
def LiGs (K : PySem.W.Frag) (g : TGs) (dg : DGs) : Prop := ∀ c : Cfg, c.K = K → ∀ xs ds Γ σ H k, StOk c σ H Γ → RpAll c H xs ds → dg ds Γ k → ∀ Q : St → Hp → Prop, (∀ σ' Γ', StOk c σ' H Γ' → k Γ' → Q σ' H) → g xs σ H Q
structure PDGs (X : Cx) (tg : List Expr) (g : TGs) (dg : DGs) : Prop where
  pg : PGs X tg g
  li : LiGs X.K g dg
def dgNil : DGs := fun ds Γ k => match ds with
  | [] => k Γ
  | _ => False
def dgCons (a : DG) (r : DGs) : DGs := fun ds Γ k => match ds with
  | d :: ds => a d Γ fun Γ' => r ds Γ' k
  | [] => False
theorem pdgs_nil : PDGs X [] gNil dgNil := ⟨pgs_nil, fun c eK xs ds Γ σ H k s r h Q q => by
  cases r with
  | nil => exact ⟨rfl, q σ Γ s h⟩
  | cons _ _ => exact h.elim⟩
theorem pdgs_cons {e : Expr} {es : List Expr} {t : TG} {u : TGs} {a : DG} {b : DGs} (h1 : PDG X e t a) (h2 : PDGs X es u b)
    (hs : (assignEach (e :: es) X.env).map (·.2) = assign e X.env :: (assignEach es X.env).map (·.2) := by rfl) : PDGs X (e :: es) (gCons t u) (dgCons a b) :=
  ⟨pgs_cons h1.pg h2.pg hs, fun c eK xs ds Γ σ H k s r h Q q => by
    cases r with
    | nil => exact h.elim
    | cons r1 r2 => exact ⟨_, _, rfl, h1.li c eK _ _ Γ σ H _ s r1 h _ fun σ' Γ' s' h' => h2.li c eK _ _ Γ' σ' H k s' r2 h' Q q⟩⟩
def dgTup (n : Nat) (a : DGs) : DG := fun d Γ k => match d with
  | .tup xs => xs.length = n ∧ a xs Γ k
  | _ => False
theorem pdg_tup {es : List Expr} {k : _} {t : TGs} {a : DGs} {n : Nat} (hc : X.calm = true) (h : PDGs X es t a) (hn : (assignEach es X.env).length = n := by rfl) (hst : (assignEach es X.env).findIdx? (·.1) = none := by rfl) : PDG X (.Tuple es k pos) (gTup X.K n t) (dgTup n a) :=
  ⟨pg_tup hc h.pg hn hst, fun c eK x d Γ σ H k s r hd Q q => by
    unfold dgTup at hd
    split at hd
    · cases r with
      | tup il ra => exact ⟨_, _, rfl, by rw [← eK]; exact il.sq, by rw [ra.length]; exact hd.1, h.li c eK _ _ Γ σ H k s ra hd.2 Q q⟩
    · exact hd.elim⟩
/-- target = value, the value data -/
def dAsgG (g : DG) (e : DE) : DS := fun D Γ => e Γ fun s => match s with
  | .d x => g x Γ D.nx
  | _ => False
theorem pds_asg {tg a : Expr} {ta : TE} {da : DE} {g : TG} {dg : DG} (h : PD X W xw a ta da) (hg : PDG X tg g dg) (hs : swapsWithSole [tg] a pos.line X.env = pure false := by rfl) (hw : swappedStores [tg] a X.env = pure none := by rfl)
    (h1 : (assignEach [tg] X.env).map (·.2) = [assign tg X.env] := by rfl) : PDS X W xw (.Assign [tg] a pos) (tAsg ta g) (dAsgG dg da) :=
  ⟨fun tk => ps_asg (h.pe tk) hg.pg hs hw h1, fun c eK hW E D o Γ σ H s hd => h.li c eK hW Γ _ hd σ H s _ fun v s' H1 g1 r q => by
    try dsimp only at q
    split at q
    · obtain ⟨w, e, rr⟩ := r
      cases e
      exact hg.li c eK _ _ Γ σ H1 _ (s.go g1) rr q _ fun σ' Γ' s2 k2 => o.nx Γ' σ' H1 s2 k2
    · exact q.elim⟩
/-! ### for -/
def forD (g : DG) (b : DS) (E : DEnds) : List D → Gm → Prop
  | [], Γ => E.nx Γ
  | x :: r, Γ => g x Γ fun Γ' => b { E with nx := forD g b E r, ct := forD g b E r, bk := E.nx } Γ'
def dFor (di : DI) (g : DG) (b : DS) : DS := fun D Γ => di Γ fun xs => forD g b D xs Γ
theorem li_for {wi : TI} {g : TG} {tb : TS} {di : DI} {dg : DG} {b : DS} (hi : LiI K W xw wi di) (hg : LiG K g dg) (hb : LiS K W xw tb b) : LiS K W xw (tFor wi g tb) (dFor di dg b) := fun c eK hW E D o Γ σ H s hd => by
  refine hi c eK hW Γ _ hd σ H s _ fun J H1 xs g1 wo hxs => ?_
  obtain ⟨φ, wk, hφ⟩ := wo.now
  let c' := c.wth φ fun k z h => wk.st (k.le fun _ z => c.WF z) z h
  have lc : Le c c' := Le.wth
  refine ⟨fun n m σ H => m = xs.length - n ∧ n ≤ xs.length ∧ ∃ Γ, StOk c' σ H Γ ∧ forD dg b D (xs.drop n) Γ, ⟨xs.length, by simp, Nat.zero_le _, Γ, (s.go g1).wth hφ, hxs⟩, ?_⟩
  rintro n m σ2 H2 ⟨rfl, hn, Γ2, s2, hd2⟩
  by_cases hlt : n < xs.length
  · refine .inr ⟨wk.go n H2 s2.inv.2 s2.inv.1 hlt, fun σ' H' => n + 1 ≤ xs.length ∧ ∃ Γ', StOk c' σ' H' Γ' ∧ forD dg b D (xs.drop (n + 1)) Γ', fun σ' H' z => ⟨xs.length - (n + 1), by omega, rfl, z⟩, fun x H' y => ?_⟩
    have ex : xs[n]? = some xs[n] := List.getElem?_eq_some_iff.mpr ⟨hlt, rfl⟩
    obtain ⟨g2, rx⟩ := wk.yld n H2 x H' xs[n] s2.inv.2 s2.inv.1 ex y
    rw [List.drop_eq_getElem_cons hlt, forD] at hd2
    have s3 : StOk c' σ2 H' Γ2 := s2.go ⟨g2.keep, g2.inv, wk.st g2.kF (Kz.of g2.keep) s2.inv.2⟩
    refine hg c' eK x _ Γ2 σ2 H' _ s3 (Rp.to (c := c) (c' := c') rfl (fun _ z => z) Kp.self rx) hd2 _ fun σ4 Γ4 s4 h4 => ?_
    refine hb c' eK (hW.le lc) { E with nx := fun σ' H' => n + 1 ≤ xs.length ∧ ∃ Γ', StOk c' σ' H' Γ' ∧ forD dg b D (xs.drop (n + 1)) Γ', ct := fun σ' H' => n + 1 ≤ xs.length ∧ ∃ Γ', StOk c' σ' H' Γ' ∧ forD dg b D (xs.drop (n + 1)) Γ', bk := E.nx } { D with nx := forD dg b D (xs.drop (n + 1)), ct := forD dg b D (xs.drop (n + 1)), bk := D.nx } ⟨?_, (o.le lc).rt, (o.le lc).nx, ?_, (o.le lc).ro, (o.le lc).rg⟩ Γ4 σ4 H' s4 h4
    · exact fun Γ σ H s q => ⟨hlt, Γ, s, q⟩
    · exact fun Γ σ H s q => ⟨hlt, Γ, s, q⟩
  · have en : n = xs.length := by omega
    subst en
    rw [List.drop_length] at hd2
    exact .inl ⟨wk.stop _ H2 s2.inv.2 (Nat.le_refl _), o.nx Γ2 σ2 H2 (s2.le lc) hd2⟩
theorem pds_for {tg iter : Expr} {body : List Stmt} {wi : TI} {g : TG} {tb : TS} {di : DI} {dg : DG} {b : DS} (hp : PassesOwn (model X.prog X.w) X.A X.env X.xe) (hc : X.calm = true) (hi : PDI X W xw tg iter wi di) (hg : PDG X tg g dg) (hb : PDSs X W xw body tb b)
    (hs : ∀ x, foldedSetIterable iter X.env x = pure x := by intro _; rfl) : PDS X W xw (.For tg iter body [] pos) (tFor wi g tb) (dFor di dg b) := ⟨fun tk => ps_for hp hc (hi.pi tk) hg.pg (hb.ps tk) hs, li_for hi.li hg.li hb.li⟩
/-! ### raise of an error of the program -/
def dRaise (C : Addr) (xw : XW) (a : DA) : DS := fun _ Γ => a Γ fun ss => match ss with
  | [.d x] => xw C (some [(("value" : Str), x)]) Γ
  | _ => False
theorem pds_raise {nm : Str} {C D fI : Addr} {a : Expr} {ta : TA} {da : DA} {p pos pos2 : Pos} {k : Nat} (hc : X.calm = true) (T : PySem.RoomX.RoomTxt X.prog X.K X.mg D fI) (U : PySem.RoomX.RoomCls X.K X.mg nm C D fI) (hr : Room k X.A) (h : PDA X W xw [a] ta da) (hg : Gl X nm := by rfl)
    (he : starEach (a :: []) X.env = (false, eval a X.env) :: starEach [] X.env := by rfl) (hpl : (backTo pos (starEach [] X.env)).any (·.1) = false := by rfl) (hdb : (nm == ("__debug__" : Str)) = false := by decide) :
    PDS X W xw (.Raise (some (.Call (.Name nm p) [a] [] pos)) none pos2) (tRaiseRoom C W ta) (dRaise C xw da) :=
  ⟨fun tk => ps_raiseRoom hc T U hr tk (h.pa tk) hg he hpl hdb, fun c eK hW E D o Γ σ H s hd => h.li c eK hW Γ _ hd σ H s _ fun vs ss H1 g r q => by
    try dsimp only at q
    split at q
    · obtain ⟨v, rfl, w, e, rr⟩ := paired1 r
      cases e
      refine ⟨v, rfl, fun d nd => ?_⟩
      have g2 := Go.new (o := xval v) g.inv nd
      exact hW σ _ Γ C (some d) (some _) ((s.go g).go g2) ⟨_, c.fresh g.inv nd, upd_same, .cons (rr.go g2.kF) .nil⟩ q
    · exact q.elim⟩
end
end Dv
set_option Elab.async false
set_option linter.all false
set_option maxRecDepth 100000
set_option maxHeartbeats 4000000
/-! Df: defs and their contracts over plain data; try; pools. -/
namespace Dv
open PySem L2
def noOwn : List Sl → Bool
  | [] => true
  | .own _ _ :: _ => false
  | _ :: r => noOwn r
theorem paired_sub {c : Cfg} {H : Hp} {vs : List V} {ss : List Sl} (h : Paired (fun v s => SlOk c H (some v) s) vs ss) : noOwn ss = true → Paired (fun v s => SlOk c.sub H (some v) s) vs ss := by
  induction h with
  | nil => exact fun _ => .nil
  | cons a b ih =>
    rename_i v s vs ss
    intro z
    cases s with
    | any => exact .cons trivial (ih z)
    | v x => exact .cons a (ih z)
    | d x =>
      obtain ⟨w, e, r⟩ := a
      exact .cons ⟨w, e, Rp.to (c := c) (c' := c.sub) rfl (fun _ z => z) Kp.self r⟩ (ih z)
    | pool => exact .cons a (ih z)
    | ex b cls dd p => exact .cons ⟨a.1, XOk.to (c := c) (c' := c.sub) rfl (fun _ z => z) Kp.self a.2⟩ (ih z)
    | own k x => cases z
    | tab T => exact .cons a (ih z)
    | bor ds =>
      obtain ⟨b, ob, kvs, e, g, q, r⟩ := a
      exact .cons ⟨b, ob, kvs, e, g, q, RpKv.to (c := c) (c' := c.sub) rfl (fun _ z => z) Kp.self r⟩ (ih z)
/-- what a def tells: of arguments, of what is wanted of the value, of what is wanted of an error -/
structure Ctr where
  n : Nat
  f : List Sl → DK → (Addr → XP → Prop) → Prop
  mono : ∀ {ss : List Sl} {k k' : DK} {x x' : Addr → XP → Prop}, (∀ s, k s → k' s) → (∀ C p, x C p → x' C p) → f ss k x → f ss k' x'
  no : ∀ {ss : List Sl} {k : DK} {x : Addr → XP → Prop}, f ss k x → noOwn ss = true := by (intro ss k x h; (try dsimp only at h); split at h <;> first | rfl | exact h.elim)
def Ctr.sp (C : Ctr) (K : PySem.W.Frag) : Sp := fun vs H Q E => ∃ (c : Cfg) (ss : List Sl), c.K = K ∧ c.I H ∧ Paired (fun v s => SlOk c H (some v) s) vs ss ∧ ss.length = C.n ∧
  C.f ss (fun s => ∀ v H', Go c H H' → SlOk c H' (some v) s → Q v H') (fun A p => ∀ d H', Go c H H' → XOk c H' d p → E (.ref A) d H')
theorem paired_len {α β : Type} {F : α → β → Prop} {xs : List α} {ys : List β} (h : Paired F xs ys) : xs.length = ys.length := by
  induction h with
  | nil => rfl
  | cons _ _ ih => exact congrArg (· + 1) ih
section
variable {X : Cx} {W : WX} {xw : XW} {K : PySem.W.Frag}
def dCall (C : Ctr) (xw : XW) (a : DA) : DE := fun Γ k => a Γ fun ss => ss.length = C.n ∧ C.f ss k fun A p => xw A p Γ
section
variable {C : Ctr} {f : Addr} {fd : FuncData} {ps : List Str} {k : Nat} {x : Str} {p pos : Pos} {e : Expr} {es : List Expr} {ta : TA} {da : DA}
/-- f(..) that raises nothing here -/
theorem pd_call (F : FnOk X.prog X.w X.K X.mg X.base (L2.CX X.prog X.w) k f fd ps (C.sp X.K)) (hr : Room k X.A) (hm : X.mg x = some (.ref f)) (hk : PySem.W.keepIn X.K (.ref f) = true) (hb : Binds X.K fd ps []) (a : PDA X W xw (e :: es) ta da) (hg : Gl X x := by rfl)
    (hdb : (x == ("__debug__" : Str)) = false := by decide) (he : starEach (e :: es) X.env = (false, eval e X.env) :: starEach es X.env := by rfl) (hpl : (backTo pos (starEach es X.env)).any (·.1) = false := by rfl) :
    PD X W xw (.Call (.Name x p) (e :: es) [] pos) (tCall (C.sp X.K) [] E0 ta) (dCall C xw0 da) :=
  ⟨fun tk => pe_call F hr hg hm hk hb .nil passL (a.pa tk) hdb he hpl, fun c eK hW Γ k hd σ H st Q q => a.li c eK hW Γ _ hd σ H st _ fun vs ss H1 g r h => by
    rw [List.append_nil]
    exact ⟨c, ss, eK, g.inv, r, h.1, C.mono (fun s ks v H' g' r' => q v s H' (g.trans g') r' ks) (fun _ _ z => z.elim) h.2⟩⟩
/-- f(..) that may raise -/
theorem pd_callX (F : FnOk X.prog X.w X.K X.mg X.base (L2.CX X.prog X.w) k f fd ps (C.sp X.K)) (hr : Room k X.A) (hm : X.mg x = some (.ref f)) (hk : PySem.W.keepIn X.K (.ref f) = true) (hb : Binds X.K fd ps []) (a : PDA X W xw (e :: es) ta da) (hg : Gl X x := by rfl)
    (hdb : (x == ("__debug__" : Str)) = false := by decide) (he : starEach (e :: es) X.env = (false, eval e X.env) :: starEach es X.env := by rfl) (hpl : (backTo pos (starEach es X.env)).any (·.1) = false := by rfl) :
    PD X W xw (.Call (.Name x p) (e :: es) [] pos) (tCallS (C.sp X.K) (WE W) ta) (dCall C xw da) :=
  ⟨fun tk => pe_callS F hr hg hm hk hb (fun σ => passAt tk σ) (a.pa tk) hdb he hpl, fun c eK hW Γ k hd σ H st Q q => a.li c eK hW Γ _ hd σ H st _ fun vs ss H1 g r h =>
    ⟨c, ss, eK, g.inv, r, h.1, C.mono (fun s ks v H' g' r' => q v s H' (g.trans g') r' ks) (fun A pp z d H' g' x' => hW σ H' Γ A d pp (st.go (g.trans g')) x' z) h.2⟩⟩
end
end
/-! ### a def keeps its contract -/
def startD (N : List Str) (ss : List Sl) : Gm := ss ++ List.replicate (N.length - ss.length) .any
theorem start_ok {c : Cfg} {H : Hp} {N : List Str} {vs : List V} {ss : List Sl} (hi : c.I H) (r : Paired (fun v s => SlOk c H (some v) s) vs ss) : StOk c (L2.start N vs) H (startD N ss) := by
  have hl := paired_len r
  refine ⟨hi, by simp [L2.start, startD, hl], fun i o s e1 e2 => ?_⟩
  unfold L2.start at e1
  unfold startD at e2
  by_cases h : i < ss.length
  · rw [List.getElem?_append_left (by simpa [hl] using h), List.getElem?_map] at e1
    rw [List.getElem?_append_left h] at e2
    have key : ∀ {vs : List V} {ss : List Sl} {i : Nat}, Paired (fun v s => SlOk c H (some v) s) vs ss → Option.map some vs[i]? = some o → ss[i]? = some s → SlOk c H o s := by
      intro vs ss i r
      induction r generalizing i with
      | nil =>
        intro z
        simp at z
      | cons a b ih =>
        intro z1 z2
        cases i with
        | zero =>
          simp at z1 z2
          subst z1 z2
          exact a
        | succ i => exact ih (by simpa using z1) (by simpa using z2)
    exact key r e1 e2
  · rw [List.getElem?_append_right (by omega)] at e2
    have z : s = .any := by
      have y := List.getElem?_replicate (a := Sl.any) (n := N.length - ss.length) (i := i - ss.length)
      rw [y] at e2
      split at e2
      · exact (Option.some.inj e2).symm
      · cases e2
    rw [z]
    trivial
section
variable {P : Program} {w : World} {K : PySem.W.Frag} {mg : Str → Option Value} {base : Heap}
theorem fn_ok {x qual : Str} {st : Stmt} {f : Addr} {fd : FuncData} {N ps : List Str} {k : Nat} (C : Ctr) (F : Fun K x qual st f fd) (S : FnScope N ps (defScope st)) (hn : ps.length = C.n)
    (body : ∀ (cdv : Value) (A : Around) (outer : List Env) (s : Shared) (H : Hp) (E : XK) (xw : XW), Room k (A.deeper (PyProof.Rows.envOfC qual (defScope st) s.heap.objs.size f cdv)) →
      PassesOwn (model P w) (cxOf (L2.CX P w) P w K mg base N qual (defScope st) f cdv A outer s H E).A (cxOf (L2.CX P w) P w K mg base N qual (defScope st) f cdv A outer s H E).env (cxOf (L2.CX P w) P w K mg base N qual (defScope st) f cdv A outer s H E).xe →
      ∃ ts ds, PDSs (cxOf (L2.CX P w) P w K mg base N qual (defScope st) f cdv A outer s H E) (fun cls d _ H => E cls d H) xw (defBody st) ts ds ∧
        ∀ ss kk xx, ss.length = C.n → C.f ss kk xx → (xw = fun A p _ => xx A p) → ds { nx := fun _ => kk (.d .non), rt := kk } (startD N ss)) : FnOk P w K mg base (L2.CX P w) (k + 1) f fd ps (C.sp K) := by
  refine F.okX S (fun vs H Q E h => ?_) (fun cdv A outer s H vs Q E hr h => ?_)
  · obtain ⟨c, ss, _, _, r, hl, _⟩ := h
    rw [paired_len r, hl, hn]
  · obtain ⟨c, ss, eK, hi, r, hl, hf⟩ := h
    obtain ⟨ts, ds, pd, hd⟩ := body cdv A outer s H E (fun A p _ => ∀ d H', Go c H H' → XOk c H' d p → E (.ref A) d H') hr (passes_of rfl)
    refine ⟨ts, pd.ps (takes_of rfl rfl rfl rfl), ?_⟩
    have q := hd ss _ _ hl hf rfl
    let c' := c.sub.wth (Kp c.G H) (fun {H1 H2} k _ h => h.trans k)
    have lc : Le c c' := ⟨rfl, fun _ z => z, fun _ h => h.1, fun _ z => z, fun _ _ e => (nomatch e), fun _ z => ⟨z.1, fun y => y⟩, rfl, fun _ z => z⟩
    have s0 : StOk c' (L2.start N vs) H (startD N ss) := (start_ok (c := c.sub) hi (paired_sub r (C.no hf))).wth Kp.self
    refine pd.li c' eK ?_ _ _ ⟨?_, ?_, ?_, ?_, ?_, ?_⟩ _ _ _ s0 q
    · exact fun σ H' Γ A d p st x z => z d H' ⟨st.inv.2, st.inv.1⟩ (x.le lc)
    · exact fun Γ σ H' st z => z .non H' ⟨st.inv.2, st.inv.1⟩ ⟨_, rfl, .non⟩
    · exact fun v s H' i r z => z v H' ⟨i.2, i.1⟩ (r.le lc)
    · exact fun _ _ _ _ z => z.elim
    · exact fun _ _ _ _ z => z.elim
    · exact fun v x H' i r z => z v H' ⟨i.2, i.1⟩ ⟨v, rfl, Rp.to (c := c'.rel) (c' := c) rfl (fun _ z => ⟨z, fun y => y⟩) Kp.self r⟩
    · exact fun _ _ _ _ _ _ _ z => z.elim
/-- a def that lets nothing out -/
theorem fn_ok0 {x qual : Str} {st : Stmt} {f : Addr} {fd : FuncData} {N ps : List Str} {k : Nat} (C : Ctr) (F : Fun K x qual st f fd) (S : FnScope N ps (defScope st)) (hn : ps.length = C.n)
    (body : ∀ (cdv : Value) (A : Around) (outer : List Env) (s : Shared) (H : Hp) (E : XK), Room k (A.deeper (PyProof.Rows.envOfC qual (defScope st) s.heap.objs.size f cdv)) →
      PassesOwn (model P w) (cxOf (L2.CX P w) P w K mg base N qual (defScope st) f cdv A outer s H E).A (cxOf (L2.CX P w) P w K mg base N qual (defScope st) f cdv A outer s H E).env (cxOf (L2.CX P w) P w K mg base N qual (defScope st) f cdv A outer s H E).xe →
      ∃ ts ds, PDSs (cxOf (L2.CX P w) P w K mg base N qual (defScope st) f cdv A outer s H E) (fun cls d _ H => E cls d H) xw0 (defBody st) ts ds ∧
        ∀ ss kk xx, ss.length = C.n → C.f ss kk xx → ds { nx := fun _ => kk (.d .non), rt := kk } (startD N ss)) : FnOk P w K mg base (L2.CX P w) (k + 1) f fd ps (C.sp K) := by
  refine F.okX S (fun vs H Q E h => ?_) (fun cdv A outer s H vs Q E hr h => ?_)
  · obtain ⟨c, ss, _, _, r, hl, _⟩ := h
    rw [paired_len r, hl, hn]
  · obtain ⟨c, ss, eK, hi, r, hl, hf⟩ := h
    obtain ⟨ts, ds, pd, hd⟩ := body cdv A outer s H E hr (passes_of rfl)
    refine ⟨ts, pd.ps (takes_of rfl rfl rfl rfl), ?_⟩
    have q := hd ss _ _ hl hf
    let c' := c.sub.wth (Kp c.G H) (fun {H1 H2} k _ h => h.trans k)
    have lc : Le c c' := ⟨rfl, fun _ z => z, fun _ h => h.1, fun _ z => z, fun _ _ e => (nomatch e), fun _ z => ⟨z.1, fun y => y⟩, rfl, fun _ z => z⟩
    have s0 : StOk c' (L2.start N vs) H (startD N ss) := (start_ok (c := c.sub) hi (paired_sub r (C.no hf))).wth Kp.self
    refine pd.li c' eK WOk.zero _ _ ⟨?_, ?_, ?_, ?_, ?_, ?_⟩ _ _ _ s0 q
    · exact fun Γ σ H' st z => z .non H' ⟨st.inv.2, st.inv.1⟩ ⟨_, rfl, .non⟩
    · exact fun v s H' i r z => z v H' ⟨i.2, i.1⟩ (r.le lc)
    · exact fun _ _ _ _ z => z.elim
    · exact fun _ _ _ _ z => z.elim
    · exact fun v x H' i r z => z v H' ⟨i.2, i.1⟩ ⟨v, rfl, Rp.to (c := c'.rel) (c' := c) rfl (fun _ z => ⟨z, fun y => y⟩) Kp.self r⟩
    · exact fun _ _ _ _ _ _ _ z => z.elim
end
end Dv
set_option Elab.async false
set_option linter.all false
set_option maxRecDepth 100000
set_option maxHeartbeats 4000000
/-! Dt: comprehensions as expressions; try; the caught error; pools. -/
namespace Dv
open PySem L2
section
variable {X : Cx} {W : WX} {xw : XW} {K : PySem.W.Frag} {pos : Pos}
structure PDTs (X : Cx) (W : WX) (xw : XW) (es : List Expr) (tt : TT) (dt : DT) : Prop where
  pt : Takes X W → PTs X es tt
  li : LiT X.K W xw tt dt
theorem pdts_nil : PDTs X W xw [] tYes dYes := ⟨fun _ => pts_nil, fun c eK hW Γ k h σ H st Q q => q true H (Go.self st.inv) h⟩
/-- what may hang on the block's place, and does not -/
abbrev Blk (α : Type) := Shared → Hp → Addr → List (Str × Addr) → List Addr → α
abbrev Blk.at0 {α : Type} (X : Cx) (t : Blk α) : α := t X.s_0 X.H_0 0 [] []
/-- [e for x in xs if t] -/
theorem pd_lc {i : Nat} {x : Str} {tp : Pos} {elt iter : Expr} {ifs : List Expr} {scope : Scope} {wi : TI} {tt : Blk TT} {te : Blk TE} {di : DI} {dt : DT} {de : DE} (hc : X.calm = true) (hN : X.N.Nodup) (hi : PDI X W xw (.Name x tp) iter wi di) (ok : BlkOk X.N X.env.scope scope [(x, i)])
    (hg : ∀ (s : Shared) (H : Hp) (C : Addr) (cl : List (Str × Addr)) (fp : List Addr), PG (X.blk s H scope (compEnvC scope cl C X.env) fp) (.Name x tp) (gName i)) (ht : ∀ (s : Shared) (H : Hp) (C : Addr) (cl : List (Str × Addr)) (fp : List Addr), PDTs (X.blk s H scope (compEnvC scope cl C X.env) fp) W0 xw0 ifs (tt s H C cl fp) dt)
    (he : ∀ (s : Shared) (H : Hp) (C : Addr) (cl : List (Str × Addr)) (fp : List Addr), PD (X.blk s H scope (compEnvC scope cl C X.env) fp) W0 xw0 elt (te s H C cl fp) de) (hs : ∀ x, foldedSetIterable iter X.env x = pure x := by intro _; rfl)
    (htt : ∀ s H C cl fp, tt s H C cl fp = Blk.at0 X tt := by intros; rfl) (hte : ∀ s H C cl fp, te s H C cl fp = Blk.at0 X te := by intros; rfl) :
    PD X W xw (.ListComp elt [⟨.Name x tp, iter, ifs, 0⟩] scope pos) (tLc wi (gName i) (Blk.at0 X tt) (Blk.at0 X te) [i]) (dLc i di dt de) :=
  ⟨fun tk => pe_lc (own := [(x, i)]) hc hN (hi.pi tk) ok hg (fun s H C cl fp => htt s H C cl fp ▸ (ht s H C cl fp).pt takes0) (fun s H C cl fp => hte s H C cl fp ▸ (he s H C cl fp).pe takes0) hs, li_lc hi.li (ht X.s_0 X.H_0 0 [] []).li (he X.s_0 X.H_0 0 [] []).li⟩
/-! ### try .. except C as e -/
/-- an exception's object of which nothing is asked -/
abbrev oe0 (cls : Value) (d : Option Addr) : Obj := { cls := cls, dict := d, data := .fields #[] }
/-! ### the caught error -/
def dVal (C a : Addr) (cls : Value) (d : Option Addr) (e : DE) : DE := fun Γ k => e Γ fun s => match s with
  | .ex a' _ d' (some [(n, x)]) => a' = a ∧ cls = .ref C ∧ d' = d ∧ n = ("value" : Str) ∧ k (.d x)
  | _ => False
theorem pd_val {nm : Str} {C D fI a : Addr} {oe : Obj} {cls : Value} {d : Option Addr} {pn : List (Addr × Obj)} {e : Expr} {te : TE} {de : DE} (U : PySem.RoomX.RoomCls X.K X.mg nm C D fI) (hz : Zc cls d oe) (hf : ∃ vs, oe.data = .fields vs) (h : PD (X.suite a ((a, oe) :: pn)) W xw e te de)
    (hb : attributeBase e "value" X.env (eval e X.env) = eval e X.env := by rfl) : PD (X.suite a ((a, oe) :: pn)) W xw (.Attribute e "value" pos) (tValRoom C a cls d te) (dVal C a cls d de) :=
  ⟨fun tk => pe_valRoom U hz hf (h.pe tk) hb, fun c eK hW Γ k hd σ H st Q q => h.li c eK hW Γ _ hd σ H st _ fun v s H1 g r h1 => by
    try dsimp only at h1
    split at h1
    · obtain ⟨ea, e1, ed', en, hk⟩ := h1
      subst en
      have ev := Option.some.inj r.1
      rw [ea] at ev
      obtain ⟨_, xo⟩ := r
      rw [ed'] at xo
      cases z : d with
      | none =>
        rw [z] at xo
        exact xo.elim
      | some d1 =>
        rw [z] at xo
        obtain ⟨vs, nF, ed, rf⟩ := xo
        cases rf with
        | cons rv rn =>
          cases rn
          exact ⟨ev, e1, d1, _, rfl, ed, q _ (.d _) H1 g ⟨_, rfl, rv⟩ hk⟩
    · exact h1.elim⟩
end
end Dv
namespace L2
open PySem
end L2
namespace Dv
open PySem L2
section
variable {X : Cx} {W : WX} {xw : XW} {K : PySem.W.Frag} {pos : Pos}
end
end Dv
set_option Elab.async false
set_option linter.all false
set_option maxRecDepth 100000
set_option maxHeartbeats 4000000
/-! Dq: pools: made at the beginning of a law's turn, drawn from by take; the law's end. -/
namespace Dv
open PySem L2
/-! ### a pool more -/
def Cfg.ownP (c : Cfg) (p : Addr) (hp : ¬ c.F p) : Cfg where
  K := c.K
  F := fun b => c.F b ∨ b = p
  W := fun b => c.W b ∨ b = p
  G := fun b => c.G b ∨ b = p
  ow := c.ow
  I := fun H => c.I (rem H p) ∧ ∃ l, H p = some (.lst l) ∧ PoolL l
  pl := fun b => c.pl b ∨ b = p
  mono := fun {H H'} k h => ⟨c.mono (fun b u e => by
    obtain ⟨n, e⟩ := rem_sub e
    rw [rem_ne n]
    exact k b u e) h.1, let ⟨l, e, r⟩ := h.2; ⟨l, k p _ e, r⟩⟩
  live := fun {H b} h z => by
    rcases z with z | z
    · intro y
      refine c.live h.1 z ?_
      by_cases e : b = p
      · rw [e, rem_same]
      · rw [rem_ne e]
        exact y
    · obtain ⟨l, e, _⟩ := h.2
      rw [z, e]
      exact fun y => nomatch y
  WF := fun z => z.elim (fun z => .inl (c.WF z)) .inr
  GW := fun z => z.elim (fun z => .inl (c.GW z)) .inr
  plG := fun z => z.elim (fun z => .inl (c.plG z)) .inr
  owW := fun w => ⟨.inl (c.owW w).1, fun z => z.elim (c.owW w).2 fun e => hp (by rw [← e]; exact c.WF (c.owW w).1)⟩
  inj := c.inj
  owPut := fun {H k b o} h w so nf => by
    have n : b ≠ p := fun e => hp (by rw [← e]; exact c.WF (c.owW w).1)
    refine ⟨?_, ?_⟩
    · rw [rem_upd_ne n]
      exact c.owPut h.1 w so (fun ob u => by rw [rem_ne n]; exact nf ob u)
    · rw [upd_ne (Ne.symm n)]
      exact h.2
  tb := c.tb
  tabs := fun h => (c.tabs h.1).ext fun _ _ e => (rem_sub e).2
  ext := fun {H H1} h e t => by
    obtain ⟨l, y, pq⟩ := h.2
    have y1 := e p _ y (fun _ z => nomatch z)
    refine ⟨c.ext h.1 (fun b u z n => ?_) (fun p0 hp => ?_), l, y1, pq⟩
    · obtain ⟨z1, z2⟩ := rem_sub z
      rw [rem_ne z1]
      exact e b u z2 n
    · obtain ⟨ps, t1, t2, t3⟩ := t p0 hp
      have n1 : p0.1 ≠ p := fun q => by
        rw [q, y1] at t1
        cases t1
      refine ⟨ps, by rw [rem_ne n1]; exact t1, t2, fun pos cv hc => ?_⟩
      obtain ⟨c1, e1, e2⟩ := t3 pos cv hc
      refine ⟨c1, e1, ?_⟩
      rw [rem_ne (fun q => ?_)]
      · exact e2
      · rw [q, y1] at e2
        cases e2
  plAt := fun {H q} h z => by
    rcases z with z | z
    · obtain ⟨l, e, r⟩ := c.plAt h.1 z
      exact ⟨l, (rem_sub e).2, r⟩
    · rw [z]
      exact h.2
  plPut := fun {H q l} h z r => by
    rcases z with z | z
    · have n : q ≠ p := fun e => hp (by rw [← e]; exact c.plF z)
      refine ⟨?_, ?_⟩
      · rw [rem_upd_ne n]
        exact c.plPut h.1 z r
      · rw [upd_ne (Ne.symm n)]
        exact h.2
    · subst z
      refine ⟨?_, l, upd_same, r⟩
      rw [rem_upd]
      exact h.1
theorem Rp.ownP {c : Cfg} {H : Hp} {v : V} {d : D} {p : Addr} {hp : ¬ c.F p} (n : H p = none) (h : Rp c H v d) : Rp (c.ownP p hp) H v d := by
  have no : ∀ {b : Addr} {u : HO}, Rd H b u → b ≠ p := fun {b u} z e => by
    subst e
    rcases z with z | ⟨_, z⟩ <;> (rw [n] at z; cases z)
  refine Rp.rec (motive_1 := fun v d _ => Rp (c.ownP p hp) H v d) (motive_2 := fun vs ds _ => RpAll (c.ownP p hp) H vs ds) (motive_3 := fun vs ds _ => RpFs (c.ownP p hp) H vs ds) (motive_4 := fun vs ds _ => RpKv (c.ownP p hp) H vs ds)
    .non .bl .int .str ?_ ?_ ?_ ?_ ?_ ?_ .nil ?_ .nil ?_ .nil ?_ h
  · intro b xs ds m s _ r
    exact .lst (fun z => z.elim m fun e => no (.inl s) e) s r
  · intro b xs ds s _ r
    exact .scr (s.elim (fun z => .inl ⟨fun y => y.elim z.1 (no z.2), z.2⟩) .inr) r
  · intro b xs ds s _ r
    exact .tup (s.elim (fun z => .inl ⟨fun y => y.elim z.1 (no z.2), z.2⟩) .inr) r
  · intro b C dx fs ds m s _ r
    exact .obj (fun z => z.elim m fun e => no (.inl s) e) s r
  · intro b kvs ds ob m s _ r
    exact .dic (fun z => z.elim m fun e => no (.inl s) e) s r
  · intro b C oe d vs ds m s e x _ r
    exact .exn (fun z => z.elim m fun e => no (.inl s) e) s e (x.in_ fun dx u m2 s2 => ⟨fun z => z.elim m2 fun e => no (.inl s2) e, s2⟩) r
  · intro v d vs ds _ _ a b
    exact .cons a b
  · intro n v d vs ds _ _ a b
    exact .cons a b
  · intro n v d vs ds _ _ a b
    exact .cons a b
theorem RpFs.ownP {c : Cfg} {H : Hp} {a : Addr} {ha : ¬ c.F a} (n : H a = none) : ∀ {vs : List (Str × V)} {ds : List (Str × D)}, RpFs c H vs ds → RpFs (c.ownP a ha) H vs ds
  | _, _, .nil => .nil
  | _, _, .cons r t => .cons (r.ownP n) (RpFs.ownP n t)
theorem RpAll.ownP {c : Cfg} {H : Hp} {a : Addr} {ha : ¬ c.F a} (n : H a = none) : ∀ {vs : List V} {ds : List D}, RpAll c H vs ds → RpAll (c.ownP a ha) H vs ds
  | _, _, .nil => .nil
  | _, _, .cons r t => .cons (r.ownP n) (RpAll.ownP n t)
theorem RpKv.ownP {c : Cfg} {H : Hp} {a : Addr} {ha : ¬ c.F a} (n : H a = none) : ∀ {vs : List (Key × V)} {ds : List (Key × D)}, RpKv c H vs ds → RpKv (c.ownP a ha) H vs ds
  | _, _, .nil => .nil
  | _, _, .cons r t => .cons (r.ownP n) (RpKv.ownP n t)
theorem OwRp.ownP {c : Cfg} {H : Hp} {a b : Addr} {ha : ¬ c.F a} {d : D} (n : H a = none) (h : OwRp c H b d) : OwRp (c.ownP a ha) H b d := by
  cases d <;> try exact h
  · obtain ⟨xs, e, r⟩ := h
    exact ⟨xs, e, r.ownP n⟩
  · obtain ⟨dx, vs, e, r⟩ := h
    exact ⟨dx, vs, e, r.ownP n⟩
  · obtain ⟨vs, e, r⟩ := h
    exact ⟨vs, e, r.ownP n⟩
theorem SlOk.ownP {c : Cfg} {H : Hp} {a : Addr} {ha : ¬ c.F a} {u : Option V} {s : Sl} (n : H a = none) (h : SlOk c H u s) : SlOk (c.ownP a ha) H u s := by
  cases s with
  | any => trivial
  | v x => exact h
  | d x =>
    obtain ⟨v, e, r⟩ := h
    exact ⟨v, e, r.ownP n⟩
  | pool =>
    obtain ⟨p, e, r⟩ := h
    exact ⟨p, e, .inl r⟩
  | ex b cls dd p =>
    refine ⟨h.1, ?_⟩
    have x := h.2
    cases dd <;> cases p <;> first | exact x | skip
    obtain ⟨vs, m, e, r⟩ := x
    refine ⟨vs, fun z => z.elim m fun y => ?_, e, r.ownP n⟩
    rw [y, n] at e
    cases e
  | own k x =>
    obtain ⟨b, e, w, r⟩ := h
    exact ⟨b, e, w, r.ownP n⟩
  | tab T => exact h
  | bor ds =>
    obtain ⟨b, ob, kvs, e, g, q, r⟩ := h
    refine ⟨b, ob, kvs, e, fun z => ?_, q, r.ownP n⟩
    rcases z with z | y
    · exact g z
    · rw [y, n] at q
      cases q
/-- without pools -/
def unp1 : Sl → Sl
  | .pool => .any
  | s => s
def unp (Γ : Gm) : Gm := Γ.map unp1
theorem SlOk.unp {c : Cfg} {H : Hp} {a : Addr} {ha : ¬ c.F a} {u : Option V} {s : Sl} (h : SlOk (c.ownP a ha) H u s) : SlOk c H u (unp1 s) := by
  cases s with
  | any => trivial
  | v x => exact h
  | d x =>
    obtain ⟨v, e, r⟩ := h
    exact ⟨v, e, Rp.to (c := c.ownP a ha) (c' := c) rfl (fun _ z => Or.inl z) Kp.self r⟩
  | pool => trivial
  | ex b cls dd p => exact ⟨h.1, XOk.to (c := c.ownP a ha) (c' := c) rfl (fun _ z => Or.inl z) Kp.self h.2⟩
  | own k x =>
    obtain ⟨b, e, w, r⟩ := h
    exact ⟨b, e, w, OwRp.to (c := c.ownP a ha) (c' := c) rfl (fun _ z => Or.inl z) Kp.self (fun _ _ e => e) r⟩
  | tab T => exact h
  | bor ds =>
    obtain ⟨b, ob, kvs, e, g, q, r⟩ := h
    exact ⟨b, ob, kvs, e, fun z => g (.inl z), q, RpKv.to (c := c.ownP a ha) (c' := c) rfl (fun _ z => Or.inl z) Kp.self r⟩
theorem ownP_I {c : Cfg} {H : Hp} {a : Addr} {ha : ¬ c.F a} (h : (c.ownP a ha).I H) : c.I H := c.mono (fun _ _ e => (rem_sub e).2) h.1
theorem StOk.unp {c : Cfg} {H : Hp} {a : Addr} {ha : ¬ c.F a} {σ : St} {Γ : Gm} (h : StOk (c.ownP a ha) σ H Γ) : StOk c σ H (unp Γ) := by
  refine ⟨ownP_I h.inv, by rw [Dv.unp, List.length_map]; exact h.len, fun i o s e1 e2 => ?_⟩
  rw [Dv.unp, List.getElem?_map, Option.map_eq_some_iff] at e2
  obtain ⟨s0, e3, rfl⟩ := e2
  exact (h.at_ i o s0 e1 e3).unp
def intD (ns : List Int) : List D := ns.map D.int
/-- the promise of the maker of pools: a new list -/
def spPool (K : PySem.W.Frag) : Sp := fun vs H Q _ => ∃ (c : Cfg) (a : Addr) (ns : List Int) (j : Int), c.K = K ∧ c.I H ∧ vs = [.ref a, .int j] ∧ SqL K H a (ns.map V.int) ∧ ns.length ≤ 63 ∧ 0 ≤ j ∧ j < 100 ∧
  ∀ (p : Addr) (x y : Int), H p = none → 0 ≤ y → y < 4294967296 → Q (.ref p) (upd H p (.lst [.int x, .int y]))
def dPool (i : Nat) (da : DA) (dr : DS) : DS := fun D Γ => da Γ fun ss => match ss with
  | [.d (.scr xs), .d (.int j)] => (∃ ns : List Int, xs = intD ns ∧ ns.length ≤ 63) ∧ 0 ≤ j ∧ j < 100 ∧ dr { nx := fun Γ => D.nx (unp Γ), rt := fun s => D.rt (unp1 s), bk := fun Γ => D.bk (unp Γ), ct := fun Γ => D.ct (unp Γ), ro := D.ro, rg := fun s Γ => D.rg (unp1 s) (unp Γ) } (Γ.set i .pool)
  | _ => False
theorem rp_ints {c : Cfg} {H : Hp} : ∀ {vs : List V} {ns : List Int}, RpAll c H vs (intD ns) → vs = ns.map V.int
  | [], [], _ => rfl
  | _ :: _, [], h => by cases h
  | [], _ :: _, h => by cases h
  | v :: vs, n :: ns, h => by
    cases h with
    | cons a b => rw [rp_int a, rp_ints b]; rfl
theorem ints_rp {c : Cfg} {H : Hp} : ∀ (ns : List Int), RpAll c H (ns.map V.int) (intD ns)
  | [] => .nil
  | n :: ns => .cons (.int n) (ints_rp ns)
section
variable {X : Cx} {W : WX} {K : PySem.W.Frag}
theorem pdss_pool {f : Addr} {fd : FuncData} {ps : List Str} {k i : Nat} {x fx : Str} {p px pos spos : Pos} {e1 e2 : Expr} {ta : TA} {da : DA} {rest : List Stmt} {tr : TS} {dr : DS} (F : FnOk X.prog X.w X.K X.mg X.base (L2.CX X.prog X.w) k f fd ps (spPool X.K)) (hr : Room k X.A) (hm : X.mg fx = some (.ref f)) (hk : PySem.W.keepIn X.K (.ref f) = true) (hb : Binds X.K fd ps []) (hN : X.N.Nodup)
    (a : PDA X W xw0 [e1, e2] ta da) (r : PDSs X W xw0 rest tr dr) (hg : Gl X fx := by rfl) (hi : X.N[i]? = some x := by rfl) (hx : Loc X.env.scope x := by first | exact Or.inl rfl | exact Or.inr rfl)
    (hdb : (fx == ("__debug__" : Str)) = false := by decide) (he : starEach (e1 :: [e2]) X.env = (false, eval e1 X.env) :: starEach [e2] X.env := by rfl) (hpl : (backTo pos (starEach [e2] X.env)).any (·.1) = false := by rfl)
    (hs : swapsWith (.Call (.Name fx p) [e1, e2] [] pos) (some (.Name x px)) spos.line X.env = pure false := by rfl) (hf : X.fn x = true ∨ X.env.scope.names.lookup x = some .local := by first | exact .inl rfl | exact .inr rfl | assumption) :
    PDSs X W xw0 (.Assign [.Name x px] (.Call (.Name fx p) [e1, e2] [] pos) spos :: rest) (tSeq (tAsg (tCall (spPool X.K) [] E0 ta) (gName i)) tr) (dPool i da dr) :=
  ⟨fun tk => pss_cons (ps_set hN hi hx (pe_call F hr hg hm hk hb .nil passL (a.pa tk) hdb he hpl) hs hf) (r.ps tk), fun c eK hW E D o Γ σ H s hd => a.li c eK hW Γ _ hd σ H s _ fun vs ss H1 g rr h => by
    try dsimp only at h
    split at h
    · obtain ⟨⟨ns, e, hl⟩, h0, h1, hd⟩ := h
      subst e
      obtain ⟨v, w, rfl, ⟨v', ev, rv⟩, rw⟩ := paired2 rr
      cases ev
      have e2 := sl_int rw
      subst e2
      cases rv with
      | scr il ra =>
        have ee := rp_ints ra
        subst ee
        refine ⟨c, _, ns, _, eK, g.inv, rfl, by rw [← eK]; exact il.sq, hl, h0, h1, fun q x y nq y0 y1 => ?_⟩
        have nP : ¬ c.F q := c.fresh g.inv nq
        have sg := s.go g
        have s1 : StOk (c.ownP q nP) σ (upd H1 q (.lst [.int x, .int y])) Γ := by
          refine ⟨⟨by rw [rem_upd, rem_new nq]; exact g.inv, _, upd_same, ⟨x, y, rfl, y0, y1⟩⟩, s.len, fun i o' s' q1 q2 => ?_⟩
          exact ((sg.at_ i o' s' q1 q2).ownP (ha := nP) nq).go (Kp.new nq)
        refine r.li (c.ownP q nP) eK WOk.zero E { nx := fun Γ => D.nx (unp Γ), rt := fun s => D.rt (unp1 s), bk := fun Γ => D.bk (unp Γ), ct := fun Γ => D.ct (unp Γ), ro := D.ro, rg := fun s Γ => D.rg (unp1 s) (unp Γ) } ⟨?_, ?_, ?_, ?_, ?_, fun v s Γ σ H st r z => o.rg v _ _ σ H st.unp r.unp z⟩ _ _ _ (s1.set (s := .pool) ⟨q, rfl, .inr rfl⟩) hd
        · exact fun Γ σ H s z => o.nx _ σ H s.unp z
        · exact fun v s H i r z => o.rt v _ H (ownP_I i) r.unp z
        · exact fun Γ σ H s z => o.bk _ σ H s.unp z
        · exact fun Γ σ H s z => o.ct _ σ H s.unp z
        · exact fun v x H i r z => o.ro v x H (ownP_I i) (Rp.to (c := (c.ownP q nP).rel) (c' := c.rel) rfl (fun b y => ⟨.inl y.1, fun w => w.elim (fun w => .inl (y.2 w)) .inr⟩) Kp.self r) z
    · exact h.elim⟩
end
/-! ### what take tells -/
def cTake : Ctr where
  n := 2
  f := fun ss k _ => match ss with
    | [.pool, .d (.int m)] => 0 < m ∧ m.natAbs.log2 < 9000 ∧ ∀ r : Int, 0 ≤ r → r < m → k (.d (.int r))
    | _ => False
  mono := fun {ss k k' x x'} hk _ h => by
    split at h
    · exact ⟨h.1, h.2.1, fun r h0 h1 => hk _ (h.2.2 r h0 h1)⟩
    · exact h.elim
/-! ### the law's end -/
def cLaw : Ctr where
  n := 1
  f := fun ss k _ => match ss with
    | [.d (.scr xs)] => (∃ ns : List Int, xs = intD ns ∧ ns.length ≤ 63) ∧ k (.d (.bl true))
    | _ => False
  mono := fun {ss k k' x x'} hk _ h => by
    split at h
    · exact ⟨h.1, hk _ h.2⟩
    · exact h.elim
def cBase (K : PySem.W.Frag) : Cfg where
  K := K
  F := fun _ => False
  W := fun _ => False
  G := fun _ => False
  I := fun _ => True
  pl := fun _ => False
  ow := fun _ => none
  mono := fun _ h => h
  live := fun _ z => z.elim
  WF := fun z => z
  GW := fun z => z
  plG := fun z => z
  owW := fun z => nomatch z
  inj := fun z => nomatch z
  plAt := fun _ z => z.elim
  plPut := fun _ z => z.elim
  owPut := fun _ z _ _ => nomatch z
  tb := []
  tabs := fun _ p hp => by cases hp
  ext := fun h _ _ => h
theorem law_sp {K : PySem.W.Frag} {H : Hp} {a : Addr} {ns : List Int} (hl : ns.length ≤ 63) (h : SqL K H a (ns.map V.int)) : cLaw.sp K [.ref a] H (fun v _ => v = .bl true) fun _ _ _ => False := by
  refine ⟨cBase K, [.d (.scr (intD ns))], rfl, trivial, .cons ⟨_, rfl, .scr ?_ (ints_rp ns)⟩ .nil, rfl, ⟨ns, rfl, hl⟩, fun v H' _ r => sl_bl r⟩
  rcases h with h | h
  · exact .inl ⟨fun z => z, h⟩
  · exact .inr h
theorem law_cx {P : Program} {w : World} {l : List Env} {H : Hp} {s : Shared} {e : Value} {s' : Shared} (h : L2.CX P w l H s (fun _ _ _ => False) e s') : False := by
  obtain ⟨_, _, _, _, _, _, _, _, _, _, _, _, z⟩ := h
  exact z
end Dv
namespace Dv
open PySem L2
/-! ### what the top has written -/
structure FnAt (K : PySem.W.Frag) (mg : Str → Option Value) (x qual : Str) (st : Stmt) (ps : List Str) (f : Addr) (fd : FuncData) : Prop where
  F : Fun K x qual st f fd
  m : mg x = some (.ref f)
  b : Binds K fd ps []
theorem exm_self {K : PySem.W.Frag} {mg : Str → Option Value} {nm : Str} {C D fI : Addr} (U : PySem.RoomX.RoomCls K mg nm C D fI) : PySem.W.exmOne K (.ref C) (.ref C) = some true := PySem.W.exm_ref U.exC U.hdC U.tyC U.scC
theorem exm_other {K : PySem.W.Frag} {mg : Str → Option Value} {nm : Str} {A C D fI : Addr} {b : Bool} (U : PySem.RoomX.RoomCls K mg nm C D fI) (h : PySem.W.subIn K (.ref A) (.ref C) = some b) : PySem.W.exmOne K (.ref A) (.ref C) = some b := PySem.W.exm_ref U.exC U.hdC U.tyC h
/-! ### helps -/
theorem len_ok {n : Nat} (h : Nat.ble n 100000 = true) : n ≤ 100000 := Nat.le_of_ble_eq_true h
theorem forD_inv {g : DG} {b : DS} {E : DEnds} (Inv : Gm → Prop) (hd : ∀ Γ, Inv Γ → E.nx Γ) : ∀ (xs : List D), (∀ x ∈ xs, ∀ Γ, Inv Γ → ∀ N : Gm → Prop, (∀ Γ', Inv Γ' → N Γ') → g x Γ fun Γ' => b { E with nx := N, ct := N, bk := E.nx } Γ') → ∀ Γ, Inv Γ → forD g b E xs Γ
  | [], _, Γ, h => hd Γ h
  | x :: r, hs, Γ, h => hs x List.mem_cons_self Γ h _ fun Γ' h' => forD_inv Inv hd r (fun y hy => hs y (List.mem_cons_of_mem _ hy)) Γ' h'
theorem deq_self {d : D} (h : okD d = true) : deq d d = true := SeqAt.eqv_refl (toPy d) (SeqAt.canLay_of_shaped h)
theorem deq_int (i j : Int) : deq (.int i) (.int j) = decide (i = j) := by
  show PyData.eqv (.int i) (.int j) = _
  rw [PyData.eqv]
  by_cases h : i = j <;> simp [h]
theorem intsFrom_mem {x : D} : ∀ {lo : Int} {n : Nat}, x ∈ intsFrom lo n → ∃ i : Int, x = .int i ∧ lo ≤ i ∧ i < lo + n
  | _, 0, h => by cases h
  | lo, n + 1, h => by
    rw [intsFrom] at h
    rcases List.mem_cons.mp h with rfl | h
    · exact ⟨lo, rfl, by omega, by omega⟩
    · obtain ⟨i, e, h1, h2⟩ := intsFrom_mem h
      exact ⟨i, e, by omega, by omega⟩
theorem mulW_of {i j : Int} {a b : Nat} (hi : i.natAbs < 2 ^ a) (hj : j.natAbs < 2 ^ b) (ha : 0 < a) (hb : 0 < b) (h : a + b ≤ 1000000) : CMulW i j := wide_mul hi hj ha hb h
end Dv
set_option Elab.async false
set_option linter.all false
set_option maxRecDepth 100000
set_option maxHeartbeats 4000000
/-! ObjX: own instances: made, called, combined, where what is raised is wished for at the caller's slots. -/
namespace L2
open PySem PySem.Spec PyProof.Rows
section
variable {X : Cx} {CX : CXT} {k : Nat} {f g C p0 : Addr} {fd : FuncData} {ps : List Str} {sp : Sp} {dvs : List V} {ds : List Value} {E : St → XK} {x m : Str} {p pos apos : Pos} {e o fe : Expr} {es : List Expr} {t : TA} {ta tf : TE}
variable {pins : List (Addr × Obj)} {σ : St} {H : Hp} {s : Shared} {Q : VK} {us : List Value} {vs : List V}
theorem run_rawS (F : FnR X.prog X.w X.K X.mg X.base CX k g sp) (hr : Room k X.A) (hx : PassesAt CX X σ (E σ)) (I : Inv X pins σ H s) (r : Vals vs us) (h : sp vs H Q (E σ)) :
    codeAny (model X.prog X.w) X.A (.call (.ref g) ⟨us, []⟩) (fun r s' => match r with | .ok (.ret v) => EP X pins σ Q v s' | .ok _ => False | .error e => X.xe e s') s := by
  refine codeAny_mono (F X.A X.stack s H us vs Q (E σ) hr I.env0 r h) fun r s' hq => ?_
  cases r with
  | error e => exact hx pins H s e s' I hq
  | ok fl =>
    cases fl with
    | ret u => exact I.after hq
    | next => exact False.elim hq
    | brk => exact False.elim hq
    | cont => exact False.elim hq
/-! ### C(..) -/
def tMakeS (C : Addr) (sp : Sp) (dvs : List V) (E : St → XK) (t : TA) : TE := fun σ H Q => t σ H fun vs H1 => ∀ x dx, H1 x = none → H1 dx = none → dx ≠ x →
  sp (.ref x :: (vs ++ dvs)) (upd (upd H1 dx (.own x)) x (.ins C dx [])) (fun v H2 => v = .non ∧ Q (.ref x) H2) (E σ)
theorem run_makeS (M : Mk X.K C f) (F : FnOk X.prog X.w X.K X.mg X.base CX k f fd ps sp) (hr : Room (k + 1) X.A) (hb : Binds X.K fd ps ds) (hd : Vals dvs ds) (hx : PassesAt CX X σ (E σ)) (I : Inv X pins σ H s) (r : Vals vs us)
    (h : ∀ x dx, H x = none → H dx = none → dx ≠ x → sp (.ref x :: (vs ++ dvs)) (upd (upd H dx (.own x)) x (.ins C dx [])) (fun v H2 => v = .non ∧ Q (.ref x) H2) (E σ)) :
    wpAny (model X.prog X.w) X.A (call (.ref C) us) (EP X pins σ Q) X.xe s := by
  have hq := h (s.heap.objs.size + 1) s.heap.objs.size (I.hok.fresh (Nat.le_succ _)) (I.hok.fresh (Nat.le_refl _)) (Nat.ne_of_lt (Nat.lt_succ_self _))
  have I2 := Inv.made (C := C) I
  have r2 : Vals (V.ref (s.heap.objs.size + 1) :: (vs ++ dvs)) (Value.ref (s.heap.objs.size + 1) :: (us ++ ds)) := .cons rfl (r.append hd)
  have hl : (Value.ref (s.heap.objs.size + 1) :: us ++ ds).length = ps.length := by
    have e := r2.length
    rw [F.len _ _ _ _ hq] at e
    exact e.symm
  refine wpAny_call (make_map (f := f) I.kIn M.makes M.init (beq_iff_eq.mp M.fn) (codeAny_mono (F.run _ X.stack _ _ ⟨Value.ref (s.heap.objs.size + 1) :: us, []⟩ (Value.ref (s.heap.objs.size + 1) :: (us ++ ds)) _ _ (E σ) (hr.make C us [])
    (I2.env0.make C us []) (hb _ (Value.ref (s.heap.objs.size + 1) :: us) I2.kIn hl) r2 hq) fun r s' hq' => ?_))
  cases r with
  | error e => exact hx pins _ _ e s' I2 hq'
  | ok fl =>
    cases fl with
    | ret u =>
      obtain ⟨v, H', I3, rv, ev, q3⟩ := I2.after hq'
      subst ev
      exact ⟨rv, ⟨V.ref (s.heap.objs.size + 1), H', I3, rfl, q3⟩⟩
    | next => exact False.elim hq'
    | brk => exact False.elim hq'
    | cont => exact False.elim hq'
theorem pe_makeS (M : Mk X.K C f) (F : FnOk X.prog X.w X.K X.mg X.base CX k f fd ps sp) (hr : Room (k + 1) X.A) (hg : Gl X x) (hm : X.mg x = some (.ref C)) (hb : Binds X.K fd ps ds) (hd : Vals dvs ds) (hx : ∀ σ, PassesAt CX X σ (E σ))
    (ha : PA X (e :: es) t) (hdb : (x == ("__debug__" : Str)) = false := by decide) (he : starEach (e :: es) X.env = (false, eval e X.env) :: starEach es X.env := by rfl) (hpl : (backTo pos (starEach es X.env)).any (·.1) = false := by rfl) :
    PE X (.Call (.Name x p) (e :: es) [] pos) (tMakeS C sp dvs E t) := by
  refine ⟨fun pins s σ H Q I h => ?_⟩
  refine wpAny_Call_Name_kw (ld_glob I hg hm ?_ hdb)
  refine PySem.W.callWith_K (h₀ := X.base) I.ok.mod.kin M.kp (thn (ha.run pos pins s σ H _ I h) fun us s1 ⟨vs, H1, I1, r, q⟩ => ⟨I1.kIn, ?_⟩) he hpl
  exact run_makeS M F hr hb hd (hx σ) I1 r q
/-! ### C.m(..), m a staticmethod -/
structure SMet (K : PySem.W.Frag) (C : Addr) (mc : Value) (m : Str) (p g : Addr) : Prop where
  rd : PySem.W.readsIn K C mc = true
  ga : PySem.W.specialIn K (.ref C) "__getattribute__" = some (some (.builtin "type.__getattribute__"))
  at_ : PySem.W.findCls K (.ref C) mc m = some (.get (.builtin "staticmethod.__get__") (.ref p) .none (.ref C))
  rc : ∃ rest, PySem.W.recIn K p "staticmethod" = some (.ref g :: rest)
  kp : PySem.W.keepIn K (.ref g) = true
/-! ### o.m(..) -/
/-! ### o(..) -/
def tCallOS (C : Addr) (sp : Sp) (E : St → XK) (tf : TE) (t : TA) : TE := fun σ H Q => tf σ H fun y H1 => ∃ a, y = V.ref a ∧ t σ H1 fun vs H2 => (∃ dx fs, H2 a = some (.ins C dx fs)) ∧ sp (V.ref a :: vs) H2 Q (E σ)
theorem pe_callOS (hf : PE X fe tf) (c : StX.CallO X.K C g) (F : FnR X.prog X.w X.K X.mg X.base CX k g sp) (hr : Room k X.A) (hx : ∀ σ, PassesAt CX X σ (E σ)) (ha : PA X (e :: es) t)
    (ht : eval (.Call fe (e :: es) [] pos) X.env = (do callWith pos (← eval fe X.env) [] (backTo pos (starEach (e :: es) X.env)) (backToKw pos (keywordEach [] X.env))) := by rfl)
    (he : starEach (e :: es) X.env = (false, eval e X.env) :: starEach es X.env := by rfl) (hpl : (backTo pos (starEach es X.env)).any (·.1) = false := by rfl) : PE X (.Call fe (e :: es) [] pos) (tCallOS C sp E tf t) := by
  refine ⟨fun pins s σ H Q I h => ?_⟩
  refine Call_ (thn (hf.run pins s σ H _ I h) fun u s1 ⟨y, H1, I1, ry, a, ey, q⟩ => ?_) ht
  subst ey
  obtain rfl : u = Value.ref a := ry
  refine StX.callO_with (thn (ha.run pos pins s1 σ H1 _ I1 q) fun us s2 ⟨vs, H2, I2, r, hi, q2⟩ => ?_) he hpl
  obtain ⟨ox, od, J, hd⟩ := StX.insC_at I2 (.inr hi)
  refine ⟨⟨C, ox, od, J, hd⟩, ?_⟩
  exact wpAny_call (PySem.W.kco_code I2.kIn J hd c.at_ c.fn c.fi (run_rawS (us := .ref a :: us) (vs := .ref a :: vs) F hr (hx σ) I2 (.cons rfl r) q2))
/-! ### operators -/
/-- what K says of an operator of the class at C: the def at g -/
structure OwnOp (K : PySem.W.Frag) (C g : Addr) (op : Operator) : Prop where
  sf : PySem.W.selfFirst K C = true
  at_ : PySem.W.findIn K (.ref C) (PySem.dunder op.info.2) = some (some (.ref g))
  fn : PySem.W.isFn K (.ref g) = true
  rf : PySem.W.findIn K (.ref C) (dunderR op.info.2) = some none
/-- .. beside a value of a built-in class -/
structure OwnOpT (K : PySem.W.Frag) (C : Addr) (op : Operator) (T : String) : Prop where
  h1 : ∃ fo, PySem.W.findIn K (.type T) (PySem.dunder op.info.2) = some fo
  h2 : ∃ ro, PySem.W.findIn K (.type T) (dunderR op.info.2) = some ro
  sub : PySem.W.subIn K (.type T) (.ref C) = some false
/-- a value whose class is T -/
inductive BiT (K : PySem.W.Frag) (H : Hp) : V → String → Prop where
  | non : BiT K H .non "NoneType"
  | bl (b : Bool) : BiT K H (.bl b) "bool"
  | int (i : Int) : BiT K H (.int i) "int"
  | str (x : Str) : BiT K H (.str x) "str"
end
end L2
namespace L2
open PySem PySem.Spec PyProof.Rows PySem.W
section
variable {X : Cx} {CX : CXT} {k : Nat} {g C : Addr} {sp : Sp} {E : St → XK}
variable {pins : List (Addr × Obj)} {σ : St} {H : Hp} {s : Shared}
end
end L2
namespace L2
open PySem PySem.Spec PyProof.Rows PySem.W
section
variable {prog : Program} {w : World} {A : Around} {E : Value → Shared → Prop} {s : Shared} {K : Frag} {x C f : Addr} {ox : Obj} {od : Option Obj} {b tb : Value}
end
/-- what K says of a class with an own __eq__ -/
structure OwnEqC (K : Frag) (C g : Addr) : Prop where
  eq : findIn K (.ref C) "__eq__" = some (some (.ref g))
  ne : findIn K (.ref C) "__ne__" = some (some (.builtin "object.__ne__"))
  fn : isFn K (.ref g) = true
  ob : mroIn K C (.type "object") = some true
section
variable {X : Cx} {CX : CXT} {k : Nat} {g C : Addr} {sp : Sp} {E : XK}
end
end L2
set_option Elab.async false
set_option linter.all false
set_option maxRecDepth 100000
set_option maxHeartbeats 4000000
/-! Do: own instances as data. -/
namespace Dv
open PySem L2
/-! ### a maker's contract: of the arguments behind self, of the fields in the end, of an error -/
structure CtrI where
  n : Nat
  f : List Sl → (List (Str × D) → Prop) → (Addr → XP → Prop) → Prop
  mono : ∀ {ss : List Sl} {k k' : List (Str × D) → Prop} {x x' : Addr → XP → Prop}, (∀ s, k s → k' s) → (∀ C p, x C p → x' C p) → f ss k x → f ss k' x'
  no : ∀ {ss : List Sl} {k : List (Str × D) → Prop} {x : Addr → XP → Prop}, f ss k x → noOwn ss = true := by (intro ss k x h; (try dsimp only at h); split at h <;> first | rfl | exact h.elim)
def CtrI.sp (C : CtrI) (K : PySem.W.Frag) (Cl : Addr) : Sp := fun vs H Q E => ∃ (c : Cfg) (ss : List Sl) (a dx : Addr) (H0 : Hp) (us : List V), c.K = K ∧ c.I H0 ∧ vs = .ref a :: us ∧ H0 a = none ∧ H0 dx = none ∧ dx ≠ a ∧ H = upd (upd H0 dx (.own a)) a (.ins Cl dx []) ∧
  Paired (fun v s => SlOk c H0 (some v) s) us ss ∧ ss.length = C.n ∧ C.f ss (fun fs => ∀ H', Go c H0 H' → Rp c H' (.ref a) (.obj Cl fs) → Q .non H') (fun A p => ∀ d H', Go c H0 H' → XOk c H' d p → E (.ref A) d H')
theorem noOwn_cons {s : Sl} {r : List Sl} (h : noOwn (s :: r) = true) : (∀ j x, s ≠ .own j x) ∧ noOwn r = true := by
  cases s with
  | own j x => cases h
  | any => exact ⟨fun _ _ z => (nomatch z), h⟩
  | v x => exact ⟨fun _ _ z => (nomatch z), h⟩
  | d x => exact ⟨fun _ _ z => (nomatch z), h⟩
  | pool => exact ⟨fun _ _ z => (nomatch z), h⟩
  | ex a cls dd p => exact ⟨fun _ _ z => (nomatch z), h⟩
  | tab T => exact ⟨fun _ _ z => (nomatch z), h⟩
  | bor ds => exact ⟨fun _ _ z => (nomatch z), h⟩
theorem clr_noOwn {k : Nat} : ∀ {Γ : Gm}, noOwn Γ = true → clr k Γ = Γ
  | [], _ => rfl
  | s :: r, h => by
    obtain ⟨h1, h2⟩ := noOwn_cons h
    show _ :: clr k r = _
    rw [clr_noOwn h2]
    cases s with
    | own j x => exact (h1 j x rfl).elim
    | any => rfl
    | v x => rfl
    | d x => rfl
    | pool => rfl
    | ex a cls dd p => rfl
    | tab T => rfl
    | bor ds => rfl
theorem noOwn_append : ∀ {l r : List Sl}, noOwn l = true → noOwn r = true → noOwn (l ++ r) = true
  | [], _, _, h => h
  | s :: l, r, h, h' => by
    obtain ⟨h1, h2⟩ := noOwn_cons h
    have z := noOwn_append h2 h'
    cases s with
    | own j x => exact (h1 j x rfl).elim
    | any => exact z
    | v x => exact z
    | d x => exact z
    | pool => exact z
    | ex a cls dd p => exact z
    | tab T => exact z
    | bor ds => exact z
theorem noOwn_any : ∀ n : Nat, noOwn (List.replicate n .any) = true
  | 0 => rfl
  | n + 1 => noOwn_any n
theorem slot_at {σ : St} {Γ : Gm} {i : Nat} {s : Sl} (h : σ.length = Γ.length) (e : Γ[i]? = some s) : ∃ o, σ[i]? = some o := by
  cases z : σ[i]? with
  | some o => exact ⟨o, rfl⟩
  | none =>
    rw [List.getElem?_eq_none_iff, h] at z
    rw [List.getElem?_eq_none z] at e
    cases e
/-- where a maker ends: what self holds -/
def iEnd (Cl : Addr) (kk : List (Str × D) → Prop) : Gm → Prop := fun Γ => ∃ fs, Γ[0]? = some (.own 0 (.obj Cl fs)) ∧ kk fs
/-- a def of the text, with what defaults ever -/
structure FunD (K : PySem.W.Frag) (x qual : Str) (st : Stmt) (f : Addr) (fd : FuncData) : Prop where
  ex : ∃ (oc : Value) (od : Option Addr) (dV kV doc pm : Value) (an : Option Addr) (cdv ct : Value) (osl : Array (Option Value)),
    fd = PySem.W.fnOf x qual (defArgs st) (defBody st) (defScope st) dV kV doc pm an cdv ct ∧ K.lookup f = some ⟨oc, od, .func fd, osl⟩ ∧ PySem.W.codeIn K cdv qual = true
  kp : PySem.W.keepIn K (.ref f) = true
theorem FunD.of {K : PySem.W.Frag} {x qual : Str} {st : Stmt} {f : Addr} {fd : FuncData} (F : Fun K x qual st f fd) : FunD K x qual st f fd := by
  obtain ⟨oc, od, kV, doc, pm, an, cdv, ct, osl, h⟩ := F.ex
  exact ⟨⟨oc, od, .none, kV, doc, pm, an, cdv, ct, osl, h⟩, F.kp⟩
section
variable {P : Program} {w : World} {K : PySem.W.Frag} {mg : Str → Option Value} {base : Heap}
theorem FunD.okX {x qual : Str} {st : Stmt} {f : Addr} {fd : FuncData} {N ps : List Str} {k : Nat} {sp : Sp} (F : FunD K x qual st f fd) (S : FnScope N ps (defScope st)) (len : ∀ vs H Q E, sp vs H Q E → vs.length = ps.length)
    (hbody : ∀ (cdv : Value) (A : Around) (outer : List Env) (s : Shared) (H : Hp) (vs : List V) (Q : VK) (E : XK), Room k (A.deeper (PyProof.Rows.envOfC qual (defScope st) s.heap.objs.size f cdv)) → sp vs H Q E →
      ∃ t, PSs (cxOf (L2.CX P w) P w K mg base N qual (defScope st) f cdv A outer s H E) (defBody st) t ∧ t { nx := fun _ H' => Q .non H', rt := Q } (L2.start N vs) H) : FnOk P w K mg base (L2.CX P w) (k + 1) f fd ps sp := by
  obtain ⟨oc, od, dV, kV, doc, pm, an, cdv, ct, osl, e, lk, hcd⟩ := F.ex
  subst e
  exact fn_of lk hcd S len fun A outer s H vs Q E hr hsp => hbody cdv A outer s H vs Q E hr hsp
theorem fn_init {x qual : Str} {st : Stmt} {f Cl : Addr} {fd : FuncData} {N ps : List Str} {k : Nat} (C : CtrI) (F : FunD K x qual st f fd) (S : FnScope N ps (defScope st)) (hn : ps.length = C.n + 1)
    (body : ∀ (cdv : Value) (A : Around) (outer : List Env) (s : Shared) (H : Hp) (E : XK) (xw : XW), Room k (A.deeper (PyProof.Rows.envOfC qual (defScope st) s.heap.objs.size f cdv)) →
      PassesOwn (model P w) (cxOf (L2.CX P w) P w K mg base N qual (defScope st) f cdv A outer s H E).A (cxOf (L2.CX P w) P w K mg base N qual (defScope st) f cdv A outer s H E).env (cxOf (L2.CX P w) P w K mg base N qual (defScope st) f cdv A outer s H E).xe →
      ∃ ts ds, PDSs (cxOf (L2.CX P w) P w K mg base N qual (defScope st) f cdv A outer s H E) (fun cls d _ H => E cls d H) xw (defBody st) ts ds ∧
        ∀ ss kk xx, ss.length = C.n → C.f ss kk xx → (xw = fun A p _ => xx A p) → ds { nx := iEnd Cl kk } (startD N (.own 0 (.obj Cl []) :: ss))) : FnOk P w K mg base (L2.CX P w) (k + 1) f fd ps (C.sp K Cl) := by
  refine F.okX S (fun vs H Q E h => ?_) (fun cdv A outer s H vs Q E hr h => ?_)
  · obtain ⟨c, ss, a, dx, H0, us, _, _, rfl, _, _, _, _, r, hl, _⟩ := h
    rw [List.length_cons, paired_len r, hl, hn]
  · obtain ⟨c, ss, a, dx, H0, us, eK, hi, rfl, na, nd, ne, rfl, r, hl, hf⟩ := h
    obtain ⟨ts, ds, pd, hd⟩ := body cdv A outer s _ E (fun A p _ => ∀ d H', Go c H0 H' → XOk c H' d p → E (.ref A) d H') hr (passes_of rfl)
    refine ⟨ts, pd.ps (takes_of rfl rfl rfl rfl), ?_⟩
    have q := hd ss _ _ hl hf rfl
    let c1 := c.sub.wth (Kp c.G H0) (fun {H1 H2} k _ h => h.trans k)
    have ha : ¬ c1.F a := c.fresh hi na
    have nO := C.no hf
    have rp : Paired (fun v s => SlOk c.sub H0 (some v) s) (.ref a :: us) (.any :: ss) := .cons (show SlOk c.sub H0 (some (.ref a)) .any from trivial) (paired_sub r nO)
    have s0 : StOk c1 (L2.start N (.ref a :: us)) H0 (startD N (.any :: ss)) := (start_ok (c := c.sub) hi rp).wth Kp.self
    have kp : ∀ b o, H0 b = some o → (upd (upd H0 dx (.own a)) a (.ins Cl dx [])) b = some o := fun b o e => by
      rw [upd_ne (ne_of_none e na), upd_ne (ne_of_none e nd)]
      exact e
    have s1 := s0.mine (k := 0) ha na kp ⟨_, upd_same, rfl⟩
    rw [show clr 0 (startD N (.any :: ss)) = startD N (.any :: ss) from clr_noOwn (noOwn_append (l := .any :: ss) nO (noOwn_any _))] at s1
    have s2 := s1.set (i := 0) (o := some (.ref a)) (s := .own 0 (.obj Cl [])) ⟨a, rfl, (by show (if (0 : Nat) = 0 then some a else c1.ow 0) = some a; exact if_pos rfl), dx, [], upd_same, .nil⟩
    have g1 : ∀ {H' : Hp}, (c1.mine 0 a ha).I H' → Go c H0 H' := fun {H'} i => ⟨fun b o nb t e => (rem_sub (i.1.2 b o nb t e)).2, c.mono (fun _ _ e => (rem_sub e).2) i.1.1⟩
    have lF : ∀ b, c.F b → (c1.mine 0 a ha).F b := fun _ z => .inl z
    refine pd.li (c1.mine 0 a ha) eK ?_ _ _ ⟨?_, ?_, ?_, ?_, ?_, ?_⟩ _ _ _ s2 q
    · exact fun σ H' Γ A d p st x z => z d H' (g1 st.inv) (XOk.to (c := c1.mine 0 a ha) (c' := c) rfl lF Kp.self x)
    · rintro Γ σ H' st ⟨fs, e0, kk⟩
      obtain ⟨o1, e1⟩ := slot_at st.len e0
      obtain ⟨b, eb, wb, rb⟩ := st.at_ 0 _ _ e1 e0
      have ww : some a = some b := wb
      cases ww
      exact kk H' (g1 st.inv) ((OwRp.to (c := c1.mine 0 a ha) (c' := c) rfl lF Kp.self (fun _ _ e => e) rb).rp ha)
    · exact fun _ _ _ _ _ z => z.elim
    · exact fun _ _ _ _ z => z.elim
    · exact fun _ _ _ _ z => z.elim
    · exact fun _ _ _ _ _ z => z.elim
    · exact fun _ _ _ _ _ _ _ z => z.elim
end
section
variable {X : Cx} {W : WX} {xw : XW} {K : PySem.W.Frag} {pos : Pos}
/-! ### C(..) -/
def dNew (CI : CtrI) (Cl : Addr) (dd : List D) (xw : XW) (a : DA) : DE := fun Γ k => a Γ fun ss => (ss ++ dd.map Sl.d).length = CI.n ∧ CI.f (ss ++ dd.map Sl.d) (fun fs => k (.d (.obj Cl fs))) fun A p => xw A p Γ
theorem paired_append {α β : Type} {F : α → β → Prop} : ∀ {xs us : List α} {ys zs : List β}, Paired F xs ys → Paired F us zs → Paired F (xs ++ us) (ys ++ zs)
  | _, _, _, _, .nil, r => r
  | _, _, _, _, .cons a b, r => .cons a (paired_append b r)
theorem rp_paired {c : Cfg} {H : Hp} : ∀ {vs : List V} {ds : List D}, RpAll c H vs ds → Paired (fun v s => SlOk c H (some v) s) vs (ds.map Sl.d)
  | _, _, .nil => .nil
  | _, _, .cons a b => .cons ⟨_, rfl, a⟩ (rp_paired b)
theorem pd_new {CI : CtrI} {Cl f : Addr} {fd : FuncData} {ps : List Str} {k : Nat} {x : Str} {p : Pos} {dvs : List V} {ds : List Value} {dd : List D} {e : Expr} {es : List Expr} {ta : TA} {da : DA} (M : Mk X.K Cl f) (F : FnOk X.prog X.w X.K X.mg X.base (L2.CX X.prog X.w) k f fd ps (CI.sp X.K Cl)) (hr : Room (k + 1) X.A) (hm : X.mg x = some (.ref Cl)) (hb : Binds X.K fd ps ds) (hd : Vals dvs ds) (hdd : ∀ c H, RpAll c H dvs dd)
    (a : PDA X W xw (e :: es) ta da) (hg : Gl X x := by rfl) (hdb : (x == ("__debug__" : Str)) = false := by decide) (he : starEach (e :: es) X.env = (false, eval e X.env) :: starEach es X.env := by rfl) (hpl : (backTo pos (starEach es X.env)).any (·.1) = false := by rfl) :
    PD X W xw (.Call (.Name x p) (e :: es) [] pos) (tMakeS Cl (CI.sp X.K Cl) dvs (WE W) ta) (dNew CI Cl dd xw da) :=
  ⟨fun tk => pe_makeS M F hr hg hm hb hd (fun σ => passAt tk σ) (a.pa tk) hdb he hpl, fun c eK hW Γ k hk σ H st Q q => a.li c eK hW Γ _ hk σ H st _ fun vs ss H1 g r h => fun y dx ny nd ne =>
    ⟨c, ss ++ dd.map Sl.d, y, dx, H1, vs ++ dvs, eK, g.inv, rfl, ny, nd, ne, rfl, paired_append r (rp_paired (hdd c H1)), h.1,
      CI.mono (fun fs ks H' g' r' => ⟨rfl, q _ (.d (.obj Cl fs)) H' (g.trans g') ⟨_, rfl, r'⟩ ks⟩) (fun A pp z d H' g' x' => hW σ H' Γ A d pp (st.go (g.trans g')) x' z) h.2⟩⟩
/-! ### o.f -/
theorem RpFs.look {c : Cfg} {H : Hp} {f : Str} {x : D} : ∀ {vs : List (Str × V)} {fs : List (Str × D)}, RpFs c H vs fs → fs.lookup f = some x → ∃ v, vs.lookup f = some v ∧ Rp c H v x
  | _, _, .nil, e => nomatch e
  | _, _, .cons (n := n) a b, e => by
    rw [List.lookup_cons] at e ⊢
    cases z : f == n with
    | true =>
      rw [z] at e
      cases e
      exact ⟨_, rfl, a⟩
    | false =>
      rw [z] at e
      exact RpFs.look b e
def dFld (Cl : Addr) (f : Str) (e : DE) : DE := fun Γ k => e Γ fun s => match s with
  | .d (.obj C fs) => C = Cl ∧ ∃ x, fs.lookup f = some x ∧ k (.d x)
  | .own _ (.obj C fs) => C = Cl ∧ ∃ x, fs.lookup f = some x ∧ k (.d x)
  | _ => False
theorem pd_fld {Cl : Addr} {f : Str} {e : Expr} {te : TE} {de : DE} (cl : Cls X.K Cl) (na : NoAttr X.K Cl f) (h : PD X W xw e te de) (hb : attributeBase e f X.env (eval e X.env) = eval e X.env := by rfl) : PD X W xw (.Attribute e f pos) (tFld X.K te f) (dFld Cl f de) :=
  ⟨fun tk => pe_fld (h.pe tk) hb, fun c eK hW Γ k hk σ H st Q q => h.li c eK hW Γ _ hk σ H st _ fun v s H1 g r h1 => by
    try dsimp only at h1
    split at h1
    · obtain ⟨e0, x, e1, kx⟩ := h1
      subst e0
      obtain ⟨w, e, rr⟩ := r
      cases e
      cases rr with
      | obj nf hh rf =>
        obtain ⟨u, e2, ru⟩ := rf.look e1
        exact ⟨_, _, _, _, u, rfl, hh, cl, na, e2, q _ (.d x) H1 g ⟨_, rfl, ru⟩ kx⟩
    · obtain ⟨e0, x, e1, kx⟩ := h1
      subst e0
      obtain ⟨b, e, w, dx, vs, hh, rf⟩ := r
      cases e
      obtain ⟨u, e2, ru⟩ := rf.look e1
      exact ⟨_, _, _, _, u, rfl, hh, cl, na, e2, q _ (.d x) H1 g ⟨_, rfl, ru⟩ kx⟩
    · exact h1.elim⟩
/-! ### self.f = e, self owned -/
def putD (f : Str) (v : D) : List (Str × D) → List (Str × D)
  | [] => [(f, v)]
  | (g, x) :: r => if g = f then (g, v) :: r else (g, x) :: putD f v r
theorem RpFs.put {c : Cfg} {H : Hp} {f : Str} {v : V} {x : D} (h : Rp c H v x) : ∀ {vs : List (Str × V)} {fs : List (Str × D)}, RpFs c H vs fs → RpFs c H (putF f v vs) (putD f x fs)
  | _, _, .nil => .cons h .nil
  | _, _, .cons (n := n) a b => by
    show RpFs c H (if n = f then _ else _) (if n = f then _ else _)
    by_cases e : n = f
    · rw [if_pos e, if_pos e]
      exact .cons h b
    · rw [if_neg e, if_neg e]
      exact .cons a (RpFs.put h b)
theorem RpFs.length {c : Cfg} {H : Hp} : ∀ {vs : List (Str × V)} {fs : List (Str × D)}, RpFs c H vs fs → vs.length = fs.length
  | _, _, .nil => rfl
  | _, _, .cons _ b => congrArg (· + 1) b.length
def dSetF (Cl : Addr) (i : Nat) (f : Str) (e : DE) : DS := fun D Γ => e Γ fun s => match s, Γ[i]? with
  | .d x, some (.own k (.obj C fs)) => C = Cl ∧ fs.length < 1000 ∧ D.nx ((clr k Γ).set i (.own k (.obj C (putD f x fs))))
  | _, _ => False
theorem pds_fld {Cl : Addr} {i : Nat} {x f : Str} {e : Expr} {te : TE} {de : DE} {p p' : Pos} (cl : Cls X.K Cl) (na : NoAttr X.K Cl f) (h : PD X W xw e te de) (hN : X.N[i]? = some x := by rfl) (hv : Vis X.env.scope x := by first | exact Or.inl rfl | exact Or.inr (Or.inl rfl) | exact Or.inr (Or.inr rfl)) (hd : (x == ("__debug__" : Str)) = false := by decide) (hcd : (x == ("__classdict__" : Str)) = false := by decide)
    (hs : swapsWith e (some (.Attribute (.Name x p) f p')) pos.line X.env = pure false := by rfl) : PDS X W xw (.Assign [.Attribute (.Name x p) f p'] e pos) (sFld X.K (tVar i) te f) (dSetF Cl i f de) :=
  ⟨fun tk => ps_fld (pe_var hN hv hd hcd) (h.pe tk) hs, fun c eK hW E D o Γ σ H st hk => h.li c eK hW Γ _ hk σ H st _ fun v s H1 g r h1 => by
    try dsimp only at h1
    split at h1
    · rename_i y n C fs e0
      obtain ⟨ec, hl, kx⟩ := h1
      subst ec
      obtain ⟨w, e, rr⟩ := r
      cases e
      have st1 := st.go g
      obtain ⟨o1, e1⟩ := slot_at st.len e0
      obtain ⟨b, eb, wb, dx, vs, hh, rf⟩ := st1.at_ i _ _ e1 e0
      have e2 : σ[i]? = some (some (.ref b)) := by rw [e1, eb]
      have kk : Kp c.F H1 (upd H1 b (.ins C dx (putF f v vs))) := fun b' u nb _ e => by
        rw [upd_ne (fun y => nb (by rw [y]; exact c.WF (c.owW wb).1))]
        exact e
      refine ⟨.ref b, e2, b, C, dx, vs, rfl, hh, cl, na, by rw [rf.length]; exact hl, o.nx _ σ _ (st1.put wb e2 ?_ (.ins hh)) kx⟩
      exact ⟨dx, _, upd_same, RpFs.put (rr.go kk) (rf.to rfl (fun _ z => z) kk)⟩
    · exact h1.elim⟩
end
end Dv
set_option Elab.async false
set_option linter.all false
set_option maxRecDepth 100000
set_option maxHeartbeats 4000000
/-! Do2: own instances with operators, called, compared; static methods; texts of ints. -/
namespace Dv
open PySem L2
/-! ### built-in classes beside an own one -/
def bT : D → Option String
  | .non => some "NoneType"
  | .bl _ => some "bool"
  | .int _ => some "int"
  | .str _ => some "str"
  | .lst _ => some "list"
  | .tup _ => some "tuple"
  | .dic _ => some "dict"
  | _ => none
theorem rp_bT {c : Cfg} {H : Hp} {v : V} {d : D} {T : String} (h : Rp c H v d) (e : bT d = some T) : TyX c.K H v (.type T) := by
  cases h with
  | non => cases e; exact .base .non
  | bl b => cases e; exact .base (.bl _)
  | int b => cases e; exact .base (.int _)
  | str b => cases e; exact .base (.str _)
  | lst nf il0 ra =>
    have il := (show Rd _ _ _ from Or.inl il0)
    cases e
    rcases il with il | ⟨o, il⟩
    · exact .base (.lst il)
    · exact .base (.frz il)
  | scr _ _ => cases e
  | tup il ra =>
    cases e
    rcases il with ⟨_, il | ⟨o, il⟩⟩ | ⟨o, _, _, e, cl, _⟩
    · exact .base (.tup il)
    · exact .fTuple il
    · exact .kTuple e cl
  | obj _ _ _ => cases e
  | exn _ _ _ _ _ => cases e
  | dic nf il ra =>
    cases e
    exact .fDict il
def isB (T : String) : Prop := T = "NoneType" ∨ T = "bool" ∨ T = "int" ∨ T = "str" ∨ T = "list" ∨ T = "tuple" ∨ T = "dict"
theorem bT_isB {d : D} {T : String} (e : bT d = some T) : isB T := by
  cases d <;> cases e <;> simp [isB]
theorem sub_own {K : PySem.W.Frag} {C : Addr} {T : String} (h : (fastFind? T).isSome = true) : PySem.W.subIn K (.type T) (.ref C) = some false := by
  obtain ⟨t, e⟩ := Option.isSome_iff_exists.mp h
  show (fastBuiltinMro T).map (·.contains (.ref C)) = some false
  rw [fastBuiltinMro, e]
  show some ((t.mro.map Value.type).contains (.ref C)) = some false
  congr 1
  induction t.mro with
  | nil => rfl
  | cons a r ih => rw [List.map_cons, List.contains_cons, ih]; rfl
theorem sub_isB {K : PySem.W.Frag} {C : Addr} {T : String} (h : isB T) : PySem.W.subIn K (.type T) (.ref C) = some false := by
  rcases h with rfl | rfl | rfl | rfl | rfl | rfl | rfl <;> exact sub_own (by decide +kernel)
/-- what may stand on the right -/
def rOk (Cl : Addr) : D → Prop
  | .obj C _ => C = Cl
  | .scr _ => False
  | .exn _ _ => False
  | _ => True
section
variable {X : Cx} {W : WX} {xw : XW} {K : PySem.W.Frag} {pos : Pos}
section
variable {Ct : Ctr} {Cl g : Addr} {fd : FuncData} {ps : List Str} {k : Nat} {a b : Expr} {ta tb : TE} {da db : DE}
abbrev spB (Ct : Ctr) (K : PySem.W.Frag) : Sp := fun vs H Q E => Ct.sp K (vs ++ []) H Q E
/-! ### o + x -/
/-! ### o == x, o != x; what is no instance is compared as before -/
def rOr (r r' : R2) : R2 := fun x y H Q => r x y H Q ∨ r' x y H Q
theorem op_or {X : Cx} {f : Value → Value → Sem Value} {r r' : R2} (h : OpR X f r) (h' : OpR X f r') : OpR X f (rOr r r') := fun pins s σ H x y v u Q I rx ry z => z.elim (h pins s σ H x y v u Q I rx ry) (h' pins s σ H x y v u Q I rx ry)
end
end
end Dv
set_option Elab.async false
set_option linter.all false
set_option maxRecDepth 100000
set_option maxHeartbeats 4000000
namespace L2
open PySem PySem.W PyProof.Rows
/-- f"{a:+d}" -/
def plus (a : Int) : PySem.Str := if a < 0 then PySem.Str.ofString (toString a) else (⟨#[43]⟩ : PySem.Str) ++ PySem.Str.ofString (toString a)
def fPlus : Builtin.Float.FormatSpec := { align := 62, sign := some 43, type := some 100 }
theorem text_neg (m : Nat) : PySem.Str.ofString (toString (Int.negSucc m)) = ⟨(45 :: (Nat.toDigits 10 (m + 1)).map Char.toNat).toArray⟩ := by
  show PySem.Str.ofString ("-" ++ Nat.repr (m + 1)) = _
  rw [PySem.Str.ofString_eq_toList]
  simp [Nat.repr]
theorem field_plus (a : Int) : intField' fPlus (decide (a < 0)) [] ((Nat.toDigits 10 a.natAbs).map Char.toNat) [] 3 = plus a := by
  have hd : ((Nat.toDigits 10 a.natAbs).map Char.toNat).isEmpty = false := by
    cases h : Nat.toDigits 10 a.natAbs with
    | nil =>
      have := Nat.length_toDigits_pos (b := 10) (n := a.natAbs)
      rw [h] at this
      simp at this
    | cons _ _ => rfl
  unfold plus
  cases a with
  | ofNat m =>
    have nn : ¬ (Int.ofNat m < 0) := Int.not_lt.mpr (Int.natCast_nonneg m)
    rw [if_neg nn, text_ofNat]
    have hd' : ((Nat.toDigits 10 m).map Char.toNat).isEmpty = false := hd
    have e : (Int.ofNat m).natAbs = m := rfl
    have e2 : decide (Int.ofNat m < 0) = false := decide_eq_false nn
    unfold intField' fPlus
    rw [e, e2]
    simp [hd']
    show PySem.Str.mk _ = PySem.Str.mk (#[43] ++ (List.map Char.toNat (Nat.toDigits 10 m)).toArray)
    congr 1
    simp
  | negSucc m =>
    rw [if_pos (by omega), text_neg]
    have e : (Int.negSucc m).natAbs = m + 1 := rfl
    have hd' : ((Nat.toDigits 10 (m + 1)).map Char.toNat).isEmpty = false := hd
    have e2 : decide (Int.negSucc m < 0) = true := decide_eq_true (by omega)
    unfold intField' fPlus
    rw [e, e2]
    simp [hd']
theorem plus_len {a : Int} (h : a.natAbs.log2 < 1920) : (plus a).length ≤ 1000 := by
  have h1 : a.natAbs < 10 ^ 900 := by
    by_cases z : a.natAbs = 0
    · rw [z]; exact Nat.pow_pos (by decide)
    · exact Nat.lt_trans (Nat.lt_of_lt_of_le (Nat.lt_log2_self (n := a.natAbs)) (Nat.pow_le_pow_right (by decide) h)) (by decide +kernel)
  have h2 : (Nat.toDigits 10 a.natAbs).length ≤ 900 := by
    have e := (Nat.length_repr_le_iff (n := a.natAbs) (by decide : 0 < 900)).mpr h1
    rwa [← String.length_toList, Nat.toList_repr] at e
  unfold plus
  cases a with
  | ofNat m =>
    have nn : ¬ (Int.ofNat m < 0) := Int.not_lt.mpr (Int.natCast_nonneg m)
    rw [if_neg nn, text_ofNat]
    have h3 : (Nat.toDigits 10 m).length ≤ 900 := h2
    show (#[43] ++ (List.map Char.toNat (Nat.toDigits 10 m)).toArray).size ≤ 1000
    clear h1 h2 h
    simp
    omega
  | negSucc m =>
    rw [if_pos (by omega), text_neg]
    have h3 : (Nat.toDigits 10 (m + 1)).length ≤ 900 := h2
    simp [PySem.Str.length]
    omega
theorem fmt_plus {a : Int} {t u : Tok} (hd : a.natAbs.log2 < 1920) : Meets (Builtin.«int.__format__» ⟨[.int a t, .str ("+d" : PySem.Str) u], []⟩) (fun _ R s => ∀ t' k, R (.ok (.ret (.str (plus a) t'))) { s with toks := k }) := by
  apply KPc.meets_of
  intro prog w A s Q E hq
  unfold Builtin.«int.__format__»
  refine wpAny_bind (wpAny_of_eq (a := (_, _)) rfl ?_)
  refine wpAny_bind (wpAny_of_eq (a := _) rfl ?_)
  kxf_if
  refine wpAny_bind (wpAny_typeNameOf (T := "str") (typeIs_str _ _ _) (by decide) fun _ => ?_)
  refine wpAny_bind (wpAny_of_eq (a := some _) rfl ?_)
  kxf_if
  kxf_if
  refine wpAny_bind (wpAny_typeNameOfCut_int ?_)
  (repeat kxf_if)
  refine wpAny_bind (wpAny_of_eq (PyProof.Rows.overDigitLimit_small hd) ?_)
  (repeat kxf_if)
  have eq := field_plus a
  have hL := plus_len hd
  rw [← eq] at hL
  refine KXf.ret_text (T := plus a) (.trans ?_ eq) (Nat.le_trans ?_ (show 1000 ≤ sizeLine by decide)) hq
  · rfl
  · exact hL
end L2
set_option Elab.async false
set_option linter.all false
set_option maxRecDepth 100000
set_option maxHeartbeats 4000000
/-! Do3: f-strings, instances called, static methods, isinstance of an own class, f(), lists repeated. -/
namespace L2
open PySem PySem.Spec PyProof.Rows
section
variable {X : Cx}
/-- {x:+d} -/
def tFmtP (te : TE) : TE := fun σ H Q => te σ H fun x H1 => ∃ i : Int, x = .int i ∧ i.natAbs.log2 < 1920 ∧ Q (.str (plus i)) H1
theorem pe_fmtP {e : Expr} {te : TE} {j : _} {p1 p2 pos : Pos} (he : PE X e te) : PE X (.FormattedValue e (-1) (some (.JoinedStr [.Constant (.str "+d") j p1] p2)) pos) (tFmtP te) := by
  have hc : PE X (.JoinedStr [.Constant (.str "+d") j p1] p2) (tC (.str "+d")) := pe_joined1 pe_str
  refine ⟨fun pins s σ H Q I h => ?_⟩
  refine wpAny_FormattedValue_spec (thn (he.run pins s σ H _ I h) fun v s1 hv => ?_)
  obtain ⟨x, H1, I1, r1, i, rfl, hz, q⟩ := hv
  obtain ⟨t, rfl⟩ := r1
  refine thn (hc.run pins s1 σ H1 (fun y H2 => y = .str "+d" ∧ H2 = H1) I1 ⟨rfl, rfl⟩) fun r s2 hr => ?_
  obtain ⟨y, H2, I2, r2, rfl, rfl⟩ := hr
  obtain ⟨t2, rfl⟩ := r2
  exact ⟨_, _, rfl, PySem.W.KXf.field_int rfl (by decide) (by decide) (fun u => fmt_plus hz) fun t' k => ⟨.str (plus i), H2, I2.tok _, ⟨_, rfl⟩, q⟩⟩
end
end L2
namespace Dv
open PySem L2
section
variable {X : Cx} {W : WX} {xw : XW} {K : PySem.W.Frag} {pos : Pos}
/-! ### f-strings -/
def dFmt (e : DE) : DE := fun Γ k => e Γ fun s => match s with
  | .d (.str y) => y.length ≤ 100000 ∧ k (.d (.str y))
  | .d (.int i) => i.natAbs.log2 < 1920 ∧ k (.d (.str (Str.ofString (toString i))))
  | _ => False
theorem pd_fmt {e : Expr} {te : TE} {de : DE} (h : PD X W xw e te de) : PD X W xw (.FormattedValue e (-1) none pos) (tFmt te) (dFmt de) :=
  ⟨fun tk => pe_fmt (h.pe tk), fun c eK hW Γ k hk σ H st Q q => h.li c eK hW Γ _ hk σ H st _ fun v s H1 g r h1 => by
    try dsimp only at h1
    split at h1
    · exact .inl ⟨_, sl_str r, sz h1.1, q _ (.d (.str _)) H1 g ⟨_, rfl, .str _⟩ h1.2⟩
    · exact .inr ⟨_, sl_int r, h1.1, q _ (.d (.str _)) H1 g ⟨_, rfl, .str _⟩ h1.2⟩
    · exact h1.elim⟩
def dFmtP (e : DE) : DE := fun Γ k => e Γ fun s => match s with
  | .d (.int i) => i.natAbs.log2 < 1920 ∧ k (.d (.str (plus i)))
  | _ => False
theorem pd_fmtP {e : Expr} {te : TE} {de : DE} {j : _} {p1 p2 : Pos} (h : PD X W xw e te de) : PD X W xw (.FormattedValue e (-1) (some (.JoinedStr [.Constant (.str "+d") j p1] p2)) pos) (tFmtP te) (dFmtP de) :=
  ⟨fun tk => pe_fmtP (h.pe tk), fun c eK hW Γ k hk σ H st Q q => h.li c eK hW Γ _ hk σ H st _ fun v s H1 g r h1 => by
    try dsimp only at h1
    split at h1
    · exact ⟨_, sl_int r, h1.1, q _ (.d (.str _)) H1 g ⟨_, rfl, .str _⟩ h1.2⟩
    · exact h1.elim⟩
structure PDJ (X : Cx) (W : WX) (xw : XW) (es : List Expr) (ts : List TE) (ds : List DE) : Prop where
  pj : Takes X W → PJ X es ts
  li : Paired (Li X.K W xw) ts ds
theorem pdj_nil : PDJ X W xw [] [] [] := ⟨fun _ => .nil, .nil⟩
theorem pdj_cons {e : Expr} {t : TE} {d : DE} {es : List Expr} {ts : List TE} {ds : List DE} (h : PD X W xw e t d) (r : PDJ X W xw es ts ds) : PDJ X W xw (e :: es) (t :: ts) (d :: ds) := ⟨fun tk => .cons (h.pe tk) (r.pj tk), .cons h.li r.li⟩
def dJs : List DE → Str → Gm → (Str → Prop) → Prop
  | [], acc, _, k => k acc
  | d :: ds, acc, Γ, k => d Γ fun s => match s with
    | .d (.str y) => (acc ++ y).length ≤ 100000 ∧ dJs ds (acc ++ y) Γ k
    | _ => False
theorem li_js {W : WX} {xw : XW} {c : Cfg} {σ : St} {Γ : Gm} {ts : List TE} {ds : List DE} (hW : WOk c W xw) (h : Paired (Li c.K W xw) ts ds) : ∀ (acc : Str) (H : Hp) (k : Str → Prop) (Q : Str → Hp → Prop), StOk c σ H Γ → dJs ds acc Γ k → (∀ y H2, Go c H H2 → k y → Q y H2) → tJs ts acc σ H Q := by
  induction h with
  | nil => exact fun acc H k Q st hk q => q acc H (Go.self st.inv) hk
  | cons a b ih =>
    intro acc H k Q st hk q
    refine a c rfl hW Γ _ hk σ H st _ fun v s H1 g r h1 => ?_
    try dsimp only at h1
    split at h1
    · exact ⟨_, sl_str r, sz h1.1, ih _ H1 k Q (st.go g) h1.2 fun y H2 g2 ky => q y H2 (g.trans g2) ky⟩
    · exact h1.elim
def dJoin (ds : List DE) : DE := fun Γ k => dJs ds Str.empty Γ fun y => k (.d (.str y))
theorem pd_joined {v1 v2 : Expr} {rest : List Expr} {ts : List TE} {ds : List DE} (h : PDJ X W xw (v1 :: v2 :: rest) ts ds) : PD X W xw (.JoinedStr (v1 :: v2 :: rest) pos) (fun σ H Q => tJs ts Str.empty σ H fun out H1 => Q (.str out) H1) (dJoin ds) :=
  ⟨fun tk => pe_joined (h.pj tk), fun c eK hW Γ k hk σ H st Q q => by
    have l := h.li
    rw [← eK] at l
    exact li_js hW l Str.empty H _ _ st hk fun y H2 g ky => q _ (.d (.str y)) H2 g ⟨_, rfl, .str _⟩ ky⟩
/-! ### str(i) -/
def gStrI : List Sl → DK → Prop := fun ss k => match ss with
  | [.d (.int i)] => i.natAbs.log2 < 1920 ∧ k (.d (.str (Str.ofString (toString i))))
  | _ => False
theorem oc_strI : OC K (fun xs H Q => ∃ i, xs = [V.int i] ∧ i.natAbs.log2 < 1920 ∧ Q (.str (Str.ofString (toString i))) H) gStrI := fun c H vs ss k Q eK hi r h q => by
  unfold gStrI at h
  split at h
  · obtain ⟨v, rfl, rr⟩ := paired1 r
    have e := sl_int rr
    subst e
    exact ⟨_, rfl, h.1, q _ (.d (.str _)) H (Go.self hi) ⟨_, rfl, .str _⟩ h.2⟩
  · exact h.elim
/-! ### f() -/
/-! ### [..] * n -/
end
end Dv
set_option Elab.async false
set_option linter.all false
set_option maxRecDepth 100000
set_option maxHeartbeats 4000000
/-! Do4: instances called, static methods, isinstance of an own class. -/
namespace Dv
open PySem L2
section
variable {X : Cx} {W : WX} {xw : XW} {K : PySem.W.Frag} {pos : Pos}
variable {Ct : Ctr} {Cl g : Addr} {fd : FuncData} {ps : List Str} {k : Nat} {e fe o : Expr} {es : List Expr} {ta : TA} {da : DA} {tf to : TE} {df do_ : DE}
/-! ### o(..) -/
def dCallO (Ct : Ctr) (Cl : Addr) (xw : XW) (f : DE) (a : DA) : DE := fun Γ k => f Γ fun s => match s with
  | .d (.obj C fs) => C = Cl ∧ a Γ fun ss => (ss.length + 1 = Ct.n) ∧ Ct.f (.d (.obj C fs) :: ss) k fun A p => xw A p Γ
  | _ => False
theorem pd_callO (c : StX.CallO X.K Cl g) (F : FnOk X.prog X.w X.K X.mg X.base (L2.CX X.prog X.w) k g fd ps (Ct.sp X.K)) (hr : Room k X.A) (hb : Binds X.K fd ps []) (f : PD X W xw fe tf df) (a : PDA X W xw (e :: es) ta da)
    (ht : eval (.Call fe (e :: es) [] pos) X.env = (do callWith pos (← eval fe X.env) [] (backTo pos (starEach (e :: es) X.env)) (backToKw pos (keywordEach [] X.env))) := by rfl)
    (he : starEach (e :: es) X.env = (false, eval e X.env) :: starEach es X.env := by rfl) (hpl : (backTo pos (starEach es X.env)).any (·.1) = false := by rfl) :
    PD X W xw (.Call fe (e :: es) [] pos) (tCallOS Cl (spB Ct X.K) (WE W) tf ta) (dCallO Ct Cl xw df da) :=
  ⟨fun tk => pe_callOS (f.pe tk) c (F.raw hb .nil) hr (fun σ => passAt tk σ) (a.pa tk) ht he hpl, fun cc eK hW Γ k hk σ H st Q q => f.li cc eK hW Γ _ hk σ H st _ fun v s H1 g1 r1 h1 => by
    try dsimp only at h1
    split at h1
    · obtain ⟨e0, h1⟩ := h1
      subst e0
      obtain ⟨w, ew, rw⟩ := r1
      cases ew
      cases rw with
      | obj nf hh rf =>
        refine ⟨_, rfl, a.li cc eK hW Γ _ h1 σ H1 (st.go g1) _ fun vs ss H2 g2 r2 h2 => ⟨⟨_, _, g2.keep _ _ (fun z => nf (cc.GF z)) rfl hh⟩, ?_⟩⟩
        have ro : Rp cc H2 _ _ := (Rp.obj nf hh rf).go g2.kF
        refine ⟨cc, .d (.obj _ _) :: ss, eK, g2.inv, ?_, h2.1, Ct.mono (fun s ks v H' g' r' => q v s H' ((g1.trans g2).trans g') r' ks) (fun A pp z d H' g' x' => hW σ H' Γ A d pp (st.go ((g1.trans g2).trans g')) x' z) h2.2⟩
        rw [List.append_nil]
        exact .cons ⟨_, rfl, ro⟩ r2
    · exact h1.elim⟩
/-! ### C.m(..), m static -/
/-! ### isinstance(x, C) -/
def isC (Cl : Addr) : D → Bool
  | .obj C _ => decide (C = Cl)
  | _ => false
def gIsC (Cl : Addr) : List Sl → DK → Prop := fun ss k => match ss with
  | [.d x, .v (.ref C)] => C = Cl ∧ rOk Cl x ∧ k (.d (.bl (isC Cl x)))
  | _ => False
/-- what K says of the class for isinstance -/
structure IsOwn (K : PySem.W.Frag) (Cl : Addr) : Prop where
  ins : C8.InsC K Cl
  cls : (PySem.W.clsIn K Cl).isSome = true
  ty : PySem.W.typeIn K (.ref Cl) = some (.type "type")
theorem kit_own {K : PySem.W.Frag} {Cl : Addr} {T : String} (h : IsOwn K Cl) (hT : isB T) : PySem.W.kitOne K (.type T) (.ref Cl) = some false := by
  show (if (Value.type T == Value.ref Cl) = true then some true else if ((PySem.W.clsIn K Cl).isSome && PySem.W.typeIn K (.ref Cl) == some (.type "type")) = true then PySem.W.subIn K (.type T) (.ref Cl) else none) = some false
  rw [if_neg (show ¬ ((Value.type T == Value.ref Cl) = true) from Bool.false_ne_true), if_pos (by rw [h.cls, h.ty]; rfl)]
  exact sub_isB hT
def rIsC (K : PySem.W.Frag) (Cl : Addr) : List V → Hp → VK → Prop := fun xs H Q => rIsi K xs H Q ∨ ∃ a dx fs, xs = [.ref a, .ref Cl] ∧ H a = some (.ins Cl dx fs) ∧ Q (.bl true) H
theorem call_isOwn (h : IsOwn X.K Cl) : CallR X (.builtin "isinstance") (rIsC X.K Cl) := fun pins s σ H xs us Q I r z => z.elim (call_isi pins s σ H xs us Q I r) (C8.call_isC h.ins pins s σ H xs us Q I r)
theorem oc_isC (h : IsOwn K Cl) : OC K (rIsC K Cl) (gIsC Cl) := fun c H vs ss k Q eK hi r hg q => by
  unfold gIsC at hg
  split at hg
  · rename_i x C
    obtain ⟨e0, ho, hk⟩ := hg
    subst e0
    obtain ⟨v, w, rfl, ⟨z, ez, rr⟩, r2⟩ := paired2 r
    cases ez
    have ew : V.ref C = w := (Option.some.inj r2).symm
    subst ew
    cases zz : bT x with
    | some T =>
      have hB := bT_isB zz
      have ei : isC C x = false := by cases x <;> first | rfl | cases zz
      rw [ei] at hk
      exact .inl ⟨_, _, _, _, _, rfl, .own _, by rw [← eK]; exact rp_bT rr zz, kit_own h hB, q _ (.d (.bl false)) H (Go.self hi) ⟨_, rfl, .bl _⟩ hk⟩
    | none =>
      cases rr with
      | obj nf hh rf =>
        have e1 : _ = C := ho
        subst e1
        have ei : ∀ (c : Addr) (f : List (Str × D)), isC c (.obj c f) = true := fun c f => decide_eq_true rfl
        rw [ei] at hk
        exact .inr ⟨_, _, _, rfl, hh, q _ (.d (.bl true)) H (Go.self hi) ⟨_, rfl, .bl _⟩ hk⟩
      | scr _ _ => exact ho.elim
      | exn _ _ _ _ _ => exact ho.elim
      | _ => cases zz
  · exact hg.elim
end
end Dv
set_option Elab.async false
set_option linter.all false
set_option maxRecDepth 100000
set_option maxHeartbeats 4000000
/-! Dc: what the top has written of a class. -/
namespace Dv
open PySem L2
structure MetAt (K : PySem.W.Frag) (x qual : Str) (st : Stmt) (ps : List Str) (f : Addr) (fd : FuncData) : Prop where
  F : FunD K x qual st f fd
  b : Binds K fd ps []
structure ClsAt (K : PySem.W.Frag) (mg : Str → Option Value) (x : Str) (C : Addr) : Prop where
  gC : mg x = some (.ref C)
  cl : Cls K C
  is : IsOwn K C
/-- a method without defaults -/
theorem met_mk {K : PySem.W.Frag} {x qual : Str} {st : Stmt} {ps : List Str} {f : Addr} {fd : FuncData} (F : Fun K x qual st f fd) (b : Binds K fd ps []) : MetAt K x qual st ps f fd := ⟨.of F, b⟩
/-- a method with one default, an int -/
structure MetAt1 (K : PySem.W.Frag) (x qual : Str) (st : Stmt) (ps : List Str) (i : Int) (f : Addr) (fd : FuncData) : Prop where
  F : FunD K x qual st f fd
  b : Binds K fd ps []
  b1 : ∃ ds, Vals [V.int i] ds ∧ Binds K fd ps ds
theorem met_mk1 {K : PySem.W.Frag} {x qual : Str} {st : Stmt} {ps : List Str} {i : Int} {f T : Addr} {oc ot : Value} {od an ot2 : Option Addr} {osl tsl : Array (Option Value)} {kV doc pm cdv ct u : Value} {m n : Nat} (l : K.lookup f = some ⟨oc, od, .func (PySem.W.fnOf x qual (defArgs st) (defBody st) (defScope st) (.ref T) kV doc pm an cdv ct), osl⟩)
    (c : PySem.W.codeIn K cdv qual = true) (k : PySem.W.keepIn K (.ref f) = true) (lT : K.lookup T = some ⟨ot, ot2, .seq #[u] m, tsl⟩) (ru : RelV (.int i) u) (hn : n + 1 = ps.length)
    (h0 : ∀ (T : Addr) (kV doc pm : Value) (an : Option Addr) (cdv ct : Value) (us its : List Value), us.length = n + 1 → its.length = 1 →
      ∃ k, bindArgs (PySem.W.fnOf x qual (defArgs st) (defBody st) (defScope st) (.ref T) kV doc pm an cdv ct) ⟨us, []⟩ = seqItems? (.ref T) >>= k ∧ k (some its.toArray) = pure (ps.zip (us ++ its.drop 1)))
    (h1 : ∀ (T : Addr) (kV doc pm : Value) (an : Option Addr) (cdv ct : Value) (us its : List Value), us.length = n → its.length = 1 →
      ∃ k, bindArgs (PySem.W.fnOf x qual (defArgs st) (defBody st) (defScope st) (.ref T) kV doc pm an cdv ct) ⟨us, []⟩ = seqItems? (.ref T) >>= k ∧ k (some its.toArray) = pure (ps.zip (us ++ its.drop 0))) :
    MetAt1 K x qual st ps i f (PySem.W.fnOf x qual (defArgs st) (defBody st) (defScope st) (.ref T) kV doc pm an cdv ct) := by
  have F : L2.FunD K x qual (defArgs st) (defBody st) (defScope st) [V.int i] [] f (PySem.W.fnOf x qual (defArgs st) (defBody st) (defScope st) (.ref T) kV doc pm an cdv ct) :=
    ⟨⟨_, _, _, _, _, _, _, _, _, _, rfl, l, c, .inr ⟨by simp, T, _, [u], m, rfl, lT, rfl, .cons ru .nil⟩, .inl rfl⟩, k⟩
  obtain ⟨d0, v0, b0⟩ := F.binds1 (ps := ps) (n + 1) 1 (by simp) (by simpa using hn) h0
  have e0 : d0 = [] := by
    cases v0
    rfl
  rw [e0] at b0
  exact ⟨⟨⟨_, _, _, _, _, _, _, _, _, _, rfl, l, c⟩, k⟩, b0, F.binds1 (ps := ps) n 0 (by simp) (by simpa using hn) h1⟩
section
variable {X : Cx} {W : WX} {xw : XW} {pos : Pos} {CI : CtrI} {Cl f : Addr} {fd : FuncData} {ps : List Str} {k : Nat} {x : Str} {p : Pos} {e : Expr} {es : List Expr} {ta : TA} {da : DA}
/-- C(..), every parameter given -/
theorem pd_newA (M : Mk X.K Cl f) (F : FnOk X.prog X.w X.K X.mg X.base (L2.CX X.prog X.w) k f fd ps (CI.sp X.K Cl)) (hr : Room (k + 1) X.A) (hm : X.mg x = some (.ref Cl)) (hb : Binds X.K fd ps []) (a : PDA X W xw (e :: es) ta da) (hg : Gl X x := by rfl)
    (hdb : (x == ("__debug__" : Str)) = false := by decide) (he : starEach (e :: es) X.env = (false, eval e X.env) :: starEach es X.env := by rfl) (hpl : (backTo pos (starEach es X.env)).any (·.1) = false := by rfl) :
    PD X W xw (.Call (.Name x p) (e :: es) [] pos) (tMakeS Cl (CI.sp X.K Cl) [] (WE W) ta) (dNew CI Cl [] xw da) := pd_new M F hr hm hb .nil (fun _ _ => .nil) a hg hdb he hpl
/-- C(..), the last parameter by its default -/
theorem pd_newD {i : Int} (M : Mk X.K Cl f) (F : FnOk X.prog X.w X.K X.mg X.base (L2.CX X.prog X.w) k f fd ps (CI.sp X.K Cl)) (hr : Room (k + 1) X.A) (hm : X.mg x = some (.ref Cl)) (hb : ∃ ds, Vals [V.int i] ds ∧ Binds X.K fd ps ds) (a : PDA X W xw (e :: es) ta da) (hg : Gl X x := by rfl)
    (hdb : (x == ("__debug__" : Str)) = false := by decide) (he : starEach (e :: es) X.env = (false, eval e X.env) :: starEach es X.env := by rfl) (hpl : (backTo pos (starEach es X.env)).any (·.1) = false := by rfl) :
    PD X W xw (.Call (.Name x p) (e :: es) [] pos) (tMakeS Cl (CI.sp X.K Cl) [V.int i] (WE W) ta) (dNew CI Cl [.int i] xw da) := by
  obtain ⟨ds, v, b⟩ := hb
  exact pd_new M F hr hm b v (fun _ _ => .cons (.int i) .nil) a hg hdb he hpl
end
end Dv
set_option Elab.async false
set_option linter.all false
set_option maxRecDepth 100000
set_option maxHeartbeats 4000000
/-! Dk: isinstance(x, T), x an own instance too. -/
namespace Dv
open PySem L2
/-- what K says of the class beside the built-in ones -/
structure NotB (K : PySem.W.Frag) (Cl : Addr) : Prop where
  is : IsOwn K Cl
  int : PySem.W.subIn K (.ref Cl) (.type "int") = some false
  bool : PySem.W.subIn K (.ref Cl) (.type "bool") = some false
  str : PySem.W.subIn K (.ref Cl) (.type "str") = some false
  list : PySem.W.subIn K (.ref Cl) (.type "list") = some false
  tuple : PySem.W.subIn K (.ref Cl) (.type "tuple") = some false
  dict : PySem.W.subIn K (.ref Cl) (.type "dict") = some false
section
variable {K : PySem.W.Frag} {Cl : Addr}
end
section
variable {P : Program} {w : World} {K : PySem.W.Frag} {mg : Str → Option Value} {base : Heap}
/-- fn_ok for a method, with what defaults ever -/
theorem fn_okD {x qual : Str} {st : Stmt} {f : Addr} {fd : FuncData} {N ps : List Str} {k : Nat} (C : Ctr) (F : FunD K x qual st f fd) (S : FnScope N ps (defScope st)) (hn : ps.length = C.n)
    (body : ∀ (cdv : Value) (A : Around) (outer : List Env) (s : Shared) (H : Hp) (E : XK) (xw : XW), Room k (A.deeper (PyProof.Rows.envOfC qual (defScope st) s.heap.objs.size f cdv)) →
      PassesOwn (model P w) (cxOf (L2.CX P w) P w K mg base N qual (defScope st) f cdv A outer s H E).A (cxOf (L2.CX P w) P w K mg base N qual (defScope st) f cdv A outer s H E).env (cxOf (L2.CX P w) P w K mg base N qual (defScope st) f cdv A outer s H E).xe →
      ∃ ts ds, PDSs (cxOf (L2.CX P w) P w K mg base N qual (defScope st) f cdv A outer s H E) (fun cls d _ H => E cls d H) xw (defBody st) ts ds ∧
        ∀ ss kk xx, ss.length = C.n → C.f ss kk xx → (xw = fun A p _ => xx A p) → ds { nx := fun _ => kk (.d .non), rt := kk } (startD N ss)) : FnOk P w K mg base (L2.CX P w) (k + 1) f fd ps (C.sp K) := by
  refine F.okX S (fun vs H Q E h => ?_) (fun cdv A outer s H vs Q E hr h => ?_)
  · obtain ⟨c, ss, _, _, r, hl, _⟩ := h
    rw [paired_len r, hl, hn]
  · obtain ⟨c, ss, eK, hi, r, hl, hf⟩ := h
    obtain ⟨ts, ds, pd, hd⟩ := body cdv A outer s H E (fun A p _ => ∀ d H', Go c H H' → XOk c H' d p → E (.ref A) d H') hr (passes_of rfl)
    refine ⟨ts, pd.ps (takes_of rfl rfl rfl rfl), ?_⟩
    have q := hd ss _ _ hl hf rfl
    let c' := c.sub.wth (Kp c.G H) (fun {H1 H2} k _ h => h.trans k)
    have lc : Le c c' := ⟨rfl, fun _ z => z, fun _ h => h.1, fun _ z => z, fun _ _ e => (nomatch e), fun _ z => ⟨z.1, fun y => y⟩, rfl, fun _ z => z⟩
    have s0 : StOk c' (L2.start N vs) H (startD N ss) := (start_ok (c := c.sub) hi (paired_sub r (C.no hf))).wth Kp.self
    refine pd.li c' eK ?_ _ _ ⟨?_, ?_, ?_, ?_, ?_, ?_⟩ _ _ _ s0 q
    · exact fun σ H' Γ A d p st x z => z d H' ⟨st.inv.2, st.inv.1⟩ (x.le lc)
    · exact fun Γ σ H' st z => z .non H' ⟨st.inv.2, st.inv.1⟩ ⟨_, rfl, .non⟩
    · exact fun v s H' i r z => z v H' ⟨i.2, i.1⟩ (r.le lc)
    · exact fun _ _ _ _ z => z.elim
    · exact fun _ _ _ _ z => z.elim
    · exact fun v x H' i r z => z v H' ⟨i.2, i.1⟩ ⟨v, rfl, Rp.to (c := c'.rel) (c' := c) rfl (fun _ z => ⟨z, fun y => y⟩) Kp.self r⟩
    · exact fun _ _ _ _ _ _ _ z => z.elim
end
end Dv
set_option Elab.async false
set_option linter.all false
set_option maxRecDepth 100000
set_option maxHeartbeats 4000000
/-! Dm: texts: str of an own instance, join, partition, c in s, int(text); C(k = ..). -/
namespace L2
open PySem PySem.Spec PyProof.Rows PySem.W
section
variable {X : Cx} {CX : CXT} {k : Nat} {g C : Addr} {sp : Sp} {E : XK}
/-- what K says of a class with an own __str__ -/
structure OwnStrC (K : Frag) (C g : Addr) : Prop where
  st : findIn K (.ref C) "__str__" = some (some (.ref g))
  fn : isFn K (.ref g) = true
end
end L2
namespace Dv
open PySem L2
section
variable {X : Cx} {W : WX} {xw : XW} {K : PySem.W.Frag} {pos : Pos} {Ct : Ctr} {Cl g : Addr} {fd : FuncData} {ps : List Str} {k : Nat}
/-! ### methods of texts with one argument -/
def dM1 (gg : Str → Sl → DK → Prop) (a b : DE) : DE := fun Γ k => a Γ fun s => match s with
  | .d (.str z) => b Γ fun t => gg z t k
  | _ => False
/-- what a method of a text promises, over data -/
def OM (K : PySem.W.Frag) (r : V → List V → Hp → VK → Prop) (gg : Str → Sl → DK → Prop) : Prop := ∀ (c : Cfg) (H : Hp) (z : Str) (y : V) (t : Sl) (k : DK) (Q : VK), c.K = K → c.I H → SlOk c H (some y) t → gg z t k → (∀ v s H2, Go c H H2 → SlOk c H2 (some v) s → k s → Q v H2) → r (.str z) [y] H Q
theorem li_m1 {r : V → List V → Hp → VK → Prop} {gg : Str → Sl → DK → Prop} {to te : TE} {do_ de : DE} (hg : OM K r gg) (x : Li K W xw to do_) (y : Li K W xw te de) : Li K W xw (tM1 r to te) (dM1 gg do_ de) := fun c eK hW Γ k hk σ H st Q q =>
  x c eK hW Γ _ hk σ H st _ fun v s H1 g1 r1 h1 => by
    try dsimp only at h1
    split at h1
    · have e := sl_str r1
      subst e
      refine ⟨⟨_, rfl⟩, y c eK hW Γ _ h1 σ H1 (st.go g1) _ fun u t H2 g2 r2 h2 => ?_⟩
      exact hg c H2 _ u t k Q eK g2.inv r2 h2 fun w s' H3 g3 r3 k3 => q w s' H3 ((g1.trans g2).trans g3) r3 k3
    · exact h1.elim
def unS : List D → Option (List Str)
  | [] => some []
  | .str x :: r => (unS r).map (x :: ·)
  | _ :: _ => none
theorem unS_ok {c : Cfg} {H : Hp} : ∀ {vs : List V} {ds : List D} {ys : List Str}, RpAll c H vs ds → unS ds = some ys → vs = ys.map V.str
  | _, _, _, .nil, e => by
    cases e
    rfl
  | _, d :: ds, _, .cons r t, e => by
    cases d with
    | str x =>
      unfold unS at e
      obtain ⟨es, e1, e2⟩ := Option.map_eq_some_iff.mp e
      subst e2
      rw [unS_ok t e1]
      cases r
      rfl
    | _ => cases e
def gJoin : Str → Sl → DK → Prop := fun z t k => match t with
  | .d (.lst xs) => (match unS xs with
    | some ys => (ys.map (·.length)).sum + ys.length * z.length ≤ 16777216 ∧ k (.d (.str (Txt.join z ys)))
    | none => False)
  | _ => False
theorem om_join : OM K (fun x xs H Q => ∃ a p, ∃ ys : List Str, x = .str a ∧ xs = [.ref p] ∧ (SqL K H p (ys.map V.str) ∨ SqT K H p (ys.map V.str)) ∧
    (ys.map (·.length)).sum + ys.length * a.length ≤ 16777216 ∧ Q (.str (Txt.join a ys)) H) gJoin := fun c H z y t k Q eK hi r h q => by
  unfold gJoin at h
  split at h
  · split at h
    · rename_i e
      obtain ⟨w, ew, rr⟩ := r
      cases ew
      cases rr with
      | lst nf hh ra =>
        have ev := unS_ok ra e
        subst ev
        exact ⟨_, _, _, rfl, rfl, .inl (.inl (.inl hh)), h.1, q _ (.d (.str _)) H (Go.self hi) ⟨_, rfl, .str _⟩ h.2⟩
    · exact h.elim
  · exact h.elim
theorem pd_join {o e : Expr} {to te : TE} {do_ de : DE} {apos : Pos} (ho : PD X W xw o to do_) (he : PD X W xw e te de) (hs : starEach [e] X.env = [(false, eval e X.env)] := by rfl) (hbase : attributeBase o "join" X.env (eval o X.env) = eval o X.env := by rfl) (hline : (apos.endLine == pos.line) = true := by rfl) :
    PD X W xw (.Call (.Attribute o "join" apos) [e] [] pos) (tM1 (fun x xs H Q => ∃ a p, ∃ ys : List Str, x = .str a ∧ xs = [.ref p] ∧ (SqL X.K H p (ys.map V.str) ∨ SqT X.K H p (ys.map V.str)) ∧
      (ys.map (·.length)).sum + ys.length * a.length ≤ 16777216 ∧ Q (.str (Txt.join a ys)) H) to te) (dM1 gJoin do_ de) := ⟨fun tk => pe_join (ho.pe tk) (he.pe tk) hs hbase hline, li_m1 om_join ho.li he.li⟩
/-! ### c in s, one sign -/
def gInS (f : Bool → Bool) : Sl → Sl → DK → Prop := fun s t k => match s, t with
  | .d (.str x), .d (.str z) => ∃ c : Nat, x = ⟨#[c]⟩ ∧ k (.d (.bl (f (decide (c ∈ z.cps.toList)))))
  | _, _ => False
theorem o2_inS {f : Bool → Bool} : O2 K (fun x y H Q => ∃ (c : Nat) (z : Str), x = .str ⟨#[c]⟩ ∧ y = .str z ∧ Q (.bl (f (decide (c ∈ z.cps.toList)))) H) (gInS f) := fun c H x y s t k Q eK hi rs rt h q => by
  unfold gInS at h
  split at h
  · obtain ⟨n, e, hk⟩ := h
    subst e
    have e1 := sl_str rs
    have e2 := sl_str rt
    subst e1 e2
    exact ⟨n, _, rfl, rfl, q _ (.d (.bl _)) H (Go.self hi) ⟨_, rfl, .bl _⟩ hk⟩
  · exact h.elim
section
variable {a b : Expr} {ta tb : TE} {da db : DE}
theorem pd_inS (x : PD X W xw a ta da) (y : PD X W xw b tb db) (hm : lastMarks [.In] [b] = false := by with_unfolding_all rfl) : PD X W xw (.Compare a [.In] [b] pos) (tOp (fun x y H Q => ∃ (c : Nat) (z : Str), x = .str ⟨#[c]⟩ ∧ y = .str z ∧ Q (.bl (decide (c ∈ z.cps.toList))) H) ta tb) (dOp (gInS fun c => c) da db) := ⟨fun tk => pe_cmpR op_in_sign (x.pe tk) (y.pe tk) hm, li_op (o2_inS (f := fun c => c)) x.li y.li⟩
end
/-! ### int(x), x an int, a truth or a text -/
/-! ### C(k = ..) -/
structure PDK (X : Cx) (W : WX) (xw : XW) (es : List Keyword) (ta : TA) (da : DA) : Prop where
  pk : Takes X W → PK X es ta
  li : LiA X.K W xw ta da
end
end Dv
set_option Elab.async false
set_option linter.all false
set_option maxRecDepth 100000
set_option maxHeartbeats 4000000
/-! Tn: texts of whole numbers: read back. -/
namespace TX
open PySem PySem.NumText TL L2
abbrev tx (i : Int) : Str := Str.ofString (toString i)
/-! ### the text of a line -/
def hd (j : Int) : Str := if j = 1 then "m" else if j = -1 then "-m" else tx j ++ "m"
def ltext (i j : Int) : Str := if j = 0 then tx i else if i = 0 then hd j else hd j ++ plus i
def TlOk (t : Str) (i : Int) : Prop := (t = Str.empty ∧ i = 0) ∨ (t = plus i ∧ i ≠ 0)
/-! ### signs below 128 -/
def low (x : Str) : Prop := ∀ c ∈ tl x, c < 128
theorem ok_low {x : Str} (h : low x) : Dv.okD (.str x) = true := by
  have e : PyData.strOk x = true := by
    unfold PyData.strOk
    rw [← Array.all_toList, List.all_eq_true]
    exact fun c hc => decide_eq_true (Nat.lt_trans (h c hc) (by decide))
  simp [Dv.okD, Dv.toPy, SeqAt.shaped, PyData.canLay0, PyData.depth, e]
theorem deq_str (x y : Str) : Dv.deq (.str x) (.str y) = decide (x = y) := by
  show PyData.eqv (.str x) (.str y) = _
  rw [PyData.eqv]
  by_cases h : x = y <;> simp [h]
end TX
set_option Elab.async false
set_option linter.all false
set_option maxRecDepth 100000
set_option maxHeartbeats 4000000
/-! Dw: lists of one's own: x = [], x.append(e), x.extend(e). -/
namespace Dv
open PySem L2
def fzX (k : Nat) (xw : XW) : XW := fun A p Γ => xw A p (fz k Γ)
section
variable {X : Cx} {W : WX} {xw : XW} {K : PySem.W.Frag} {pos : Pos}
theorem WOk.mine {c : Cfg} {k : Nat} {a : Addr} {ha : ¬ c.F a} (h : WOk c W xw) : WOk (c.mine k a ha) W (fzX k xw) := fun σ H Γ C d p st x z => h σ H (fz k Γ) C d p st.fz (XOk.to (c := c.mine k a ha) (c' := c) rfl (fun _ z => .inl z) Kp.self x) z
/-- the ends of a block that owns one list more -/
def ownE (k : Nat) (D : DEnds) : DEnds := { nx := fun Γ => D.nx (fz k Γ), rt := fun s => D.rt (fzS k s), bk := fun Γ => D.bk (fz k Γ), ct := fun Γ => D.ct (fz k Γ), ro := D.ro, rg := fun s Γ => D.rg (fzS k s) (fz k Γ) }
theorem EndsOk.mine {c : Cfg} {k : Nat} {a : Addr} {ha : ¬ c.F a} {E : Ends} {D : DEnds} (o : EndsOk c E D) : EndsOk (c.mine k a ha) E (ownE k D) :=
  ⟨fun Γ σ H s z => o.nx _ σ H s.fz z, fun v s H i r z => o.rt v _ H (c.mono (fun _ _ e => (rem_sub e).2) i.1) r.fz z, fun Γ σ H s z => o.bk _ σ H s.fz z, fun Γ σ H s z => o.ct _ σ H s.fz z,
    fun v x H i r z => o.ro v x H (c.mono (fun _ _ e => (rem_sub e).2) i.1) (Rp.to (c := (c.mine k a ha).rel) (c' := c.rel) rfl rel_mine Kp.self r) z, fun v s Γ σ H st r z => o.rg v _ _ σ H st.fz r.fz z⟩
theorem mine_new {c : Cfg} {σ : St} {H : Hp} {Γ : Gm} {k i : Nat} {p : Addr} (s : StOk c σ H Γ) (np : H p = none) : ∃ ha : ¬ c.F p, StOk (c.mine k p ha) (σ.set i (some (.ref p))) (upd H p (.lst [])) ((clr k Γ).set i (.own k (.lst []))) := by
  have nP : ¬ c.F p := c.fresh s.inv np
  have s1 := s.mine (k := k) (H' := upd H p (.lst [])) nP np (fun b o e => by rw [upd_ne (ne_of_none e np)]; exact e) ⟨_, upd_same, rfl⟩
  exact ⟨nP, s1.set (i := i) (o := some (.ref p)) (s := .own k (.lst [])) ⟨p, rfl, if_pos rfl, [], upd_same, .nil⟩⟩
def dOwn (i k : Nat) (dr : DS) : DS := fun D Γ => dr (ownE k D) ((clr k Γ).set i (.own k (.lst [])))
theorem pdss_own {i k : Nat} {x : Str} {px lp spos : Pos} {rest : List Stmt} {tr : TS} {dr : DS} (hN : X.N.Nodup) (r : PDSs X W (fzX k xw) rest tr dr) (hi : X.N[i]? = some x := by rfl) (hx : Loc X.env.scope x := by first | exact Or.inl rfl | exact Or.inr rfl)
    (hs : swapsWith (.List [] lp) (some (.Name x px)) spos.line X.env = pure false := by rfl) (hf : X.fn x = true ∨ X.env.scope.names.lookup x = some .local := by first | exact .inl rfl | exact .inr rfl | assumption) :
    PDSs X W xw (.Assign [.Name x px] (.List [] lp) spos :: rest) (tSeq (tAsg (tLst tNil) (gName i)) tr) (dOwn i k dr) :=
  ⟨fun tk => pss_cons (ps_set hN hi hx (pe_lst pa_nil) hs hf) (r.ps tk), fun c eK hW E D o Γ σ H s hd => by
    refine ⟨Nat.zero_le _, fun p np => ?_⟩
    obtain ⟨ha, s2⟩ := mine_new (k := k) (i := i) s np
    exact r.li (c.mine k p ha) eK hW.mine E _ o.mine _ _ _ s2 hd⟩
/-! ### x.append(e) -/
def dApp (i : Nat) (e : DE) : DS := fun D Γ => match Γ[i]? with
  | some (.own k (.lst xs)) => e Γ fun s => match s with
    | .d y => xs.length < 100000 ∧ D.nx ((clr k Γ).set i (.own k (.lst (xs ++ [y]))))
    | _ => False
  | _ => False
theorem pds_app {i : Nat} {x : Str} {e : Expr} {te : TE} {de : DE} {p apos cpos : Pos} (h : PD X W xw e te de) (hi : X.N[i]? = some x := by rfl) (hv : Vis X.env.scope x := by first | exact Or.inl rfl | exact Or.inr (Or.inl rfl))
    (hd : (x == ("__debug__" : Str)) = false := by decide) (hcd : (x == ("__classdict__" : Str)) = false := by decide)
    (hbase : attributeBase (.Name x p) "append" X.env (eval (.Name x p) X.env) = eval (.Name x p) X.env := by rfl)
    (hfew : ((backTo cpos (starEach [e] X.env)).all (fun x => !x.1) && (backToKw cpos (keywordEach [] X.env)).all (fun x => x.1.isSome)
      && decide ([e].length + ([] : List Keyword).length + (if ([] : List Keyword).isEmpty then 0 else 1) < 30)) = true := by rfl)
    (hline : (apos.endLine == cpos.line) = true := by rfl) (hs : starEach [e] X.env = (false, eval e X.env) :: starEach [] X.env := by rfl) (hplain : (backTo cpos (starEach [] X.env)).any (·.1) = false := by rfl)
    (hsw : swapsWith (.Call (.Attribute (.Name x p) "append" apos) [e] [] cpos) none pos.line X.env = pure false := by rfl) :
    PDS X W xw (.Expr (.Call (.Attribute (.Name x p) "append" apos) [e] [] cpos) pos) (tDrop (tBM X.K "list" rAppend (tVar i) (tCons te tNil))) (dApp i de) :=
  ⟨fun tk => ps_expr (pe_bm PySem.F.plainAttrs_list PySem.F.slot_list_append PySem.F.type_list_append mt_append (pe_var hi hv hd hcd) (pa_cons (h.pe tk) pa_nil hs) hbase hfew hline hs hplain) hsw, fun c eK hW E D o Γ σ H s hdd => by
    unfold dApp at hdd
    split at hdd
    · rename_i k xs eΓ
      obtain ⟨o1, e1⟩ := slot_at s.len eΓ
      obtain ⟨a, ea, wa, vs, ha, ra⟩ := s.at_ i _ _ e1 eΓ
      subst ea
      refine ⟨_, e1, .inl ⟨rfl, vs, .inl (.inl ha)⟩, ?_⟩
      refine h.li c eK hW Γ _ hdd σ H s _ fun v s' H1 g r q => ?_
      try dsimp only at q
      split at q
      · obtain ⟨w, ew, rw⟩ := r
        cases ew
        have s1 := s.go g
        have ha1 : H1 a = some (.lst vs) := g.keep a _ (c.owW wa).2 rfl ha
        have ra1 : RpAll c H1 vs xs := ra.go g.kF
        refine ⟨a, vs, v, rfl, rfl, ha1, by rw [ra.length]; exact Nat.lt_of_lt_of_le q.1 (by decide), ?_⟩
        have kW : Kp c.F H1 (upd H1 a (.lst (vs ++ [v]))) := fun b u nb _ e => by
          rw [upd_ne (fun y => nb (by rw [y]; exact c.WF (c.owW wa).1))]
          exact e
        exact o.nx _ _ _ (s1.put (i := i) (x := .lst _) wa e1 ⟨_, upd_same, RpAll.append (ra1.go kW) (.cons (rw.go kW) .nil)⟩ (.lst ha1)) q.2
      · exact q.elim
    · exact hdd.elim⟩
end
end Dv
set_option Elab.async false
set_option linter.all false
set_option maxRecDepth 100000
set_option maxHeartbeats 4000000
/-! Et: for i, x in enumerate(t), t a tuple or a list; for c in a text. -/
namespace PySem
open Sem (wp)
open AutoSeq1 (wpAny_loadPart')
theorem meets_enumerate_newT (l : Addr) (items : Array Value) (n : Nat) (dct : Option Addr) (sl : Array (Option Value)) :
    Meets (Builtin.«enumerate.__new__» ⟨[.type "enumerate", .ref l], []⟩) (fun _ R s => s.heap.get? l = some { cls := .type "tuple", dict := dct, data := .seq items n, slots := sl } ∧
      R (.ok (.ret (.ref (s.heap.push { cls := .type "tuple_iterator", data := .fields #[.ref l, .int 0 0] }).objs.size)))
        { s with heap := (s.heap.push { cls := .type "tuple_iterator", data := .fields #[.ref l, .int 0 0] }).push { cls := .type "enumerate", data := .fields #[.none, .bool false, .ref s.heap.objs.size, rawInt 0, .none, .none] } }) :=
  .of_wp fun prog w A R s h => by
    obtain ⟨hp, g, d, tk, os⟩ := s
    obtain ⟨hl, h⟩ := h
    have hsub := sub_enumerate
    have hL : Heap.IsTuple (Shared.heap ⟨hp, g, d, tk, os⟩) l items := ⟨_, hl, rfl, n, rfl⟩
    wp_walk using wpAny_loadPart' hl
    refine wpAny_stack_any fun st => wpAny_pure ?_
    split
    · rename_i c _ _ _ _ _
      cases (c == Value.type "enumerate")
      · wp_walk using wpAny_loadPart' hl, wpAny_pyIter_tuple hL
        exact ⟨_, rfl, h⟩
      · wp_walk using wpAny_loadPart' hl, wpAny_pyIter_tuple hL
        exact ⟨_, rfl, h⟩
    · wp_walk using wpAny_loadPart' hl, wpAny_pyIter_tuple hL
      exact ⟨_, rfl, h⟩
section
variable {prog : Program} {w : World} {A : Around} {E : Value → Shared → Prop} {s : Shared}
theorem call_enumerate_tuple {l : Addr} {items : Array Value} {Q : Value → Shared → Prop} (hL : s.heap.IsTuple l items)
    (h : ∀ h', IsEnum h' (s.heap.objs.size + 1) s.heap.objs.size 0 .none → h'.IsTupleIter s.heap.objs.size l 0 → h'.objs.size = s.heap.objs.size + 2 →
      (∀ b o, s.heap.get? b = some o → h'.get? b = some o) → Q (.ref (s.heap.objs.size + 1)) { s with heap := h' }) :
    wpAny (model prog w) A (call (.type "enumerate") [.ref l]) Q E s := by
  obtain ⟨⟨c, dct, dt, sl⟩, hl, hc, n, hd⟩ := hL
  replace hc : c = .type "tuple" := hc
  replace hd : dt = .seq items n := hd
  subst hc hd
  refine callType_new F.called_enumerate (by decide) (F.typeCall_enumerate_1 _) (F.newCall_enumerate_1 _) (fun obj => F.args_object_init_2 obj _) F.entry_enumerate_new
    (meets_enumerate_newT l items n dct sl) ⟨hl, ?_⟩
  have hz : (s.heap.push { cls := .type "tuple_iterator", data := .fields #[.ref l, .int 0 0] }).objs.size = s.heap.objs.size + 1 := Heap.size_push ..
  show _ ∧ _
  rw [hz]
  have he : IsEnum ((s.heap.push { cls := .type "tuple_iterator", data := .fields #[.ref l, .int 0 0] }).push
      { cls := .type "enumerate", data := .fields #[.none, .bool false, .ref s.heap.objs.size, rawInt 0, .none, .none] }) (s.heap.objs.size + 1) s.heap.objs.size 0 .none := by
    have := Heap.get?_push_size (s.heap.push { cls := .type "tuple_iterator", data := .fields #[.ref l, .int 0 0] })
      (o := { cls := .type "enumerate", data := .fields #[.none, .bool false, .ref s.heap.objs.size, rawInt 0, .none, .none] }) rfl
    rw [hz] at this
    exact this
  exact ⟨⟨_, he, rfl⟩, h _ he ⟨_, Heap.get?_push_of_some _ (Heap.get?_push_size _ rfl), rfl, rfl⟩ (by rw [Heap.size_push, hz]) fun b o y => Heap.get?_push_of_some _ (Heap.get?_push_of_some _ y)⟩
end
end PySem
namespace L2
open PySem PySem.Spec PyProof.Rows
/-- the tuple at a, the items in new pairs -/
def IteT (K : PySem.W.Frag) (a : Addr) : It :=
  ⟨fun i H => ∃ (xs : List V) (x : V), SqT K H a xs ∧ xs[i]? = some x, fun i H v H' => ∃ T x, v = .ref T ∧ H T = none ∧ H' = upd H T (.tup [.int (i : Nat), x]) ∧ ∀ xs, SqT K H a xs → xs[i]? = some x, fun i H => ∃ xs : List V, SqT K H a xs ∧ xs.length ≤ i⟩
theorem turn_enumT {P : Program} {w : World} {K : PySem.W.Frag} {elts : List Expr} {kk : Nat} {tpos : Pos} (a e it : Addr) :
    Turn P w K (.Tuple elts kk tpos) (IteT K a) [e, it] e (fun i h => (∃ old, IsEnum h e it ((i : Nat) : Int) old) ∧ h.IsTupleIter it a i ∧ e ≠ it) where
  mem := by simp
  obj := fun i h st b hb => by
    obtain ⟨⟨old, he⟩, ⟨o, ho, hc, hd⟩, _⟩ := st
    have e' : b = e ∨ b = it := by simpa using hb
    rcases e' with z | z
    · rw [z]; exact ⟨_, he, fun v q => nomatch q⟩
    · rw [z]; exact ⟨o, ho, fun v q => by rw [hd] at q; cases q⟩
  keep := fun i h h' st k => let ⟨⟨old, he⟩, hi, hne⟩ := st; ⟨⟨old, k e (by simp) _ he⟩, hi.at fun o q => k it (by simp) o q, hne⟩
  item := by
    intro X hP hw hK hc i pins s σ H E I hf st hg
    subst hP hw hK
    obtain ⟨⟨old, he⟩, hit, hne⟩ := st
    obtain ⟨xs, x, hq, hx⟩ := hg
    obtain ⟨its, rv, p, hz⟩ := I.tuple hq
    obtain ⟨u, hu, ru⟩ := rv.get hx
    have hel : e < s.heap.objs.size := Heap.lt_size he
    have hil : it < s.heap.objs.size := by obtain ⟨_, q, _⟩ := hit; exact Heap.lt_size q
    have hai : a ≠ it := fun z => by
      subst z
      obtain ⟨o, e1, c1, _⟩ := hit
      obtain ⟨o', e2, c2, _⟩ := p
      rw [e1] at e2
      cases e2
      rw [c1] at c2
      exact absurd c2 (by decide)
    have hea : e ≠ a := fun z => by
      subst z
      obtain ⟨o', e2, c2, _⟩ := p
      have e1 : s.heap.get? e = some _ := he
      rw [e1] at e2
      cases e2
      exact absurd (show Value.type "enumerate" = Value.type "tuple" from c2) (by decide)
    have hlt : i < its.toArray.size := by
      have := List.getElem?_eq_some_iff.mp hu
      obtain ⟨l, _⟩ := this
      simpa using l
    refine wpAny_pyNext_enum_itemD (Draws.tuple (A := X.A.in1) (I.ok.hd hc) it a hai its.toArray) he ⟨hit, p⟩ hlt hne (by simp [hne, hea]) fun y h' tk hP ho hst hT hsz hk => ?_
    have hy : y = u := by
      have e1 : its.toArray[i]? = some u := by simpa using hu
      rw [e1] at hP
      exact (Option.some.inj hP).symm
    subst hy
    refine ⟨_, rfl, wpAny_letOwnedTupleGo_enum (s := { s with heap := h', toks := tk + 1 }) ho fun h'' he' sb => ?_⟩
    have hT2 : h''.get? s.heap.objs.size = some { cls := .type "tuple", data := .seq #[.int i tk, y] } := (sb.2 _ (Nat.ne_of_gt hel)).trans hT
    have new : ObjOk X.prog X.w (upd H s.heap.objs.size (.tup [.int (i : Nat), x])) h'' s.heap.objs.size (.tup [.int (i : Nat), x]) :=
      ⟨by show 2 ≤ sizeLine; decide, [.int i tk, y], .cons ⟨_, rfl⟩ (.cons ru .nil), ⟨_, hT2, rfl, _, rfl⟩⟩
    have I1 : Inv X pins σ (upd H s.heap.objs.size (.tup [.int (i : Nat), x])) { s with heap := h'', toks := tk + 1 } :=
      I.turnedNew (ch := [e, it]) (fun b ob hb q => (sb.2 b (fun z => hb (by simp [z]))).trans (hk b ob (fun z => hb (by simp [z])) (fun z => hb (by simp [z])) q)) hf (Nat.le_refl _) new
    refine ⟨.ref s.heap.objs.size, _, I1, rfl, ⟨_, x, rfl, I.hok.fresh (Nat.le_refl _), rfl, fun ys hy => by rw [I.tuple_inj hy hq]; exact hx⟩, ⟨⟨y, ?_⟩, hst.1.at fun o q => (sb.2 it (Ne.symm hne)).trans q, hne⟩, fun b hb => ?_⟩
    · have e1 : ((i + 1 : Nat) : Int) = (i : Int) + 1 := by omega
      rw [e1]
      exact he'
    · have hb' : b < s.heap.objs.size := by
        have e' : b = e ∨ b = it := by simpa using hb
        rcases e' with z | z
        · rw [z]; exact hel
        · rw [z]; exact hil
      rw [upd_ne (Nat.ne_of_lt hb')]
      exact (hf b hb).1
  done := by
    intro X hP hw hK hc i pins s σ H E I hf st hg
    subst hP hw hK
    obtain ⟨⟨old, he⟩, hit, hne⟩ := st
    obtain ⟨xs, hq, hx⟩ := hg
    obtain ⟨its, rv, p, hz⟩ := I.tuple hq
    obtain ⟨f0, f1, f2, f3, f4, f5⟩ := hf it (by simp)
    have hl := rv.length
    have hT : s.TypeIs (.ref e) "enumerate" := ⟨_, he, rfl⟩
    unfold pyNext
    refine wpAny_bind (wpAny_attempt (wpAny_callSpecial?_slot (name := Str.ofString "__next__") hT F.slot_enumerate_next
      (wpAny_call_entry F.slot_enumerate_next hT F.entry_enumerate_next ?_ (F.args_enumerate_next_1 _))))
    show wpAny _ _ (field (.ref e) 2 >>= _) _ _ _
    refine wpAny_bind (wpAny_field he rfl (x := .ref it) rfl ?_)
    refine wpAny_bind (wpAny_nextOf_tuple_end (I.ok.hd hc) hit (show s.heap.IsTuple a its.toArray from p) (by simp; omega) fun h' x he' hx' => ?_)
    obtain ⟨o, ho, hcl⟩ := hx'
    refine wpAny_bind (wpAny_isInstance (T := "StopIteration") (b := true) ⟨o, ho, hcl⟩ isSubtype_stop ?_)
    exact wpAny_pure ⟨rfl, I.turned (t' := s.toks) (fun b o hb q => he' b o hb q) f0 f1 f3 f4 f5⟩
  self := fun A i s Q E st h => let ⟨⟨_, he⟩, _⟩ := st; wpAny_pyIter_enum he h
/-- enumerate of a list or a tuple -/
def iEnumA (K : PySem.W.Frag) (ta : TA) : TI := fun σ H R => ta σ H fun vs H1 => (∃ a xs, vs = [.ref a] ∧ SqL K H1 a xs ∧ R (Ite K a) H1) ∨ (∃ a xs, vs = [.ref a] ∧ SqT K H1 a xs ∧ R (IteT K a) H1)
theorem pi_enumA {X : Cx} {e : Expr} {ta : TA} {p pos tpos : Pos} {elts : List Expr} {kk : Nat} (hg : Gl X "enumerate") (hm : X.mg "enumerate" = none) (ha : PA X [e] ta) (hs : starEach [e] X.env = [(false, eval e X.env)] := by rfl) :
    PI X (.Tuple elts kk tpos) (.Call (.Name "enumerate" p) [e] [] pos) (iEnumA X.K ta) := by
  refine ⟨fun pins s σ H R I h => ?_⟩
  refine Call_ (ld_blt I hg hm boot_enumerate (PyProof.Rows.callWith_type1 (thn (ha.run pos pins s σ H _ I h) fun us s1 ⟨vs, H1, I1, r1, q1⟩ => ?_) hs rfl))
  rcases q1 with ⟨a, xs, ex, hq, q⟩ | ⟨a, xs, ex, hq, q⟩
  · subst ex
    cases r1 with
    | cons r rr =>
      cases rr
      cases r
      obtain ⟨its, rv, p', hz⟩ := I1.list hq
      refine call_enumerate_list p'.isList fun h' he hit hsz hk => wpAny_pyIter_enum he ?_
      have I2 : Inv X pins σ H1 { s1 with heap := h' } := I1.kept (t' := s1.toks) hk
      refine ⟨s1.heap.objs.size + 1, [s1.heap.objs.size + 1, s1.heap.objs.size], _, _, H1, rfl, I2, turn_enum a (s1.heap.objs.size + 1) s1.heap.objs.size, ⟨⟨.none, he⟩, hit, Nat.succ_ne_self _⟩, fun b hb => ?_, q⟩
      have e' : b = s1.heap.objs.size + 1 ∨ b = s1.heap.objs.size := by simpa using hb
      have hle : s1.heap.objs.size ≤ b := by
        rcases e' with z | z
        · rw [z]
          exact Nat.le_add_right _ _
        · rw [z]
          exact Nat.le_refl _
      exact I1.fpOk hle (I1.hok.fresh hle)
  · subst ex
    cases r1 with
    | cons r rr =>
      cases rr
      cases r
      obtain ⟨its, rv, p', hz⟩ := I1.tuple hq
      refine call_enumerate_tuple (show s1.heap.IsTuple a its.toArray from p') fun h' he hit hsz hk => wpAny_pyIter_enum he ?_
      have I2 : Inv X pins σ H1 { s1 with heap := h' } := I1.kept (t' := s1.toks) hk
      refine ⟨s1.heap.objs.size + 1, [s1.heap.objs.size + 1, s1.heap.objs.size], _, _, H1, rfl, I2, turn_enumT a (s1.heap.objs.size + 1) s1.heap.objs.size, ⟨⟨.none, he⟩, hit, Nat.succ_ne_self _⟩, fun b hb => ?_, q⟩
      have e' : b = s1.heap.objs.size + 1 ∨ b = s1.heap.objs.size := by simpa using hb
      have hle : s1.heap.objs.size ≤ b := by
        rcases e' with z | z
        · rw [z]
          exact Nat.le_add_right _ _
        · rw [z]
          exact Nat.le_refl _
      exact I1.fpOk hle (I1.hok.fresh hle)
end L2
namespace Dv
open PySem L2
section
variable {X : Cx} {W : WX} {xw : XW} {K : PySem.W.Frag} {pos : Pos}
/-- pairs with their number -/
def enumD (lo : Nat) : List D → List D
  | [] => []
  | x :: r => .tup [.int lo, x] :: enumD (lo + 1) r
theorem enumD_length (xs : List D) : ∀ lo, (enumD lo xs).length = xs.length := by
  induction xs with
  | nil => exact fun _ => rfl
  | cons x r ih => exact fun lo => congrArg (· + 1) (ih (lo + 1))
theorem enumD_get {i : Nat} {d : D} (xs : List D) : ∀ lo, (enumD lo xs)[i]? = some d → ∃ x, xs[i]? = some x ∧ d = .tup [.int ((lo + i : Nat) : Int), x] := by
  induction xs generalizing i with
  | nil => exact fun _ h => by simp [enumD] at h
  | cons x r ih =>
    intro lo h
    cases i with
    | zero =>
      simp [enumD] at h
      exact ⟨x, rfl, by rw [← h]; rfl⟩
    | succ i =>
      rw [enumD, List.getElem?_cons_succ] at h
      obtain ⟨y, e1, e2⟩ := ih (lo + 1) h
      exact ⟨y, e1, by rw [e2]; congr 4; omega⟩
theorem walk_el {c : Cfg} {a : Addr} {vs : List V} {xs : List D} : WalkD c (Ite c.K a) (enumD 0 xs) (fun H => InL c H a vs ∧ RpAll c H vs xs) where
  st := fun k _ h => ⟨h.1.to rfl (fun _ z => z) k, h.2.go k⟩
  go := fun i H h _ l => by
    rw [enumD_length] at l
    exact ⟨vs, vs[i]'(by rw [h.2.length]; exact l), h.1.sq, List.getElem?_eq_some_iff.mpr ⟨by rw [h.2.length]; exact l, rfl⟩⟩
  stop := fun i H h l => by
    rw [enumD_length] at l
    exact ⟨vs, h.1.sq, by rw [h.2.length]; exact l⟩
  yld := fun i H x H' d h hi e y => by
    obtain ⟨T, u, rfl, nT, rfl, e2⟩ := y
    obtain ⟨z, e3, rfl⟩ := enumD_get xs 0 e
    obtain ⟨v, h1, h2⟩ := h.2.get e3
    have e4 := e2 vs h.1.sq
    rw [h1] at e4
    cases e4
    rw [Nat.zero_add]
    exact ⟨Go.new hi nT, .tup (.inl ⟨fun z => c.live hi z nT, .inl upd_same⟩) (.cons (.int _) (.cons (h2.go (Kp.new nT)) .nil))⟩
theorem walk_et {c : Cfg} {a : Addr} {vs : List V} {xs : List D} : WalkD c (IteT c.K a) (enumD 0 xs) (fun H => InT c H a vs ∧ RpAll c H vs xs) where
  st := fun k _ h => ⟨h.1.to rfl (fun _ z => z) k, h.2.go k⟩
  go := fun i H h _ l => by
    rw [enumD_length] at l
    exact ⟨vs, vs[i]'(by rw [h.2.length]; exact l), h.1.sq, List.getElem?_eq_some_iff.mpr ⟨by rw [h.2.length]; exact l, rfl⟩⟩
  stop := fun i H h l => by
    rw [enumD_length] at l
    exact ⟨vs, h.1.sq, by rw [h.2.length]; exact l⟩
  yld := fun i H x H' d h hi e y => by
    obtain ⟨T, u, rfl, nT, rfl, e2⟩ := y
    obtain ⟨z, e3, rfl⟩ := enumD_get xs 0 e
    obtain ⟨v, h1, h2⟩ := h.2.get e3
    have e4 := e2 vs h.1.sq
    rw [h1] at e4
    cases e4
    rw [Nat.zero_add]
    exact ⟨Go.new hi nT, .tup (.inl ⟨fun z => c.live hi z nT, .inl upd_same⟩) (.cons (.int _) (.cons (h2.go (Kp.new nT)) .nil))⟩
theorem walkOk_el {c : Cfg} {a : Addr} {vs : List V} {xs : List D} {H : Hp} (il : InL c H a vs) (ra : RpAll c H vs xs) : WalkOk c (Ite c.K a) (enumD 0 xs) H :=
  ⟨⟨_, walk_el, il, ra⟩, fun b nb => ⟨fun H => ((¬ (c.F a ∨ a = b) ∧ Rd H a (.lst vs)) ∨ KL c.K a vs) ∧ ∀ ha, RpAll (c.hide b ha) H vs xs, ⟨il.elim (fun z => .inl ⟨fun y => y.elim z.1 fun e => by
      subst e
      rcases z.2 with z | ⟨_, z⟩ <;> (rw [nb] at z; cases z), z.2⟩) .inr, fun ha => ra.hide nb⟩, fun ha => by
    have w : WalkD (c.hide b ha) (Ite (c.hide b ha).K a) (enumD 0 xs) (fun H => InL (c.hide b ha) H a vs ∧ RpAll (c.hide b ha) H vs xs) := walk_el
    exact ⟨fun k _ h => ⟨(InL.to (c := c.hide b ha) (c' := c.hide b ha) rfl (fun _ z => z) k h.1), fun ha' => RpAll.to (c := c.hide b ha') (c' := c.hide b ha') rfl (fun _ z => z) k (h.2 ha')⟩,
      fun i H h => w.go i H ⟨h.1, h.2 ha⟩, fun i H h => w.stop i H ⟨h.1, h.2 ha⟩, fun i H x H' d h => w.yld i H x H' d ⟨h.1, h.2 ha⟩⟩⟩⟩
theorem walkOk_et {c : Cfg} {a : Addr} {vs : List V} {xs : List D} {H : Hp} (il : InT c H a vs) (ra : RpAll c H vs xs) : WalkOk c (IteT c.K a) (enumD 0 xs) H :=
  ⟨⟨_, walk_et, il, ra⟩, fun b nb => ⟨fun H => ((¬ (c.F a ∨ a = b) ∧ Rd H a (.tup vs)) ∨ KT c.K a vs) ∧ ∀ ha, RpAll (c.hide b ha) H vs xs, ⟨il.elim (fun z => .inl ⟨fun y => y.elim z.1 fun e => by
      subst e
      rcases z.2 with z | ⟨_, z⟩ <;> (rw [nb] at z; cases z), z.2⟩) .inr, fun ha => ra.hide nb⟩, fun ha => by
    have w : WalkD (c.hide b ha) (IteT (c.hide b ha).K a) (enumD 0 xs) (fun H => InT (c.hide b ha) H a vs ∧ RpAll (c.hide b ha) H vs xs) := walk_et
    exact ⟨fun k _ h => ⟨(InT.to (c := c.hide b ha) (c' := c.hide b ha) rfl (fun _ z => z) k h.1), fun ha' => RpAll.to (c := c.hide b ha') (c' := c.hide b ha') rfl (fun _ z => z) k (h.2 ha')⟩,
      fun i H h => w.go i H ⟨h.1, h.2 ha⟩, fun i H h => w.stop i H ⟨h.1, h.2 ha⟩, fun i H x H' d h => w.yld i H x H' d ⟨h.1, h.2 ha⟩⟩⟩⟩
def diEnum (a : DA) : DI := fun Γ k => a Γ fun ss => match ss with
  | [.d (.lst xs)] => k (enumD 0 xs)
  | [.d (.tup xs)] => k (enumD 0 xs)
  | _ => False
theorem pdi_enum {e : Expr} {p tpos : Pos} {ta : TA} {da : DA} {elts : List Expr} {kk : Nat} (hm : X.mg "enumerate" = none) (a : PDA X W xw [e] ta da) (hg : Gl X "enumerate" := by rfl) (hs : starEach [e] X.env = [(false, eval e X.env)] := by rfl) :
    PDI X W xw (.Tuple elts kk tpos) (.Call (.Name "enumerate" p) [e] [] pos) (iEnumA X.K ta) (diEnum da) :=
  ⟨fun tk => pi_enumA hg hm (a.pa tk) hs, fun c eK hW Γ k hk σ H st R q => a.li c eK hW Γ _ hk σ H st _ fun vs ss H1 g1 r1 h1 => by
    rw [← eK]
    try dsimp only at h1
    split at h1
    · obtain ⟨v, rfl, w, e, rr⟩ := paired1 r1
      cases e
      cases rr with
      | lst nf il ra => exact .inl ⟨_, _, rfl, .inl (Or.inl il), q _ H1 _ g1 (walkOk_el (.inl ⟨nf, (Or.inl il)⟩) ra) h1⟩
    · obtain ⟨v, rfl, w, e, rr⟩ := paired1 r1
      cases e
      cases rr with
      | tup il ra => exact .inr ⟨_, _, rfl, il.sq, q _ H1 _ g1 (walkOk_et il ra) h1⟩
    · exact h1.elim⟩
/-! ### for c in s -/
def signs (z : Str) : List D := z.cps.toList.map fun c => .str ⟨#[c]⟩
theorem walk_s {c : Cfg} {z : Str} : WalkD c (Its z) (signs z) (fun _ => True) where
  st := fun _ _ h => h
  go := fun i H _ _ l => by
    show i < z.cps.size
    simpa [signs] using l
  stop := fun i H _ l => by
    show z.cps.size ≤ i
    simpa [signs] using l
  yld := fun i H x H' d _ hi e y => by
    obtain ⟨rfl, n, e2, rfl⟩ := y
    unfold signs at e
    rw [List.getElem?_map, Array.getElem?_toList, e2] at e
    cases e
    exact ⟨Go.self hi, .str _⟩
def diStr (a : DE) : DI := fun Γ k => a Γ fun s => match s with
  | .d (.str z) => k (signs z)
  | _ => False
theorem pdi_str {tg e : Expr} {te : TE} {de : DE} (h : PD X W xw e te de) : PDI X W xw tg e (iStr te) (diStr de) :=
  ⟨fun tk => pi_str (h.pe tk), fun c eK hW Γ k hk σ H st R q => h.li c eK hW Γ _ hk σ H st _ fun v s H1 g1 r1 h1 => by
    try dsimp only at h1
    split at h1
    · exact ⟨_, sl_str r1, q _ H1 _ g1 ⟨⟨_, walk_s, trivial⟩, fun _ _ => ⟨fun _ => True, trivial, fun _ => walk_s⟩⟩ h1⟩
    · exact h1.elim⟩
end
end Dv
set_option Elab.async false
set_option linter.all false
set_option maxRecDepth 100000
set_option maxHeartbeats 4000000
/-! Mt: match t: case ['a' | 'b', x, y]: ..., t a tuple whose first item is a text. -/
namespace L2
open PySem PySem.Spec PyProof.Rows
section
variable {X : Cx} {pos : Pos}
/-- cases over the items of a tuple -/
def PMC (X : Cx) (cs : List MatchCase) (tc : List V → TS) : Prop := ∀ (pins : List (Addr × Obj)) (s : Shared) (σ : St) (H : Hp) (D : Ends) (a : Addr) (xs : List V) (first : Bool), Inv X pins σ H s → SqT X.K H a xs → tc xs D σ H →
  wpAny (model X.prog X.w) X.A (matchCases cs X.env (.ref a) first) (SP X pins D) X.xe s
theorem fit {n : Nat} (h : n ≤ sizeLine) : (n : Int) < 2 ^ 63 := by
  have : sizeLine < 2 ^ 62 := by decide
  omega
end
end L2
namespace Dv
open PySem L2
section
variable {X : Cx} {W : WX} {xw : XW} {K : PySem.W.Frag} {pos : Pos}
abbrev DC := List D → DS
def LiC (K : PySem.W.Frag) (W : WX) (xw : XW) (tc : List V → TS) (dc : DC) : Prop := ∀ c : Cfg, c.K = K → WOk c W xw → ∀ (E : Ends) (D : DEnds), EndsOk c E D → ∀ Γ σ H vs ds, StOk c σ H Γ → RpAll c H vs ds → dc ds D Γ → tc vs E σ H
structure PDC (X : Cx) (W : WX) (xw : XW) (cs : List MatchCase) (tc : List V → TS) (dc : DC) : Prop where
  pc : Takes X W → PMC X cs tc
  li : LiC X.K W xw tc dc
end
end Dv
set_option Elab.async false
set_option linter.all false
set_option maxRecDepth 100000
set_option maxHeartbeats 4000000
/-! Tr: split, rpartition, slices, tuple(x), list(x), ord, x in xs, isinstance(x, (list, tuple)), repr(int), (..) * n. -/
namespace L2
open PySem PySem.Spec PyProof.Rows
section
variable {X : Cx}
end
end L2
namespace Dv
open PySem L2
section
variable {X : Cx} {W : WX} {xw : XW} {K : PySem.W.Frag} {pos : Pos}
/-! ### split, rpartition -/
/-! ### slices -/
def cutD (xs : List D) (lo hi : Option Int) : List D := (xs.drop (HT.sIx xs.length 0 lo)).take (HT.sIx xs.length xs.length hi - HT.sIx xs.length 0 lo)
theorem RpAll.drop {c : Cfg} {H : Hp} : ∀ {vs : List V} {ds : List D} (n : Nat), RpAll c H vs ds → RpAll c H (vs.drop n) (ds.drop n)
  | _, _, 0, r => r
  | _, _, _ + 1, .nil => .nil
  | _, _, n + 1, .cons _ r => RpAll.drop n r
theorem RpAll.take {c : Cfg} {H : Hp} : ∀ {vs : List V} {ds : List D} (n : Nat), RpAll c H vs ds → RpAll c H (vs.take n) (ds.take n)
  | _, _, 0, _ => .nil
  | _, _, _ + 1, .nil => .nil
  | _, _, n + 1, .cons a r => .cons a (RpAll.take n r)
theorem RpAll.cut {c : Cfg} {H : Hp} {vs : List V} {ds : List D} {lo hi : Option Int} (r : RpAll c H vs ds) : RpAll c H (cutV vs lo hi) (cutD ds lo hi) := by
  unfold cutV cutD
  rw [r.length]
  exact (r.drop _).take _
abbrev DO := Gm → (Option Int → Prop) → Prop
def LiO (K : PySem.W.Frag) (W : WX) (xw : XW) (t : TO) (d : DO) : Prop := ∀ c : Cfg, c.K = K → WOk c W xw → ∀ Γ k, d Γ k → ∀ σ H, StOk c σ H Γ → ∀ Q : Option Int → Hp → Prop, (∀ o H2, Go c H H2 → k o → Q o H2) → t σ H Q
structure PDO (X : Cx) (W : WX) (xw : XW) (e : Option Expr) (t : TO) (d : DO) : Prop where
  po : Takes X W → PO X e t
  li : LiO X.K W xw t d
def doNone : DO := fun _ k => k none
def doSome (e : DE) : DO := fun Γ k => e Γ fun s => match s with
  | .d (.int i) => k (some i)
  | _ => False
theorem pdo_none : PDO X W xw none tNoPart doNone := ⟨fun _ => po_none, fun c eK hW Γ k hk σ H s Q q => q none H (Go.self s.inv) hk⟩
theorem pdo_some {e : Expr} {te : TE} {de : DE} (h : PD X W xw e te de) : PDO X W xw (some e) (tPart te) (doSome de) := ⟨fun tk => po_some (h.pe tk), fun c eK hW Γ k hk σ H s Q q => h.li c eK hW Γ _ hk σ H s _ fun v s' H1 g r h1 => by
    try dsimp only at h1
    split at h1
    · exact ⟨_, sl_int r, q _ H1 g h1⟩
    · exact h1.elim⟩
def gCut : Sl → Option Int → Option Int → DK → Prop := fun s lo hi k => match s with
  | .d (.lst xs) => k (.d (.lst (cutD xs lo hi)))
  | .d (.tup xs) => k (.d (.tup (cutD xs lo hi)))
  | .d (.str z) => z.length ≤ 100000 ∧ k (.d (.str (cutS z lo hi)))
  | _ => False
def dCut (e : DE) (lo hi : DO) : DE := fun Γ k => e Γ fun s => lo Γ fun l => hi Γ fun u => gCut s l u k
theorem cut_whole {xs : List D} {lo hi : Option Int} (h : HT.sIx xs.length 0 lo = 0 ∧ HT.sIx xs.length xs.length hi = xs.length) : cutD xs lo hi = xs := by
  unfold cutD
  rw [h.1, h.2]
  simp
theorem pd_cut {e : Expr} {lo hi : Option Expr} {te : TE} {tl th : TO} {de : DE} {dl dh : DO} {p2 : Pos} (he : PD X W xw e te de) (hl : PDO X W xw lo tl dl) (hh : PDO X W xw hi th dh) :
    PD X W xw (.Subscript e (.Slice lo hi none p2) pos) (tSl (fun x lo hi H Q => rSlL X.K x lo hi H Q ∨ (rSlA X.K x lo hi H Q ∨ rSlS x lo hi H Q)) te tl th) (dCut de dl dh) :=
  ⟨fun tk => pe_slice (sl_list.or (sl_tupA.or L2.sl_str)) (he.pe tk) (hl.po tk) (hh.po tk), fun c eK hW Γ k hk σ H st Q q => he.li c eK hW Γ _ hk σ H st _ fun v s H1 g1 r1 h1 => hl.li c eK hW Γ _ h1 σ H1 (st.go g1) _ fun l H2 g2 h2 => hh.li c eK hW Γ _ h2 σ H2 ((st.go g1).go g2) _ fun u H3 g3 h3 => by
    have r3 := r1.go (g2.trans g3).keep
    have gg := (g1.trans g2).trans g3
    unfold gCut at h3
    split at h3
    · obtain ⟨w, e, rr⟩ := r3
      cases e
      cases rr with
      | lst nf il ra => exact .inl ⟨_, _, rfl, .inl (Or.inl il), fun p np => q _ (.d (.lst _)) _ (gg.trans (Go.new g3.inv np)) ⟨_, rfl, rp_newL g3.inv np ra.cut⟩ h3⟩
    · obtain ⟨w, e, rr⟩ := r3
      cases e
      have r0 := rr
      cases rr with
      | tup il ra =>
        refine .inr (.inl ⟨_, _, rfl, by rw [← eK]; exact il.sq, fun hw => ?_, fun _ p np => ?_⟩)
        · rw [ra.length] at hw
          rw [cut_whole hw] at h3
          exact q _ (.d (.tup _)) _ gg ⟨_, rfl, r0⟩ h3
        · exact q _ (.d (.tup _)) _ (gg.trans (Go.new g3.inv np)) ⟨_, rfl, .tup (.inl ⟨fun z => c.live g3.inv z np, .inl upd_same⟩) (ra.cut.go (Kp.new np))⟩ h3
    · have e := sl_str r3
      subst e
      exact .inr (.inr ⟨_, rfl, sz h3.1, q _ (.d (.str _)) _ gg ⟨_, rfl, .str _⟩ h3.2⟩)
    · exact h3.elim⟩
/-! ### tuple(x), list(x), ord(c) -/
def gTupOf : List Sl → DK → Prop := fun ss k => match ss with
  | [.d (.lst xs)] => k (.d (.tup xs))
  | [.d (.tup xs)] => k (.d (.tup xs))
  | _ => False
theorem oc_tupOf : OC K (fun xs H Q => ∃ p ys, xs = [V.ref p] ∧ ((SqL K H p ys ∧ ∀ l, H l = none → Q (.ref l) (upd H l (.tup ys))) ∨ (SqT K H p ys ∧ Q (.ref p) H))) gTupOf := fun c H vs ss k Q eK hi r h q => by
  unfold gTupOf at h
  split at h
  · obtain ⟨v, rfl, w, e, rr⟩ := paired1 r
    cases e
    cases rr with
    | lst nf il ra => exact ⟨_, _, rfl, .inl ⟨.inl (Or.inl il), fun p np => q _ (.d (.tup _)) _ (Go.new hi np) ⟨_, rfl, .tup (.inl ⟨fun z => c.live hi z np, .inl upd_same⟩) (ra.go (Kp.new np))⟩ h⟩⟩
  · obtain ⟨v, rfl, w, e, rr⟩ := paired1 r
    cases e
    have r0 := rr
    cases rr with
    | tup il ra => exact ⟨_, _, rfl, .inr ⟨by rw [← eK]; exact il.sq, q _ (.d (.tup _)) _ (Go.self hi) ⟨_, rfl, r0⟩ h⟩⟩
  · exact h.elim
def gListOf : List Sl → DK → Prop := fun ss k => match ss with
  | [.d (.lst xs)] => k (.d (.lst xs))
  | [.d (.tup xs)] => k (.d (.lst xs))
  | _ => False
theorem oc_listOf : OC K (fun xs H Q => ∃ p ys, xs = [V.ref p] ∧ (SqL K H p ys ∨ SqT K H p ys) ∧ ∀ l, H l = none → Q (.ref l) (upd H l (.lst ys))) gListOf := fun c H vs ss k Q eK hi r h q => by
  unfold gListOf at h
  split at h
  · obtain ⟨v, rfl, w, e, rr⟩ := paired1 r
    cases e
    cases rr with
    | lst nf il ra => exact ⟨_, _, rfl, .inl (.inl (Or.inl il)), fun p np => q _ (.d (.lst _)) _ (Go.new hi np) ⟨_, rfl, rp_newL hi np ra⟩ h⟩
  · obtain ⟨v, rfl, w, e, rr⟩ := paired1 r
    cases e
    cases rr with
    | tup il ra => exact ⟨_, _, rfl, .inr (by rw [← eK]; exact il.sq), fun p np => q _ (.d (.lst _)) _ (Go.new hi np) ⟨_, rfl, rp_newL hi np ra⟩ h⟩
  · exact h.elim
/-! ### x in xs, texts -/
def seqS : D → Option (List Str)
  | .lst xs => unS xs
  | .tup xs => unS xs
  | _ => none
def gInQ (neg : Bool) : Sl → Sl → DK → Prop := fun s t k => match s, t with
  | .d (.str z), .d y => (match seqS y with
    | some ys => k (.d (.bl (if neg then !decide (z ∈ ys) else decide (z ∈ ys))))
    | none => False)
  | _, _ => False
theorem inV_strs (z : Str) (ys : List Str) : inV (.str z) (ys.map V.str) = decide (z ∈ ys) := by
  unfold inV
  induction ys with
  | nil => rfl
  | cons y r ih =>
    rw [List.map_cons, List.any_cons, ih]
    show ((y == z) || decide (z ∈ r)) = _
    by_cases e : y = z
    · subst e
      simp
    · have e2 : ¬ z = y := fun q => e q.symm
      simp [e, e2]
theorem flat_strs (ys : List Str) : (ys.map V.str).all flatV = true := by
  induction ys with
  | nil => rfl
  | cons y r ih => exact ih
theorem o2_inQ {neg : Bool} : O2 K (rIn K neg) (gInQ neg) := fun c H x y s t k Q eK hi rs rt h q => by
  unfold gInQ at h
  split at h
  · rename_i z d
    split at h
    · rename_i ys e
      have ez := sl_str rs
      subst ez
      obtain ⟨w, ew, rr⟩ := rt
      cases ew
      have fin : ∀ (vs : List V) (ds : List D) (p : Addr), y = .ref p → RpAll c H vs ds → unS ds = some ys → (SqL K H p vs ∨ SqT K H p vs) → rIn K neg (.str z) y H Q := fun vs ds p ey ra eu sq => by
        have ev := unS_ok ra eu
        subst ev ey
        refine ⟨p, _, rfl, sq, rfl, flat_strs ys, ?_⟩
        rw [inV_strs]
        exact q _ (.d (.bl _)) H (Go.self hi) ⟨_, rfl, .bl _⟩ h
      cases rr with
      | lst nf il ra => exact fin _ _ _ rfl ra e (.inl (.inl (Or.inl il)))
      | tup il ra => exact fin _ _ _ rfl ra e (.inr (by rw [← eK]; exact il.sq))
      | _ => cases e
    · exact h.elim
  · exact h.elim
section
variable {a b : Expr} {ta tb : TE} {da db : DE}
theorem pdt_inQ (x : PD X W xw a ta da) (y : PD X W xw b tb db) (hm : lastMarks [.In] [b] = false := by with_unfolding_all rfl) : PDT X W xw (.Compare a [.In] [b] pos) (tTest (tOp (rIn X.K false) ta tb)) (dB (dOp (gInQ false) da db)) := pdt_cmp op_in_seq o2_inQ x y hm
end
/-! ### isinstance(x, (T1, T2)) -/
def dIs2 (T1 T2 : Ty) (e : DE) : DE := fun Γ k => e Γ fun s => match s with
  | .d x => isObj x = false ∧ k (.d (.bl (isTy T1 x || isTy T2 x)))
  | _ => False
theorem pd_is2 {e : Expr} {te : TE} {de : DE} {n1 n2 : Str} {p q1 q2 qt : Pos} {kt : _} (T1 T2 : Ty) (h : PD X W xw e te de) (hm : X.mg "isinstance" = none) (hm1 : X.mg n1 = none) (hm2 : X.mg n2 = none) (hv1 : bootBuiltins n1 = some (.type T1.nm)) (hv2 : bootBuiltins n2 = some (.type T2.nm)) (hg : Gl X "isinstance" := by rfl)
    (hg1 : Gl X n1 := by rfl) (hg2 : Gl X n2 := by rfl) (hn1 : n1 ≠ "__name__" := by decide) (hn2 : n2 ≠ "__name__" := by decide) (hd1 : (n1 == ("__debug__" : Str)) = false := by decide) (hd2 : (n2 == ("__debug__" : Str)) = false := by decide)
    (hs1 : starEach [e, .Tuple [.Name n1 q1, .Name n2 q2] kt qt] X.env = (false, eval e X.env) :: starEach [.Tuple [.Name n1 q1, .Name n2 q2] kt qt] X.env := by rfl) (hs2 : starEach [.Tuple [.Name n1 q1, .Name n2 q2] kt qt] X.env = (false, eval (.Tuple [.Name n1 q1, .Name n2 q2] kt qt) X.env) :: starEach [] X.env := by rfl)
    (hs3 : starEach [.Name n1 q1, .Name n2 q2] X.env = (false, eval (.Name n1 q1) X.env) :: starEach [.Name n2 q2] X.env := by rfl) (hpl : (backTo pos (starEach [.Tuple [.Name n1 q1, .Name n2 q2] kt qt] X.env)).any (·.1) = false := by rfl) :
    PD X W xw (.Call (.Name "isinstance" p) [e, .Tuple [.Name n1 q1, .Name n2 q2] kt qt] [] pos) (tCB (rIsiT X.K) (tCons te (tCons (tTup (tCons (tC (.ty T1.nm)) (tCons (tC (.ty T2.nm)) tNil))) tNil))) (dIs2 T1 T2 de) :=
  ⟨fun tk => pe_callB call_isiT hg hm (by decide +kernel) (pa_cons (h.pe tk) (pa_cons (pe_tup (pa_cons (pe_bltn hg1 hm1 hv1 rfl hn1 hd1) (pa_cons (pe_bltn hg2 hm2 hv2 rfl hn2 hd2) pa_nil) hs3)) pa_nil hs2) hs1) (he := hs1) (hpl := hpl), fun c eK hW Γ k hk σ H st Q q => h.li c eK hW Γ _ hk σ H st _ fun v s H1 g r h1 => by
    try dsimp only at h1
    split at h1
    · rename_i x
      refine ⟨by show 2 ≤ sizeLine; decide, fun p np => ?_⟩
      obtain ⟨w, e, rr⟩ := r
      cases e
      have r2 := rr.go (H' := upd H1 p (.tup [.ty T1.nm, .ty T2.nm])) (Kp.new np)
      obtain ⟨t, ht, hT⟩ := rp_ty r2 h1.1
      rw [eK] at ht hT
      refine ⟨_, p, _, t, [.type T1.nm, .type T2.nm], isTy T1 x || isTy T2 x, rfl, upd_same, .cons (.ty _) (.cons (.ty _) .nil), ht, ?_, q _ (.d (.bl _)) _ (g.trans (Go.new g.inv np)) ⟨_, rfl, .bl _⟩ h1.2⟩
      unfold PySem.W.kitAny
      rw [hT T1]
      cases isTy T1 x with
      | true => rfl
      | false =>
        unfold PySem.W.kitAny
        dsimp only
        rw [hT T2]
        cases isTy T2 x <;> rfl
    · exact h1.elim⟩
end
end Dv
set_option Elab.async false
set_option linter.all false
set_option maxRecDepth 100000
set_option maxHeartbeats 4000000
/-! Gx: defs that are called where no repr is under way; repr of data. -/
namespace L2
open PySem PySem.Spec PyProof.Rows
/-- as FnOk, where no repr is under way -/
structure FnOkG (P : Program) (w : World) (K : PySem.W.Frag) (mg : Str → Option Value) (base : Heap) (CX : CXT) (k : Nat) (f : Addr) (fd : FuncData) (ps : List Str) (sp : Sp) : Prop where
  len : ∀ vs H Q E, sp vs H Q E → vs.length = ps.length
  run : ∀ (A : Around) (outer : List Env) (s : Shared) (H : Hp) (args : Args) (us : List Value) (vs : List V) (Q : VK) (E : XK), Room k A → A.guards = some [] → Env0 P w K mg base A outer s H → BindsTo s fd args (ps.zip us) → Vals vs us → sp vs H Q E →
    codeAny (model P w) A (.call (.ref f) args) (CR CX outer P w H s Q E) s
section
variable {X : Cx}
end
end L2
namespace Dv
open PySem L2
section
variable {X : Cx} {W : WX} {xw : XW} {K : PySem.W.Frag} {pos : Pos}
end
section
variable {P : Program} {w : World} {K : PySem.W.Frag} {mg : Str → Option Value} {base : Heap}
end
end Dv
set_option Elab.async false
set_option linter.all false
set_option maxRecDepth 100000
set_option maxHeartbeats 4000000
/-! Ax: {}, {} == {}, is not True, t * n, f(text).append(None). -/
namespace L2
open PySem PySem.Spec PyProof.Rows
section
variable {X : Cx} {pins : List (Addr × Obj)} {σ : St} {H : Hp} {s : Shared} {a : Addr} {kvs : List (Key × V)}
/-- a dict that nobody changes any more is known as it stands -/
theorem Inv.lockD (I : Inv X pins σ H s) (e : H a = some (.dK kvs)) : ∃ o, Inv X pins σ (upd H a (.frz o (.dK kvs))) s := by
  obtain ⟨z, hd, vs, kv, o, es, ep, h1, h2, rest⟩ := (show ObjOk X.prog X.w H s.heap a (.dK kvs) from I.hok a _ e)
  have m : Mut (H a) := by
    rw [e]
    trivial
  exact ⟨o, I.write (h' := s.heap) (t' := s.toks) (e := a) (o := .frz o (.dK kvs)) m (.inl rfl) (fun b u _ z => z) ⟨o, h1⟩ ⟨h1, z, hd, vs, kv, o, es, ep, h1, h2, rest⟩⟩
def tLockD (t : TE) : TE := fun σ H Q => t σ H fun x H1 => ∃ p kvs, x = .ref p ∧ H1 p = some (.dK kvs) ∧ ∀ o, Q (.ref p) (upd H1 p (.frz o (.dK kvs)))
theorem pe_lockD {e : Expr} {t : TE} (h : PE X e t) : PE X e (tLockD t) := ⟨fun pins s σ H Q I q => thn (h.run pins s σ H _ I q) fun v s1 ⟨x, H1, I1, r1, q1⟩ => by
  obtain ⟨p, kvs, rfl, ha, q2⟩ := q1
  obtain ⟨o, I2⟩ := I1.lockD ha
  exact ⟨.ref p, _, I2, r1, q2 o⟩⟩
end
end L2
namespace Dv
open PySem L2
section
variable {X : Cx} {W : WX} {xw : XW} {K : PySem.W.Frag} {pos : Pos} {a b : Expr} {ta tb : TE} {da db : DE}
def dDic0 : DE := fun _ k => k (.d (.dic []))
theorem pd_dic0 : PD X W xw (.Dict [] [] pos) (tLockD tDNewK) dDic0 := ⟨fun tk => pe_lockD pe_dnewK, fun c eK hW Γ k hk σ H st Q q => fun p np => ⟨p, [], rfl, upd_same, fun o => by
  rw [upd_upd]
  exact q _ (.d (.dic [])) _ (Go.new st.inv np) ⟨_, rfl, .dic (c.fresh st.inv np) upd_same .nil⟩ hk⟩⟩
def gNotB : Sl → Sl → DK → Prop := fun s t k => match s, t with
  | .d (.bl x), .d (.bl y) => k (.d (.bl (!decide (x = y))))
  | _, _ => False
theorem o2_notB : O2 K rNotB gNotB := fun c H x y s t k Q eK hi rs rt h q => by
  unfold gNotB at h
  split at h
  · exact ⟨_, _, sl_bl rs, sl_bl rt, q _ (.d (.bl _)) H (Go.self hi) ⟨_, rfl, .bl _⟩ h⟩
  · exact h.elim
theorem pdt_notB (x : PD X W xw a ta da) (y : PD X W xw b tb db) : PDT X W xw (.Compare a [.IsNot] [b] pos) (tTest (tOp rNotB ta tb)) (dB (dOp gNotB da db)) := pdt_cmp op_notBl o2_notB x y (nomark _)
end
end Dv
set_option Elab.async false
set_option linter.all false
set_option maxRecDepth 100000
set_option maxHeartbeats 4000000
/-! Bx: a, b, c = x, y, z; a, b = a list; None in a list; xs[::-1]; text.replace. -/
namespace Dv
open PySem L2
section
variable {X : Cx} {W : WX} {xw : XW} {K : PySem.W.Frag} {pos : Pos}
/-! ### None in a list of ints and Nones -/
section
variable {a b : Expr} {ta tb : TE} {da db : DE}
/-! ### xs[::-1] -/
end
end
end Dv
set_option Elab.async false
set_option linter.all false
set_option maxRecDepth 100000
set_option maxHeartbeats 4000000
/-! Rx: text.replace(written, written), text.replace(written, written, 1), in defs where a token is out. -/
namespace L2
open PySem PySem.Spec PyProof.Rows Builtin Builtin.Str
section
variable {X : Cx} {o e : Expr} {te to : TE} {y z : Str} {j k l : Nat} {c0 c1 c2 apos pos : Pos}
end
end L2
namespace Dv
open PySem L2
/-! ### the signs of what replace gives -/
structure PDe (X : Cx) (W : WX) (xw : XW) (e : Expr) (te : TE) (de : DE) : Prop where
  pe : Takes X W → PET X e te
  li : Li X.K W xw te de
structure PDAe (X : Cx) (W : WX) (xw : XW) (es : List Expr) (ta : TA) (da : DA) : Prop where
  pa : Takes X W → PAT X es ta
  li : LiA X.K W xw ta da
structure PDSe (X : Cx) (W : WX) (xw : XW) (st : Stmt) (ts : TS) (ds : DS) : Prop where
  ps : Takes X W → PST X st ts
  li : LiS X.K W xw ts ds
structure PDSse (X : Cx) (W : WX) (xw : XW) (st : List Stmt) (ts : TS) (ds : DS) : Prop where
  ps : Takes X W → PSsT X st ts
  li : LiS X.K W xw ts ds
section
variable {X : Cx} {W : WX} {xw : XW} {pos : Pos} {a b : Expr} {ta tb : TE} {da db : DE} {st : Stmt} {rest : List Stmt} {t u : TS} {d e : DS}
theorem PDe.of (h : PD X W xw a ta da) : PDe X W xw a ta da := ⟨fun tk => CwR.PET.of (h.pe tk), h.li⟩
theorem PDSe.of (h : PDS X W xw st t d) : PDSe X W xw st t d := ⟨fun tk => PST.of (h.ps tk), h.li⟩
end
section
variable {P : Program} {w : World} {K : PySem.W.Frag} {mg : Str → Option Value} {base : Heap}
end
end Dv
set_option Elab.async false
set_option linter.all false
set_option maxRecDepth 100000
set_option maxHeartbeats 4000000
/-! Lx: several clauses 'except x as n'; repr of any data; f(lambda: e). -/
namespace L2
open PySem PySem.Spec PyProof.Rows
/-- what clauses 'except x as n' wish, one after the other: slot i is n's -/
def wAll (K : PySem.W.Frag) (i : Nat) (Wo : WX) (D : Ends) : List (Value × (Addr → Value → Option Addr → TS)) → WX
  | [] => Wo
  | (c, ts) :: r => wAs K c i ts (wAll K i Wo D r) D
inductive AsOk (X : Cx) (n : Str) : List ExceptHandler → List (Value × (Addr → Value → Option Addr → TS)) → Prop
  | nil : AsOk X n [] []
  | cons {x : Str} {c : Value} {ts : Addr → Value → Option Addr → TS} {b : Stmt} {bs : List Stmt} {p q : Pos} {hs : List ExceptHandler} {l : List (Value × (Addr → Value → Option Addr → TS))} (nm : Names X x c)
      (su : ∀ (a : Addr) (oe : Obj) (cls : Value) (d : Option Addr) (pn : List (Addr × Obj)), Zc cls d oe → (∃ vs, oe.data = .fields vs) → PSs (X.suite a ((a, oe) :: pn)) (b :: bs) (ts a cls d)) (r : AsOk X n hs l) :
      AsOk X n (.ExceptHandler (some (.Name x p)) (some n) (b :: bs) q :: hs) ((c, ts) :: l)
section
variable {X : Cx} {n : Str} {i : Nat} {body : List Stmt} {h1 : ExceptHandler} {hs : List ExceptHandler} {l : List (Value × (Addr → Value → Option Addr → TS))} {pos : Pos} {tb : WX → TS} {Wo : WX}
theorem ps_tries (stk : X.stack = X.env :: X.outer) (fr : X.env.frame = some X.env.locals) (nd : X.N.Nodup) (ni : X.N[i]? = some n) (nl : X.env.kindOf n = some .local) (tk : Takes X Wo)
    (hb : ∀ (W : WX) (pn : List (Addr × Obj)) (xe : Value → Shared → Prop), Takes (X.tr pn xe) W → PassesOwn (model X.prog X.w) X.A X.env xe → PSs (X.tr pn xe) body (tb W))
    (hk : AsOk X n (h1 :: hs) l) : PS X (.Try body (h1 :: hs) [] [] pos) (fun D σ H => tb (wAll X.K i Wo D l) D σ H) := by
  refine ⟨fun pins s σ H D I hyp => ?_⟩
  have iok := I.ok
  have frames : X.A.frames = some (X.env :: X.outer) := by rw [iok.frames, stk]
  refine wpAny_Try_except ?_
  refine wpAny_mono ((hb (wAll X.K i Wo D l) (X.pn ++ pins) (fun e t1 => wpAny (model X.prog X.w) X.A (noteFrame e X.env) (fun _ t2 => wpAny (model X.prog X.w) X.A (setFlight e none) (fun _ t3 =>
    wpAny (model X.prog X.w) X.A (handleBy e X.env (h1 :: hs)) (SP X pins D) X.xe t3) X.xe t2) X.xe t1) (fun u z xx => ?_) PassesOwn.looking).run [] s σ H D (I.toTry _) hyp) (fun f t1 sp => ?_) (fun e t1 he => he)
  · obtain ⟨a, B, sI, pins', σ', H', cls, d, rfl, J', nb, up, sky, na, os, ag, wish⟩ := xx
    have J : Inv X pins σ' H' sI := J'.ofTry iok
    have sky2 : Sky B (X.env :: X.outer) a (Zc cls d) X.env.locals z.heap := by rw [← stk]; exact sky
    show wpAny (model X.prog X.w) X.A (noteFrame (.ref a) X.env) _ _ _
    refine Sky.land Zc.steady frames fr sky2 fun g3 fl3 up3 => ?_
    have J3 : Inv X pins σ' H' { z with heap := g3 } := J.landed nb fl3.1 (up.trans up3) os ag
    obtain ⟨o3, w3, at3, zc3, dt3⟩ := fl3.there
    have away : a ∉ frs (X.env :: X.outer) := fun hm => by
      obtain ⟨_, o', e', hnf⟩ := fl3.2.2.1.mem hm
      rw [at3] at e'
      cases e'
      exact hnf _ dt3
    have aL : a ≠ X.env.locals := fun y => away (List.mem_filterMap.mpr ⟨X.env, List.mem_cons_self, by rw [fr, y]⟩)
    have aF : a ∉ X.fs := fun hm => by
      obtain ⟨e, he, q⟩ := List.mem_filterMap.mp hm
      exact away (List.mem_filterMap.mpr ⟨e, List.mem_cons_of_mem _ he, q⟩)
    have S3 := J3.suite at3 dt3 na aL aF
    have walk : ∀ {hs' : List ExceptHandler} {l' : List (Value × (Addr → Value → Option Addr → TS))}, AsOk X n hs' l' → wAll X.K i Wo D l' cls d σ' H' →
        wpAny (model X.prog X.w) X.A (handleBy (.ref a) X.env hs') (SP X pins D) X.xe { z with heap := g3 } := by
      intro hs' l' ha
      induction ha with
      | nil =>
        intro w
        refine wpAny_handleBy_nil ?_
        obtain ⟨_, _, _, oe, vs, T, oT, ts', he, hz, hd, h1, hr⟩ := id fl3
        unfold PySem.passOn
        refine wpAny_bind (wpAny_field he hd h1 ?_)
        rw [if_neg (show ¬ ((Value.ref T == Value.none) = true) from by simp)]
        have out : wpAny (model X.prog X.w) X.A (setFlight (.ref a) X.env.frame) (fun _ s4 => wpAny (model X.prog X.w) X.A (throw (.ref a) : Sem Flow) (SP X pins D) X.xe s4) X.xe { z with heap := g3 } := by
          rw [fr]
          refine HandSPX.setFlight_upZ fl3 fun g4 hh4 up4 => wpAny_throw (tk _ _ ?_)
          exact ⟨a, B, sI, pins, σ', H', cls, d, rfl, J, nb, (up.trans up3).trans up4, .inr (.inr (by rw [stk]; exact hh4)), na, os, ag, w⟩
        first
          | exact wpAny_bind (wpAny_pure (wpAny_bind out))
          | exact wpAny_bind out
      | @cons x c ts b bs p q hs2 l2 nm su r ih =>
        intro w
        obtain ⟨y, ey, yes, no⟩ := w
        refine wpAny_handleBy_cons (codeAny_handlers_test ?_) (by intro q; cases q)
        have LT : PySem.W.Looks (model X.prog X.w) g3 (typeOf (.ref a)) cls := fun A Q E s k q => wpAny_typeOf_ref (k _ _ at3) (by rw [zc3.1]; exact q)
        have LM := PySem.W.exm_one (M := model X.prog X.w) (J3.kIn) LT ey
        have class_ : ∀ {Q : Value → Shared → Prop} {E : Value → Shared → Prop}, Q c { z with heap := g3 } → wpAny (model X.prog X.w) (X.A.mark (some (.ref a))) (eval (.Name x p) X.env) Q E { z with heap := g3 } := fun {Q E} q => by
          obtain ⟨hg, hdbg, hm | ⟨hm, hv, hnn⟩⟩ := nm
          · exact ld_glob (X := X.suite a ((a, o3) :: (X.pn ++ pins))) S3 hg hm q hdbg
          · exact ld_blt (X := X.suite a ((a, o3) :: (X.pn ++ pins))) S3 hg hm hv q hnn hdbg
        refine class_ (LM.here ?_)
        cases y with
        | true =>
          refine codeAny_handlers_suite_as ?_
          refine HandSPX.lands_againZ fl3 fun g4 fl4 up4 => ?_
          have J4 : Inv X pins σ' H' { z with heap := g4 } := J.landed nb fl4.1 ((up.trans up3).trans up4) os ag
          obtain ⟨o4, w4, at4, zc4, dt4⟩ := fl4.there
          have S4 := J4.suite at4 dt4 na aL aF
          refine store_ok (X := X.suite a ((a, o4) :: (X.pn ++ pins))) (v := .ref a) S4 nd ni (.inl nl) rfl (fun s5 S5 => ?_) (.inr nl)
          refine wpAny_mono ((su a o4 cls d (X.pn ++ pins) zc4 ⟨_, dt4⟩).run [] s5 _ H' _ S5 (yes rfl a na)) (fun f s6 sp => ?_) (fun _ _ z => False.elim z)
          have gone : ∀ {σ6 : St} {H6 : Hp} {Q : Shared → Prop}, Inv (X.suite a ((a, o4) :: (X.pn ++ pins))) [] σ6 H6 s6 → (∀ s7, Inv X pins (σ6.set i none) H6 s7 → Q s7) →
              wpAny (model X.prog X.w) X.A (do bindName X.env n .none; unbindBehindTheSuite X.env n q) (fun _ s7 => Q s7) X.xe s6 := fun {σ6 H6 Q} S6 hq => gone_ok (S6.unsuite iok) nd ni nl hq
          cases f with
          | next =>
            obtain ⟨σ6, H6, S6, q6⟩ := sp
            exact gone S6 fun s7 J7 => ⟨_, _, J7, q6⟩
          | brk =>
            obtain ⟨σ6, H6, S6, q6⟩ := sp
            exact gone S6 fun s7 J7 => ⟨_, _, J7, q6⟩
          | cont =>
            obtain ⟨σ6, H6, S6, q6⟩ := sp
            exact gone S6 fun s7 J7 => ⟨_, _, J7, q6⟩
          | ret u =>
            obtain ⟨v6, σ6, H6, S6, r6, q6⟩ := sp
            exact gone S6 fun s7 J7 => ⟨_, _, _, J7, r6, q6⟩
        | false =>
          show wpAny _ X.A (handleBy (.ref a) X.env hs2) _ _ _
          exact ih (no rfl)
    exact walk hk wish
  · cases f with
    | next =>
      obtain ⟨σ', H', J', q⟩ := sp
      exact wpAny_execs_nil ⟨σ', H', J'.ofTry iok, q⟩
    | brk =>
      obtain ⟨σ', H', J', q⟩ := sp
      exact ⟨σ', H', J'.ofTry iok, q⟩
    | cont =>
      obtain ⟨σ', H', J', q⟩ := sp
      exact ⟨σ', H', J'.ofTry iok, q⟩
    | ret u =>
      obtain ⟨v, σ', H', J', r, q⟩ := sp
      exact ⟨v, σ', H', J'.ofTry iok, r, q⟩
end
end L2
namespace L2
open PySem PySem.Spec PyProof.Rows
section
variable {X : Cx}
end
end L2
namespace Dv
open PySem L2
section
variable {X : Cx} {W : WX} {xw : XW} {K : PySem.W.Frag} {pos : Pos}
end
end Dv
namespace Dv
open PySem L2
/-! ### clauses, over data -/
def endsAs (i : Nat) (D : DEnds) : DEnds := { nx := fun Γ => D.nx (Γ.set i .any), rt := D.rt, bk := fun Γ => D.bk (Γ.set i .any), ct := fun Γ => D.ct (Γ.set i .any), ro := D.ro, rg := fun s Γ => D.rg s (Γ.set i .any) }
def xAll (K : PySem.W.Frag) (i : Nat) (xw : XW) (D : DEnds) : List (Value × (Addr → Value → Option Addr → DS)) → XW
  | [] => xw
  | (c, ds) :: r => fun A p Γ => ∃ b, PySem.W.exmOne K (.ref A) c = some b ∧ cond b (∀ a d, ds a (.ref A) d (endsAs i D) (Γ.set i (.ex a (.ref A) d p))) (xAll K i xw D r A p Γ)
inductive AsL (K : PySem.W.Frag) : List (Value × (Addr → Value → Option Addr → TS)) → List (Value × (Addr → Value → Option Addr → DS)) → Prop
  | nil : AsL K [] []
  | cons {c : Value} {ts : Addr → Value → Option Addr → TS} {ds : Addr → Value → Option Addr → DS} {l : List (Value × (Addr → Value → Option Addr → TS))} {m : List (Value × (Addr → Value → Option Addr → DS))} (su : ∀ a A d, LiS K W0 xw0 (ts a (.ref A) d) (ds a (.ref A) d)) (r : AsL K l m) : AsL K ((c, ts) :: l) ((c, ds) :: m)
inductive AsD (X : Cx) (n : Str) : List ExceptHandler → List (Value × (Addr → Value → Option Addr → TS)) → List (Value × (Addr → Value → Option Addr → DS)) → Prop
  | nil : AsD X n [] [] []
  | cons {x : Str} {c : Value} {ts : Addr → Obj → Value → Option Addr → List (Addr × Obj) → TS} {ds : Addr → Value → Option Addr → DS} {b : Stmt} {bs : List Stmt} {p q : Pos} {hs : List ExceptHandler} {l : List (Value × (Addr → Value → Option Addr → TS))} {m : List (Value × (Addr → Value → Option Addr → DS))} (nm : Names X x c)
      (su : ∀ (a : Addr) (oe : Obj) (cls : Value) (d : Option Addr) (pn : List (Addr × Obj)), Zc cls d oe → (∃ vs, oe.data = .fields vs) → PDSs (X.suite a ((a, oe) :: pn)) W0 xw0 (b :: bs) (ts a oe cls d pn) (ds a cls d)) (r : AsD X n hs l m)
      (ht : ∀ a oe cls d pn, ts a oe cls d pn = ts a (oe0 cls d) cls d [] := by intros; rfl) : AsD X n (.ExceptHandler (some (.Name x p)) (some n) (b :: bs) q :: hs) ((c, fun a cls d => ts a (oe0 cls d) cls d []) :: l) ((c, ds) :: m)
theorem AsD.ok {X : Cx} {n : Str} {hs : List ExceptHandler} {l : List (Value × (Addr → Value → Option Addr → TS))} {m : List (Value × (Addr → Value → Option Addr → DS))} (h : AsD X n hs l m) : AsOk X n hs l := by
  induction h with
  | nil => exact .nil
  | cons nm su r ht ih => exact .cons nm (fun a oe cls d pn z f => ht a oe cls d pn ▸ (su a oe cls d pn z f).ps takes0) ih
theorem AsD.li {X : Cx} {n : Str} {hs : List ExceptHandler} {l : List (Value × (Addr → Value → Option Addr → TS))} {m : List (Value × (Addr → Value → Option Addr → DS))} (h : AsD X n hs l m) : AsL X.K l m := by
  induction h with
  | nil => exact .nil
  | cons nm su r ht ih => exact .cons (fun a A d => (su a (oe0 (.ref A) d) (.ref A) d [] ⟨rfl, rfl⟩ ⟨_, rfl⟩).li) ih
theorem wAll_of {K : PySem.W.Frag} {i : Nat} {W : WX} {xw : XW} {E : Ends} {D : DEnds} {c : Cfg} {l : List (Value × (Addr → Value → Option Addr → TS))} {m : List (Value × (Addr → Value → Option Addr → DS))} (h : AsL K l m) (eK : c.K = K) (hW : WOk c W xw) (o : EndsOk c E D) {Γ : Gm} {σ : St} {H : Hp} {A : Addr} {d : Option Addr} {p : XP} (s : StOk c σ H Γ) (x : XOk c H d p) (q : xAll K i xw D m A p Γ) : wAll K i W E l (.ref A) d σ H := by
  induction h with
  | nil => exact hW σ H Γ A d p s x q
  | cons su r ih =>
    obtain ⟨b, eb, hb⟩ := q
    refine ⟨b, eb, fun e a na => ?_, fun e => ?_⟩
    · subst e
      refine su a A d c eK WOk.zero { nx := fun σ' H' => E.nx (σ'.set i none) H', rt := E.rt, bk := fun σ' H' => E.bk (σ'.set i none) H', ct := fun σ' H' => E.ct (σ'.set i none) H' } (endsAs i D) ⟨?_, o.rt, ?_, ?_, o.ro, fun v s Γ σ H st r q => o.rg v s _ _ H (st.set (i := i) (o := none) (s := .any) trivial) r q⟩ _ _ _ (s.set (s := .ex a (.ref A) d p) ⟨rfl, x⟩) (hb a d)
      · exact fun Γ σ H s q => o.nx _ _ H (s.set (s := .any) trivial) q
      · exact fun Γ σ H s q => o.bk _ _ H (s.set (s := .any) trivial) q
      · exact fun Γ σ H s q => o.ct _ _ H (s.set (s := .any) trivial) q
    · subst e
      exact ih hb
/-! ### without what is owned -/
/-! ### f(lambda: e), f of the form kept = None; try: kept = call(); except ..; return kept -/
end Dv
namespace L2
open PySem PySem.Spec PyProof.Rows
end L2
namespace Dv
open PySem L2
section
variable {X : Cx} {W : WX} {xw : XW} {K : PySem.W.Frag} {pos : Pos}
end
/-! ### the law's beginning with a table -/
section
variable {P : Program} {w : World} {K : PySem.W.Frag} {mg : Str → Option Value} {base : Heap}
end
end Dv
namespace L2
open PySem PySem.Spec PyProof.Rows
end L2
namespace L2
open PySem PySem.Spec PyProof.Rows
end L2
namespace Dv
open PySem L2
section
variable {X : Cx} {W : WX} {xw : XW} {K : PySem.W.Frag} {pos : Pos} {a b : Expr} {ta tb : TE} {da db : DE}
end
end Dv
namespace Dv
open PySem L2
end Dv
set_option Elab.async false
set_option linter.all false
set_option maxRecDepth 100000
set_option maxHeartbeats 4000000
/-! Nx: calls of defs that want no repr under way; sum. -/
namespace L2
open PySem PySem.Spec PyProof.Rows
section
variable {X : Cx}
end
end L2
namespace Dv
open PySem L2
section
variable {X : Cx} {W : WX} {xw : XW} {K : PySem.W.Frag} {C : Ctr} {f : Addr} {fd : FuncData} {ps : List Str} {k : Nat} {x : Str} {p pos : Pos} {e : Expr} {es : List Expr} {ta : TA} {da : DA}
end
end Dv
set_option Elab.async false
set_option linter.all false
set_option maxRecDepth 100000
set_option maxHeartbeats 4000000
/-! Hx: a list of one's own handed to a call that keeps nothing of it; C() with a default (). -/
namespace L2
open PySem PySem.Spec PyProof.Rows
section
variable {X : Cx} {CX : CXT} {sp : Sp} {E : St → XK} {C f : Addr} {k : Nat} {fd : FuncData} {ps : List Str} {dvs : List V} {ds : List Value} {x : Str} {p pos : Pos}
theorem pe_makeS0 (M : Mk X.K C f) (F : FnOk X.prog X.w X.K X.mg X.base CX k f fd ps sp) (hr : Room (k + 1) X.A) (hg : Gl X x) (hm : X.mg x = some (.ref C)) (hb : Binds X.K fd ps ds) (hd : Vals dvs ds) (hx : ∀ σ, PassesAt CX X σ (E σ))
    (hdb : (x == ("__debug__" : Str)) = false := by decide) : PE X (.Call (.Name x p) [] [] pos) (tMakeS C sp dvs E tNil) := by
  refine ⟨fun pins s σ H Q I h => ?_⟩
  refine wpAny_Call_Name_kw (ld_glob I hg hm ?_ hdb)
  exact PySem.W.callWith_K0 I.kIn M.kp (run_makeS M F hr hb hd (hx σ) I .nil h)
end
end L2
namespace Dv
open PySem L2
/-! ### handing a list of one's own to a call -/
/-- the view in which one's own a is data -/
def Cfg.lend (c : Cfg) (a : Addr) (n : ¬ c.G a) : Cfg where
  K := c.K
  F := fun b => c.F b ∧ b ≠ a
  W := c.G
  G := c.G
  I := c.I
  pl := c.pl
  ow := fun _ => none
  mono := c.mono
  live := fun h z => c.live h z.1
  WF := fun {b} z => ⟨c.GF z, fun e => n (e ▸ z)⟩
  GW := fun z => z
  plG := c.plG
  owW := fun e => nomatch e
  inj := fun e => nomatch e
  plAt := c.plAt
  plPut := c.plPut
  owPut := fun _ e _ _ => nomatch e
  tb := c.tb
  tabs := c.tabs
  ext := c.ext
mutual
/-- data without lists and dicts -/
def clean : D → Bool
  | .non => true
  | .bl _ => true
  | .int _ => true
  | .str _ => true
  | .tup xs => cleanA xs
  | .obj _ fs => cleanF fs
  | _ => false
def cleanA : List D → Bool
  | [] => true
  | x :: r => clean x && cleanA r
def cleanF : List (Str × D) → Bool
  | [] => true
  | (_, x) :: r => clean x && cleanF r
end
theorem Rp.back {c : Cfg} {a : Addr} {n : ¬ c.G a} {H : Hp} {v : V} {d : D} {xs : List V} (ha : H a = some (.lst xs)) (h : Rp (c.lend a n) H v d) : clean d = true → Rp c H v d := by
  refine Rp.rec (motive_1 := fun v d _ => clean d = true → Rp c H v d) (motive_2 := fun vs ds _ => cleanA ds = true → RpAll c H vs ds) (motive_3 := fun vs ds _ => cleanF ds = true → RpFs c H vs ds) (motive_4 := fun vs ds _ => True)
    (fun _ => .non) (fun b _ => .bl b) (fun i _ => .int i) (fun x _ => .str x) ?_ ?_ ?_ ?_ ?_ ?_ (fun _ => .nil) ?_ (fun _ => .nil) ?_ trivial ?_ h
  · intro b ys ds nf s _ r z
    unfold clean at z
    cases z
  · intro b ys ds s _ r z
    unfold clean at z
    cases z
  · intro b ys ds s _ r z
    unfold clean at z
    refine .tup ?_ (r z)
    rcases s with ⟨nf, rd⟩ | s
    · refine .inl ⟨fun y => nf ⟨y, fun e => ?_⟩, rd⟩
      subst e
      rcases rd with rd | ⟨o, rd⟩ <;> rw [ha] at rd <;> cases rd
    · exact .inr s
  · intro b Cl dx fs ds nf s _ r z
    unfold clean at z
    refine .obj (fun y => nf ⟨y, fun e => ?_⟩) s (r z)
    subst e
    rw [ha] at s
    cases s
  · intro b kvs ds ob nf s _ r z
    unfold clean at z
    cases z
  · intro b C oe d vs ds nf s e x _ r z
    unfold clean at z
    cases z
  · intro v d vs ds _ _ p q z
    unfold cleanA at z
    rw [Bool.and_eq_true] at z
    exact .cons (p z.1) (q z.2)
  · intro m v d vs ds _ _ p q z
    unfold cleanF at z
    rw [Bool.and_eq_true] at z
    exact .cons (p z.1) (q z.2)
  · intro m v d vs ds _ _ p q
    trivial
section
variable {X : Cx} {W : WX} {xw : XW} {K : PySem.W.Frag} {C : Ctr} {f : Addr} {fd : FuncData} {ps : List Str} {k : Nat} {x y : Str} {p py pos : Pos}
/-! ### C() by a default () -/
structure MetAt0 (K : PySem.W.Frag) (x qual : Str) (st : Stmt) (ps : List Str) (f : Addr) (fd : FuncData) : Prop where
  F : FunD K x qual st f fd
  b : Binds K fd ps []
  b1 : ∃ t, KT K t [] ∧ ∃ ds, Vals [V.ref t] ds ∧ Binds K fd ps ds
theorem met_mk0 {K : PySem.W.Frag} {x qual : Str} {st : Stmt} {ps : List Str} {f T t : Addr} {oc ot : Value} {od an ot2 odt : Option Addr} {osl tsl tsl2 : Array (Option Value)} {kV doc pm cdv ct : Value} {m n m2 : Nat} (l : K.lookup f = some ⟨oc, od, .func (PySem.W.fnOf x qual (defArgs st) (defBody st) (defScope st) (.ref T) kV doc pm an cdv ct), osl⟩)
    (c : PySem.W.codeIn K cdv qual = true) (k : PySem.W.keepIn K (.ref f) = true) (lT : K.lookup T = some ⟨ot, ot2, .seq #[.ref t] m, tsl⟩) (lt : K.lookup t = some ⟨.type "tuple", odt, .seq #[] m2, tsl2⟩) (hn : n + 1 = ps.length)
    (h0 : ∀ (T : Addr) (kV doc pm : Value) (an : Option Addr) (cdv ct : Value) (us its : List Value), us.length = n + 1 → its.length = 1 →
      ∃ k, bindArgs (PySem.W.fnOf x qual (defArgs st) (defBody st) (defScope st) (.ref T) kV doc pm an cdv ct) ⟨us, []⟩ = seqItems? (.ref T) >>= k ∧ k (some its.toArray) = pure (ps.zip (us ++ its.drop 1)))
    (h1 : ∀ (T : Addr) (kV doc pm : Value) (an : Option Addr) (cdv ct : Value) (us its : List Value), us.length = n → its.length = 1 →
      ∃ k, bindArgs (PySem.W.fnOf x qual (defArgs st) (defBody st) (defScope st) (.ref T) kV doc pm an cdv ct) ⟨us, []⟩ = seqItems? (.ref T) >>= k ∧ k (some its.toArray) = pure (ps.zip (us ++ its.drop 0))) :
    MetAt0 K x qual st ps f (PySem.W.fnOf x qual (defArgs st) (defBody st) (defScope st) (.ref T) kV doc pm an cdv ct) := by
  have F : L2.FunD K x qual (defArgs st) (defBody st) (defScope st) [V.ref t] [] f (PySem.W.fnOf x qual (defArgs st) (defBody st) (defScope st) (.ref T) kV doc pm an cdv ct) :=
    ⟨⟨_, _, _, _, _, _, _, _, _, _, rfl, l, c, .inr ⟨by simp, T, _, [.ref t], m, rfl, lT, rfl, .cons rfl .nil⟩, .inl rfl⟩, k⟩
  obtain ⟨d0, v0, b0⟩ := F.binds1 (ps := ps) (n + 1) 1 (by simp) (by simpa using hn) h0
  have e0 : d0 = [] := by
    cases v0
    rfl
  rw [e0] at b0
  exact ⟨⟨⟨_, _, _, _, _, _, _, _, _, _, rfl, l, c⟩, k⟩, b0, t, ⟨_, _, _, lt, rfl, rfl, (by decide), .nil⟩, F.binds1 (ps := ps) n 0 (by simp) (by simpa using hn) h1⟩
theorem pd_new0 {CI : CtrI} {Cl : Addr} (M : Mk X.K Cl f) (F : FnOk X.prog X.w X.K X.mg X.base (L2.CX X.prog X.w) k f fd ps (CI.sp X.K Cl)) (hr : Room (k + 1) X.A) (hm : X.mg x = some (.ref Cl)) (hb : ∃ t, KT X.K t [] ∧ ∃ ds, Vals [V.ref t] ds ∧ Binds X.K fd ps ds) (hg : Gl X x := by rfl)
    (hdb : (x == ("__debug__" : Str)) = false := by decide) : PD X W xw (.Call (.Name x p) [] [] pos) (tMakeS Cl (CI.sp X.K Cl) [V.ref (Classical.choose hb)] (WE W) tNil) (dNew CI Cl [.tup []] xw dNil) := by
  obtain ⟨kt, ds, v, b⟩ := Classical.choose_spec hb
  generalize Classical.choose hb = t at kt v
  exact ⟨fun tk => pe_makeS0 M F hr hg hm b v (fun σ => passAt tk σ) hdb, fun c eK hW Γ k hk σ H st Q q => fun y dx ny nd ne =>
    ⟨c, [.d (.tup [])], y, dx, H, [V.ref t], eK, st.inv, rfl, ny, nd, ne, rfl, .cons ⟨_, rfl, .tup (.inr (by rw [eK]; exact kt)) .nil⟩ .nil, hk.1,
      CI.mono (fun fs ks H' g' r' => ⟨rfl, q _ (.d (.obj Cl fs)) H' g' ⟨_, rfl, r'⟩ ks⟩) (fun A pp z d H' g' x' => hW σ H' Γ A d pp (st.go g') x' z) hk.2⟩⟩
end
/-! ### x = list(e), one's own from then on -/
section
variable {X : Cx} {W : WX} {xw : XW}
end
end Dv
set_option Elab.async false
set_option linter.all false
set_option maxRecDepth 100000
set_option maxHeartbeats 4000000
/-! Ux: x.extend(e); x, y = [], e; looks into a list of one's own; a list of one's own that is made anew in a loop. -/
namespace L2
open PySem PySem.Spec PyProof.Rows PySem.AutoSeq1
section
theorem ext_tup (l : Addr) (items : Array Value) (n : Nat) (b : Addr) (o2 : Obj) (items2 : Array Value) (n2 : Nat) (ec : o2.cls = .type "tuple") (ed : o2.data = .seq items2 n2) (hs0 : ¬(!items.isEmpty && Builtin.List.listTooLong (items.size + items2.size)) = true) (hs1 : items.size ≤ sizeLine) (hs2 : items.size + items2.size ≤ sizeLine + 1) :
    Meets (Builtin.«list.extend» ⟨[.ref l, .ref b], []⟩) (fun _ R s => s.heap.get? l = some { cls := .type "list", dict := none, data := .seq items n, slots := #[] } ∧ s.heap.get? b = some o2 ∧ R (.ok (.ret Value.none)) { s with heap := s.heap.update l (Obj.mapSeq fun x => x ++ items2), toks := s.toks }) :=
  .of_wp fun prog w A R s h => by
    obtain ⟨hp, g, d, tk, os⟩ := s
    obtain ⟨hl, hb, h⟩ := h
    obtain ⟨oc, od, odt, osl⟩ := o2
    dsimp only at ec ed
    subst ec ed
    have f1 := AutoSeq1.idx_int
    have f2 := AutoSeq1.sub_tuple_tuple
    have f3 := AutoSeq1.sub_list_list
    have f4 := AutoSeq1.sub_tuple_list
    have f5 := AutoSeq1.sub_list_tuple
    have hz' : (items ++ items2).size ≤ sizeLine + 1 := by rw [Array.size_append]; exact hs2
    wp_walk using (wpAny_updateSeq hl rfl (hz := hs1) (_hz' := hz')), wpAny_loadPart' hl, wpAny_loadPart' hb
    exact ⟨_, rfl, h⟩
variable {X : Cx}
/-- x.extend(a list or a tuple) -/
def rExtB (K : PySem.W.Frag) : V → List V → Hp → VK → Prop := fun x vs H Q => rExtend x vs H Q ∨ ∃ l b xs zs, x = .ref l ∧ vs = [.ref b] ∧ H l = some (.lst xs) ∧ SqT K H b zs ∧ xs.length + zs.length ≤ sizeLine ∧ Q .non (upd H l (.lst (xs ++ zs)))
theorem mt_extB : MtM X "list.extend" (rExtB X.K) := by
  intro pins s σ H x vs v us Q I rx rv h
  rcases h with h | h
  · exact mt_extend pins s σ H x vs v us Q I rx rv h
  obtain ⟨l, b, xs, zs, rfl, rfl, hH, hB, hz, q⟩ := h
  cases rx
  obtain ⟨u, rfl, ru⟩ := rv.one
  cases ru
  obtain ⟨z, its, n, r, hl, e⟩ := I.lstM hH
  obtain ⟨its2, r2, ⟨o2, e2, c2, n2, d2⟩, hl2⟩ := I.tuple hB
  have hl3 : zs.length = its2.length := r2.length
  have hsz : its.toArray.size + its2.toArray.size ≤ sizeLine := by rw [List.size_toArray, List.size_toArray]; omega
  have hlong : ¬ (!its.toArray.isEmpty && Builtin.List.listTooLong (its.toArray.size + its2.toArray.size)) = true := by
    rw [notLongL hsz, Bool.and_false]
    exact Bool.false_ne_true
  refine call_meets F.slot_list_extend ⟨_, e, rfl⟩ F.entry_list_extend (F.args_list_extend_2 _ _)
    (ext_tup l its.toArray n b o2 its2.toArray n2 c2 d2 hlong (by rw [List.size_toArray]; omega) (by omega)) ⟨e, e2, ?_⟩
  refine ⟨.non, _, I.lset (its' := its ++ its2) hH e (by simp) (r.append r2) ?_, rfl, q⟩
  rw [List.length_append]
  omega
end
end L2
namespace Dv
open PySem L2
section
variable {X : Cx} {W : WX} {xw : XW} {K : PySem.W.Frag} {pos : Pos}
/-! ### x.extend(e) -/
def dExt (i : Nat) (e : DE) : DS := fun D Γ => match Γ[i]? with
  | some (.own k (.lst xs)) => e Γ fun s => match s with
    | .d (.lst ys) => xs.length + ys.length ≤ 100000 ∧ D.nx ((clr k Γ).set i (.own k (.lst (xs ++ ys))))
    | .d (.tup ys) => xs.length + ys.length ≤ 100000 ∧ D.nx ((clr k Γ).set i (.own k (.lst (xs ++ ys))))
    | _ => False
  | _ => False
theorem pds_ext {i : Nat} {x : Str} {e : Expr} {te : TE} {de : DE} {p apos cpos : Pos} (h : PD X W xw e te de) (hi : X.N[i]? = some x := by rfl) (hv : Vis X.env.scope x := by first | exact Or.inl rfl | exact Or.inr (Or.inl rfl))
    (hd : (x == ("__debug__" : Str)) = false := by decide) (hcd : (x == ("__classdict__" : Str)) = false := by decide)
    (hbase : attributeBase (.Name x p) "extend" X.env (eval (.Name x p) X.env) = eval (.Name x p) X.env := by rfl)
    (hfew : ((backTo cpos (starEach [e] X.env)).all (fun x => !x.1) && (backToKw cpos (keywordEach [] X.env)).all (fun x => x.1.isSome)
      && decide ([e].length + ([] : List Keyword).length + (if ([] : List Keyword).isEmpty then 0 else 1) < 30)) = true := by rfl)
    (hline : (apos.endLine == cpos.line) = true := by rfl) (hs : starEach [e] X.env = (false, eval e X.env) :: starEach [] X.env := by rfl) (hplain : (backTo cpos (starEach [] X.env)).any (·.1) = false := by rfl)
    (hsw : swapsWith (.Call (.Attribute (.Name x p) "extend" apos) [e] [] cpos) none pos.line X.env = pure false := by rfl) :
    PDS X W xw (.Expr (.Call (.Attribute (.Name x p) "extend" apos) [e] [] cpos) pos) (tDrop (tBM X.K "list" (rExtB X.K) (tVar i) (tCons te tNil))) (dExt i de) :=
  ⟨fun tk => ps_expr (pe_bm PySem.F.plainAttrs_list PySem.F.slot_list_extend PySem.F.type_list_extend mt_extB (pe_var hi hv hd hcd) (pa_cons (h.pe tk) pa_nil hs) hbase hfew hline hs hplain) hsw, fun c eK hW E D o Γ σ H s hdd => by
    unfold dExt at hdd
    split at hdd
    · rename_i k xs eΓ
      obtain ⟨o1, e1⟩ := slot_at s.len eΓ
      obtain ⟨a, ea, wa, vs, ha, ra⟩ := s.at_ i _ _ e1 eΓ
      subst ea
      refine ⟨_, e1, .inl ⟨rfl, vs, .inl (.inl ha)⟩, ?_⟩
      refine h.li c eK hW Γ _ hdd σ H s _ fun v s' H1 g r q => ?_
      try dsimp only at q
      have s1 := s.go g
      have ha1 : H1 a = some (.lst vs) := g.keep a _ (c.owW wa).2 rfl ha
      have ra1 : RpAll c H1 vs xs := ra.go g.kF
      have fin : ∀ (ws : List V) (ys : List Dv.D), RpAll c H1 ws ys → D.nx ((clr k Γ).set i (.own k (.lst (xs ++ ys)))) → E.nx σ (upd H1 a (.lst (vs ++ ws))) := fun ws ys rw q => by
        have kW : Kp c.F H1 (upd H1 a (.lst (vs ++ ws))) := fun b u nb _ e => by
          rw [upd_ne (fun y => nb (by rw [y]; exact c.WF (c.owW wa).1))]
          exact e
        exact o.nx _ _ _ (s1.put (i := i) (x := .lst _) wa e1 ⟨_, upd_same, RpAll.append (ra1.go kW) (rw.go kW)⟩ (.lst ha1)) q
      split at q
      · obtain ⟨w, ew, rw⟩ := r
        cases ew
        cases rw with
        | lst nf il rb => exact .inl ⟨a, _, vs, _, rfl, rfl, ha1, il, by rw [ra.length, rb.length]; exact Nat.le_trans q.1 (by decide), fin _ _ rb q.2⟩
      · obtain ⟨w, ew, rw⟩ := r
        cases ew
        cases rw with
        | tup il rb => exact .inr ⟨a, _, vs, _, rfl, rfl, ha1, by rw [← eK]; exact il.sq, by rw [ra.length, rb.length]; exact Nat.le_trans q.1 (by decide), fin _ _ rb q.2⟩
      · exact q.elim
    · exact hdd.elim⟩
/-! ### x, y = [], e -/
/-! ### looks into what is one's own -/
/-! ### one's own list, made anew in a loop -/
def LiM (K : PySem.W.Frag) (k : Nat) (ts : TS) (ds : DS) : Prop := ∀ c : Cfg, c.K = K → ∀ (E : Ends) (D : DEnds), (∀ a ha, EndsOk (c.mine k a ha) E D) → ∀ a ha Γ σ H, StOk (c.mine k a ha) σ H Γ → ds D Γ → ts E σ H
structure PDm (X : Cx) (k : Nat) (st : Stmt) (ts : TS) (ds : DS) : Prop where
  ps : PS X st ts
  li : LiM X.K k ts ds
structure PDms (X : Cx) (k : Nat) (st : List Stmt) (ts : TS) (ds : DS) : Prop where
  ps : PSs X st ts
  li : LiM X.K k ts ds
theorem PDm.of {st : Stmt} {k : Nat} {t : TS} {d : DS} (h : PDS X W0 xw0 st t d) : PDm X k st t d := ⟨h.ps takes0, fun c eK E D o a ha Γ σ H s hd => h.li (c.mine k a ha) eK WOk.zero E D (o a ha) Γ σ H s hd⟩
end
end Dv
namespace Dv
open PySem L2
section
theorem rd_rem {H : Hp} {a b : Addr} {u : HO} (n : b ≠ a) (h : Rd H b u) : Rd (rem H a) b u := by
  rcases h with h | ⟨o, h⟩
  · exact .inl (by rw [rem_ne n]; exact h)
  · exact .inr ⟨o, by rw [rem_ne n]; exact h⟩
theorem InL.rem_in {c : Cfg} {k : Nat} {a : Addr} {ha : ¬ c.F a} {H : Hp} {b : Addr} {xs : List V} (h : InL (c.mine k a ha) H b xs) : InL c (rem H a) b xs := by
  rcases h with ⟨n, h⟩ | h
  · exact .inl ⟨fun z => n (.inl z), rd_rem (fun z => n (.inr z)) h⟩
  · exact .inr h
theorem InT.rem_in {c : Cfg} {k : Nat} {a : Addr} {ha : ¬ c.F a} {H : Hp} {b : Addr} {xs : List V} (h : InT (c.mine k a ha) H b xs) : InT c (rem H a) b xs := by
  rcases h with ⟨n, h⟩ | h
  · exact .inl ⟨fun z => n (.inl z), rd_rem (fun z => n (.inr z)) h⟩
  · exact .inr h
theorem Rp.rem_in {c : Cfg} {k : Nat} {a : Addr} {ha : ¬ c.F a} {H : Hp} {v : V} {d : D} (h : Rp (c.mine k a ha) H v d) : Rp c (rem H a) v d := by
  refine Rp.rec (motive_1 := fun v d _ => Rp c (rem H a) v d) (motive_2 := fun vs ds _ => RpAll c (rem H a) vs ds) (motive_3 := fun vs ds _ => RpFs c (rem H a) vs ds) (motive_4 := fun vs ds _ => RpKv c (rem H a) vs ds)
    .non .bl .int .str ?_ ?_ ?_ ?_ ?_ ?_ .nil ?_ .nil ?_ .nil ?_ h
  · intro b xs ds n s _ r
    exact .lst (fun z => n (.inl z)) (by rw [rem_ne fun z => n (.inr z)]; exact s) r
  · intro b xs ds s _ r
    exact .scr s.rem_in r
  · intro b xs ds s _ r
    exact .tup s.rem_in r
  · intro b C dx fs ds n s _ r
    exact .obj (fun z => n (.inl z)) (by rw [rem_ne fun z => n (.inr z)]; exact s) r
  · intro b kvs ds ob n s _ r
    exact .dic (fun z => n (.inl z)) (by rw [rem_ne fun z => n (.inr z)]; exact s) r
  · intro b C oe d vs ds n s e x _ r
    exact .exn (fun z => n (.inl z)) (by rw [rem_ne fun z => n (.inr z)]; exact s) e (x.in_ (c := c.mine k a ha) fun dx u m2 s2 => ⟨fun z => m2 (.inl z), by rw [rem_ne fun z => m2 (.inr z)]; exact s2⟩) r
  · intro v d vs ds _ _ a b
    exact .cons a b
  · intro n v d vs ds _ _ a b
    exact .cons a b
  · intro n v d vs ds _ _ a b
    exact .cons a b
theorem RpAll.rem_in {c : Cfg} {k : Nat} {a : Addr} {ha : ¬ c.F a} {H : Hp} : ∀ {vs : List V} {ds : List D}, RpAll (c.mine k a ha) H vs ds → RpAll c (rem H a) vs ds
  | _, _, .nil => .nil
  | _, _, .cons r t => .cons r.rem_in (RpAll.rem_in t)
variable {X : Cx} {W : WX} {xw : XW} {pos : Pos}
end
end Dv
namespace Dv
open PySem L2
section
variable {X : Cx} {W : WX} {xw : XW} {K : PySem.W.Frag} {pos : Pos}
/-! ### several clauses 'except x as n' -/
def dTries (K : PySem.W.Frag) (i : Nat) (xw : XW) (db : XW → DS) (m : List (Value × (Addr → Value → Option Addr → DS))) : DS := fun D Γ => db (xAll K i xw D m) D Γ
theorem pds_tries {n : Str} {i : Nat} {body : List Stmt} {h1 : ExceptHandler} {hs : List ExceptHandler} {l : List (Value × (Addr → Value → Option Addr → TS))} {m : List (Value × (Addr → Value → Option Addr → DS))} {tb : WX → List (Addr × Obj) → (Value → Shared → Prop) → TS} {db : XW → DS} (hN : X.N.Nodup)
    (hb : ∀ (W' : WX) (xw' : XW) (pn : List (Addr × Obj)) (xe : Value → Shared → Prop), PDSs (X.tr pn xe) W' xw' body (tb W' pn xe) (db xw'))
    (hk : AsD X n (h1 :: hs) l m)
    (hs' : X.stack = X.env :: X.outer := by rfl) (hf : X.env.frame = some X.env.locals := by rfl) (hi : X.N[i]? = some n := by rfl) (hln : X.env.kindOf n = some .local := by rfl)
    (htb : ∀ W' pn xe, tb W' pn xe = tb W' X.pn X.xe := by intros; rfl) :
    PDS X W xw (.Try body (h1 :: hs) [] [] pos) (fun D σ H => tb (wAll X.K i W D l) X.pn X.xe D σ H) (dTries X.K i xw db m) :=
  ⟨fun tk => ps_tries (tb := fun W' => tb W' X.pn X.xe) hs' hf hN hi hln tk (fun W' pn xe tk' _ => htb W' pn xe ▸ (hb W' xw0 pn xe).ps tk') hk.ok, fun c eK hW E D o Γ σ H s hd => by
    refine (hb (wAll X.K i W E l) (xAll X.K i xw D m) X.pn X.xe).li c eK ?_ E D o Γ σ H s hd
    intro σ1 H1 Γ1 A d p s1 x1 h1
    exact wAll_of hk.li eK hW o s1 x1 h1⟩
/-! ### a list, so many times -/
end
end Dv
set_option Elab.async false
set_option linter.all false
set_option maxRecDepth 100000
set_option maxHeartbeats 4000000
/-! Fx: expressions that change what is one's own: own instances and their methods. -/
namespace Dv
open PySem L2
abbrev DF := Gm → (Sl → Gm → Prop) → Prop
abbrev DFT := Gm → (Bool → Gm → Prop) → Prop
structure GoW (c : Cfg) (H H' : Hp) : Prop where
  keep : Kp c.W H H'
  inv : c.I H'
theorem GoW.of {c : Cfg} {H H' : Hp} (g : Go c H H') : GoW c H H' := ⟨g.kW, g.inv⟩
theorem GoW.trans {c : Cfg} {H H1 H2 : Hp} (a : GoW c H H1) (b : GoW c H1 H2) : GoW c H H2 := ⟨a.keep.trans b.keep, b.inv⟩
theorem GoW.kF {c : Cfg} {H H' : Hp} (g : GoW c H H') : Kp c.F H H' := g.keep.le fun _ z => c.WF z
def EvF (c : Cfg) (te : TE) (Γ : Gm) (k : Sl → Gm → Prop) : Prop := ∀ σ H, StOk c σ H Γ → ∀ Q : VK, (∀ v s Γ2 H2, GoW c H H2 → StOk c σ H2 Γ2 → SlOk c H2 (some v) s → k s Γ2 → Q v H2) → te σ H Q
def EvFT (c : Cfg) (tt : TT) (Γ : Gm) (k : Bool → Gm → Prop) : Prop := ∀ σ H, StOk c σ H Γ → ∀ Q : Bool → Hp → Prop, (∀ b Γ2 H2, GoW c H H2 → StOk c σ H2 Γ2 → k b Γ2 → Q b H2) → tt σ H Q
def LiF (K : PySem.W.Frag) (W : WX) (xw : XW) (te : TE) (de : DF) : Prop := ∀ c : Cfg, c.K = K → WOk c W xw → ∀ Γ k, de Γ k → EvF c te Γ k
def LiFT (K : PySem.W.Frag) (W : WX) (xw : XW) (tt : TT) (dt : DFT) : Prop := ∀ c : Cfg, c.K = K → WOk c W xw → ∀ Γ k, dt Γ k → EvFT c tt Γ k
structure PF (X : Cx) (W : WX) (xw : XW) (e : Expr) (te : TE) (de : DF) : Prop where
  pe : Takes X W → PE X e te
  li : LiF X.K W xw te de
structure PFT (X : Cx) (W : WX) (xw : XW) (e : Expr) (tt : TT) (dt : DFT) : Prop where
  pt : Takes X W → PT X e tt
  li : LiFT X.K W xw tt dt
structure PFW (X : Cx) (W : WX) (xw : XW) (e : Expr) (tt : TT) (dt : DFT) : Prop where
  pw : Takes X W → PW X e tt
  li : LiFT X.K W xw tt dt
def fE (d : DE) : DF := fun Γ k => d Γ fun s => k s Γ
def fT (d : DT) : DFT := fun Γ k => d Γ fun b => k b Γ
section
variable {X : Cx} {W : WX} {xw : XW} {K : PySem.W.Frag} {pos : Pos} {a b c0 : Expr} {ta tb : TE} {t u : TT} {da : DE} {fa fb : DF} {d : DT} {g h : DFT} {rest : List Expr}
theorem PD.f (h : PD X W xw a ta da) : PF X W xw a ta (fE da) := ⟨h.pe, fun c eK hW Γ k hk σ H st Q q => h.li c eK hW Γ _ hk σ H st Q fun v s H2 g r ks => q v s Γ H2 (.of g) (st.go g) r ks⟩
theorem PDT.f (h : PDT X W xw a t d) : PFT X W xw a t (fT d) := ⟨h.pt, fun c eK hW Γ k hk σ H st Q q => h.li c eK hW Γ _ hk σ H st Q fun v H2 g ks => q v Γ H2 (.of g) (st.go g) ks⟩
/-! ### tests -/
def fB (a : DF) : DFT := fun Γ k => a Γ fun s Γ2 => match s with
  | .d (.bl b) => k b Γ2
  | _ => False
/-! ### a if t else b -/
/-! ### f(e), e with effects -/
/-! ### statements -/
def isD : Sl → Prop
  | .d _ => True
  | .v _ => True
  | _ => False
/-! ### self.f += e -/
end
/-! ### methods of an own instance -/
structure CtrM where
  n : Nat
  f : List (Str × D) → List Sl → (Sl → List (Str × D) → Prop) → Prop
  mono : ∀ {fs : List (Str × D)} {ss : List Sl} {k k' : Sl → List (Str × D) → Prop}, (∀ s fs, k s fs → k' s fs) → f fs ss k → f fs ss k'
  no : ∀ {fs : List (Str × D)} {ss : List Sl} {k : Sl → List (Str × D) → Prop}, f fs ss k → noOwn ss = true := by (intro fs ss k h; (try dsimp only at h); split at h <;> first | rfl | exact h.elim)
/-- a alone has changed, and what calls may change -/
structure GoA (c : Cfg) (a : Addr) (H H' : Hp) : Prop where
  keep : Kp (fun b => c.G b ∨ b = a) H H'
  inv : c.I H'
def CtrM.sp (C : CtrM) (K : PySem.W.Frag) (Cl : Addr) : Sp := fun vs H Q E => ∃ (c : Cfg) (ss : List Sl) (j : Nat) (a : Addr) (us : List V) (fs : List (Str × D)), c.K = K ∧ c.I H ∧ vs = .ref a :: us ∧ c.ow j = some a ∧ OwRp c H a (.obj Cl fs) ∧
  Paired (fun v s => SlOk c H (some v) s) us ss ∧ ss.length = C.n ∧ C.f fs ss (fun s fs' => ∀ v H', GoA c a H H' → OwRp c H' a (.obj Cl fs') → SlOk c H' (some v) s → isD s → Q v H')
/-- the view of a method: it owns self alone -/
def Cfg.only (c : Cfg) (j : Nat) (a : Addr) (w : c.ow j = some a) : Cfg where
  K := c.K
  F := c.F
  W := fun b => c.G b ∨ b = a
  G := c.G
  I := c.I
  pl := c.pl
  ow := fun i => if i = 0 then some a else none
  mono := c.mono
  live := c.live
  WF := fun {b} z => z.elim (fun z => c.GF z) fun e => e ▸ c.WF (c.owW w).1
  GW := .inl
  plG := c.plG
  owW := fun {i b} e => by
    by_cases z : i = 0
    · rw [if_pos z] at e
      cases e
      exact ⟨.inr rfl, (c.owW w).2⟩
    · rw [if_neg z] at e
      cases e
  inj := fun {i l b} e1 e2 => by
    by_cases z1 : i = 0 <;> by_cases z2 : l = 0
    · rw [z1, z2]
    · rw [if_neg z2] at e2
      cases e2
    · rw [if_neg z1] at e1
      cases e1
    · rw [if_neg z1] at e1
      cases e1
  plAt := c.plAt
  plPut := c.plPut
  owPut := fun {H i b o} h e t nf => by
    by_cases z : i = 0
    · rw [if_pos z] at e
      cases e
      exact c.owPut h w t nf
    · rw [if_neg z] at e
      cases e
  tb := c.tb
  tabs := c.tabs
  ext := c.ext
theorem OwRp.only {c : Cfg} {H : Hp} {j : Nat} {a b : Addr} {w : c.ow j = some a} {x : D} (h : OwRp c H b x) : OwRp (c.only j a w) H b x := h.to (c := c) (c' := c.only j a w) rfl (fun _ z => z) Kp.self fun _ _ e => e
section
variable {P : Program} {w : World} {K : PySem.W.Frag} {mg : Str → Option Value} {base : Heap}
end
section
variable {X : Cx} {W : WX} {xw : XW} {K : PySem.W.Frag} {pos : Pos} {C : CtrM} {Cl f : Addr} {fd : FuncData} {ps : List Str} {k i : Nat} {x m : Str} {p apos : Pos} {e : Expr} {es : List Expr} {ta : TA} {da : DA} {pl : Sem Bool}
end
end Dv
set_option Elab.async false
set_option linter.all false
set_option maxRecDepth 100000
set_option maxHeartbeats 4000000
/-! Fy: own instances made; s.startswith(t, i); tuple(x) of a list of one's own. -/
namespace Dv
open PySem L2
/-! ### s.startswith(t, i) -/
section
variable {X : Cx} {W : WX} {xw : XW} {K : PySem.W.Frag} {pos : Pos}
/-! ### tuple(x), x a list of one's own -/
end
/-! ### x = C(..), the instance one's own -/
section
variable {P : Program} {w : World} {K : PySem.W.Frag} {mg : Str → Option Value} {base : Heap}
end
section
variable {X : Cx} {W : WX} {xw : XW} {K : PySem.W.Frag} {pos : Pos}
end
end Dv
set_option Elab.async false
set_option linter.all false
set_option maxRecDepth 100000
set_option maxHeartbeats 4000000
/-! sets of texts, counted; a text split so often; a written dict asked; try without a name -/
namespace Dv
open PySem PySem.Spec PyProof.Rows L2
/-- how many different ones stand ahead of i -/
def dcn (xs : List Str) : Nat → Nat
  | 0 => 0
  | i + 1 => match xs[i]? with
    | some x => if x ∈ xs.take i then dcn xs i else dcn xs i + 1
    | none => dcn xs i
theorem dcn_le (xs : List Str) : ∀ i, dcn xs i ≤ i
  | 0 => Nat.le_refl 0
  | i + 1 => by
    have h := dcn_le xs i
    unfold dcn
    split
    · split <;> omega
    · omega
section
variable {P : Program} {w : World} {A : Around} {E : Value → Shared → Prop} {s : Shared}
theorem texts_put {I S : Addr} {fp wr : List Addr} {G : Array GenState → Array GenState → Prop} {n : Nat} {Pv : Nat → Value → Prop} {St : Nat → Shared → Prop} {R : Result → Shared → Prop} (W : WalksS P w A.in1 I fp wr G n Pv St) (nf : S ∉ fp) (xs : List Str) (en : n = xs.length)
    (hb : xs.length + 1 < scanBound) (hv : ∀ i v, Pv i v → ∃ z t, xs[i]? = some z ∧ v = .str z t) : ∀ (m i : Nat) (s : Shared), n = i + m → St i s → s.heap.SetOf (strKind P w) S (fun k => decide (k ∈ xs.take i)) (dcn xs i) →
      (∀ s2, Moved (S :: wr) G s s2 → s2.heap.SetOf (strKind P w) S (fun k => decide (k ∈ xs)) (dcn xs n) → R (.ok (.ret .none)) s2) → codeAny (model P w) A (.builtin "set.update.loop" ⟨[.ref S, .ref I], []⟩) R s := by
  have nw : S ∉ wr := fun y => nf (W.sub _ y)
  have sb : ∀ b ∈ wr, b ∈ S :: wr := fun b y => .tail _ y
  have keep : ∀ {h1 h2 : Heap} {T : Str → Bool} {c : Nat}, h1.SetOf (strKind P w) S T c → (∀ o, h1.get? S = some o → h2.get? S = some o) → h2.SetOf (strKind P w) S T c := fun x k => by
    obtain ⟨o, es, ep, t, ho, r⟩ := x
    exact ⟨o, es, ep, t, k o ho, r⟩
  intro m
  induction m with
  | zero =>
    intro i s0 e st hS q
    cases e
    refine codeAny_builtin F.entry_set_update_loop ((congrArg (fun z => wpAny (model P w) z _ _ _ _) (Around.under_plainId F.plain_set_update_loop _)).mpr ?_)
    refine wpAny_bind (W.done s0 _ _ st fun s2 mv => wpAny_pure (q s2 (mv.mono sb) ?_))
    rw [show xs.take i = xs from List.take_of_length_le (Nat.le_of_eq en.symm)] at hS
    exact keep hS fun o e => mv.heap S o nw e
  | succ m ih =>
    intro i s0 e st hS q
    refine codeAny_builtin F.entry_set_update_loop ((congrArg (fun z => wpAny (model P w) z _ _ _ _) (Around.under_plainId F.plain_set_update_loop _)).mpr ?_)
    refine wpAny_bind (W.item i s0 _ _ (by omega) st fun v s2 pv st2 mv => ?_)
    obtain ⟨z, t, ez, ev⟩ := hv i v pv
    cases ev
    have hS2 := keep hS fun o e => mv.heap S o nw e
    refine wpAny_bind (wpAny_holding ?_)
    unfold setAdd
    refine wpAny_holding (wpAny_bind ((strKind P w).pyHash (k := z) (strKind_is P w z t) ?_))
    have ci := dcn_le xs i
    refine wpAny_setAddHashed_of (knd := strKind P w) (s := { s2 with toks := s2.toks + 1 }) (strKind_is P w z t) rfl hS2 (by omega) fun h3 hs hS3 => ?_
    have ed : dcn xs (i + 1) = if decide (z ∈ xs.take i) = true then dcn xs i else dcn xs i + 1 := by
      show (match xs[i]? with
        | some x => if x ∈ xs.take i then dcn xs i else dcn xs i + 1
        | none => dcn xs i) = _
      rw [ez]
      by_cases y : z ∈ xs.take i
      · rw [if_pos (decide_eq_true y)]
        exact if_pos y
      · rw [if_neg (by rw [decide_eq_false y]; decide)]
        exact if_neg y
    have hS4 : h3.SetOf (strKind P w) S (fun k => decide (k ∈ xs.take (i + 1))) (dcn xs (i + 1)) := SetOf_congr hS3 (fun k => by
      rw [List.take_add_one, ez]
      simp [List.mem_append]) ed.symm
    refine wpAny_pure ⟨plainId_quiet F.plain_set_update_loop _, ih (i + 1) _ (by omega) (W.frame _ s2 _ _ st2 (Nat.le_succ _) fun b y o e => (hs.2 b fun r => nf (r ▸ y)).trans e) hS4 fun s4 mv4 hS5 => ?_⟩
    exact q s4 (Moved.trans W.gtrans ((mv.mono sb).then_heap (Nat.le_succ _) fun b o y e => (hs.2 b fun r => y (r ▸ .head _)).trans e) mv4) hS5
def nwS (b : Bool) : Obj := { cls := .type "set", dict := none, data := .set #[] 0 (.fresh 0 0 b) }
def tuI (l : Addr) : Obj := { cls := .type "tuple_iterator", data := .fields #[.ref l, .int 0 0] }
theorem strs_get {us : List Value} {xs : List Str} (h : StrsAre us xs) (i : Nat) (v : Value) (e : us[i]? = some v) : ∃ z t, xs[i]? = some z ∧ v = .str z t := by
  have hl := StrsAre.len_eq h
  have hi : i < us.length := (List.getElem?_eq_some_iff.mp e).1
  obtain ⟨t, q⟩ := SS.strs_at h i v e
  refine ⟨xs[i], t, List.getElem?_eq_getElem (by omega), ?_⟩
  rw [q, List.getD_eq_getElem?_getD, List.getElem?_eq_getElem (by omega)] <;> rfl
set_option maxHeartbeats 8000000 in
/-- set(t), t a tuple of texts -/
theorem set_of_texts {l : Addr} {items : Array Value} {xs : List Str} {Q : Value → Shared → Prop} (hh : A.handled = none) (tl : s.heap.IsTuple l items) (hi : StrsAre items.toList xs) (hb : xs.length + 1 < scanBound)
    (h : ∀ (h2 : Heap) (tk : Nat), h2.SetOf (strKind P w) s.heap.objs.size (fun k => decide (k ∈ xs)) (dcn xs xs.length) → (∀ b o, s.heap.get? b = some o → h2.get? b = some o) → Q (.ref s.heap.objs.size) { s with heap := h2, toks := tk }) :
    wpAny (model P w) A (call (.type "set") [.ref l]) Q E s := by
  have esz : items.size = xs.length := (Array.length_toList (xs := items)).symm.trans (StrsAre.len_eq hi)
  obtain ⟨c, t0, hmro⟩ := F.called_set.mro
  have k1 := F.called_set.made; have k2 := F.called_set.sub; have k3 := F.called_set.notType; have k4 := F.called_set.canCreate; have k5 := F.typeCall_set_1 (.ref l)
  refine wpAny_call (codeAny_of_tree (show wpAny _ _ (callAny (.type "set") _) _ _ _ from wpAny_pure ⟨Code.quiet_builtin _ (by decide +kernel), codeAny_builtin F.entry_type_call ?_⟩))
  refine (congrArg (fun z => wpAny (model P w) z _ _ _ _) (Around.under_plain (weight_type_call_type "set" [.ref l] []) rfl)).mpr ?_
  repeat (any_goals (first | assumption | wp_step))
  refine codeAny_mono (code_set_new_1 (.ref l) (E := E) (Q₁ := fun v s1 => ∃ b, v = .ref s.heap.objs.size ∧ s1 = { s with heap := s.heap.push (nwS b) }) fun b => ⟨b, rfl, rfl⟩) fun r s1 hr => ?_
  cases r with
  | error _ => exact hr
  | ok f => cases f with
    | ret v =>
      obtain ⟨b, rfl, rfl⟩ := hr
      have gS : (s.heap.push (nwS b)).get? s.heap.objs.size = some (nwS b) := Heap.get?_push_size _ rfl
      have tS : Shared.TypeIs { s with heap := s.heap.push (nwS b) } (.ref s.heap.objs.size) "set" := ⟨_, gS, rfl⟩
      have k6 := F.called_set.init.lookup; have k7 := F.called_set.init.bind (.ref s.heap.objs.size)
      repeat (any_goals (first | assumption | wp_step))
      refine codeAny_mono (codeAny_call_builtin (R := wants (fun r s2 => r = .none ∧ ∃ h2 tk, s2 = { s with heap := h2, toks := tk } ∧ h2.SetOf (strKind P w) s.heap.objs.size (fun k => decide (k ∈ xs)) (dcn xs xs.length) ∧ (∀ b o, s.heap.get? b = some o → h2.get? b = some o)) E) F.called_set.init.plain F.entry_set_init (check_set_init_1 tS ?_)) fun r2 s2 hr2 => ?_
      · obtain ⟨⟨oc, od, odt, osl⟩, ho, rfl, nn, rfl⟩ := tl
        have lS : l < s.heap.objs.size := Heap.lt_size ho
        have ho2 : (s.heap.push (nwS b)).get? l = some { cls := .type "tuple", dict := od, data := .seq items nn, slots := osl } := Heap.get?_push_of_some _ ho
        have q1 := F.sub_tuple_set; have q2 := F.sub_tuple_frozenset
        have q3 : (Value.type "tuple" == Value.type "dict") = false := by decide
        have tl2 : (s.heap.push (nwS b)).IsTuple l items := ⟨_, ho2, rfl, nn, rfl⟩
        unfold Builtin.«set.__init__» noKeywords Builtin.Frozenset.updateFrom
        generalize ePI : pyIter = PI
        wp_walk
        subst ePI
        refine wpAny_pyIter_tuple tl2 (wpAny_bind (wpAny_runValue ?_))
        have hA : A.in1.in1.in1.handled = none := by simp [hh]
        have sz : (s.heap.push (nwS b)).objs.size = s.heap.objs.size + 1 := Heap.size_push ..
        have nI : l ≠ (s.heap.push (nwS b)).objs.size := sz ▸ Nat.ne_of_lt (Nat.lt_succ_of_lt lS)
        have nf : s.heap.objs.size ∉ [(s.heap.push (nwS b)).objs.size, l] := by
          simp only [sz, List.mem_cons, List.not_mem_nil, or_false, not_or]
          exact ⟨Nat.ne_of_lt (Nat.lt_succ_self _), Nat.ne_of_gt lS⟩
        have q4 : ((s.heap.push (nwS b)).push (tuI l)).get? s.heap.objs.size = some (nwS b) := Heap.get?_push_of_some _ gS
        refine texts_put ((Walks.tuple hA _ l nI items).toS) nf xs esz hb (fun i v y => strs_get hi i v ((Array.getElem?_toList ..).trans y)) items.size 0 _ (Nat.zero_add _).symm ⟨⟨_, Heap.get?_push_size _ rfl, rfl, rfl⟩, tl2.push _⟩ (SetOf_congr ((setObjOf_fresh (knd := strKind P w) b).setOf q4 (by omega)) (fun _ => by simp) rfl) fun s4 mv hS => ?_
        obtain ⟨h4, g4, d4, t4, o4⟩ := s4
        cases (show g4 = s.gens from mv.gens)
        cases (show d4 = s.drawn from mv.drawn)
        cases (show o4 = s.os from mv.os)
        rw [esz] at hS
        refine wpAny_pure (wpAny_pure ⟨rfl, h4, t4, rfl, hS, fun c o e => ?_⟩)
        have lc : c < s.heap.objs.size := Heap.lt_size e
        refine mv.heap c o ?_ (Heap.get?_push_of_some _ (Heap.get?_push_of_some _ e))
        simp only [sz, List.mem_cons, List.not_mem_nil, or_false, not_or]
        exact ⟨Nat.ne_of_lt lc, Nat.ne_of_lt (Nat.lt_succ_of_lt lc)⟩
      · cases r2 with
        | error _ => exact hr2
        | ok f2 => cases f2 with
          | ret v2 =>
            obtain ⟨rfl, h2, tk, rfl, hS, hk⟩ := hr2
            repeat (any_goals (first | assumption | wp_step))
            exact h _ _ hS hk
          | _ => exact hr2.elim
    | _ => exact hr.elim
end
section
variable {X : Cx} {W : WX} {xw : XW} {K : PySem.W.Frag} {pos : Pos}
end
end Dv
set_option Elab.async false
set_option linter.all false
set_option maxRecDepth 100000
set_option maxHeartbeats 4000000
/-! a written dict asked; a text split so often; startswith; try without a name -/
namespace Dv
open PySem PySem.Spec PyProof.Rows L2
/-! ### a written dict of texts to numbers -/
def entB : List DictEntry → List (Str × Int) → Bool
  | [], [] => true
  | e :: r, (k, i) :: l => (match e.key, e.val with
    | .str x _, .int j _ => x == k && (i == j && entB r l)
    | _, _ => false)
  | _, _ => false
/-- at p: a written dict with these keys and numbers -/
def KTab (K : PySem.W.Frag) (w : World) (p : Addr) (kvs : List (Str × Int)) : Prop :=
  ∃ es n, K.lookup p = some ⟨.type "dict", none, .dict es n, #[]⟩ ∧ PySem.W.KeysLit w.params es.toList ∧ (p == sysModules) = false ∧ entB es.toList kvs = true
theorem ent_find (z : Str) : ∀ {es : List DictEntry} {kvs : List (Str × Int)}, entB es kvs = true → (match kvs.lookup z with
    | some i => ∃ t e, es.find? (fun e => e.key.isStr z) = some e ∧ e.val = .int i t
    | none => es.find? (fun e => e.key.isStr z) = none) ∧ es.any (·.refKey) = false
  | [], [], _ => ⟨rfl, rfl⟩
  | [], _ :: _, h => by cases h
  | _ :: _, [], h => by cases h
  | e :: r, (k, i) :: l, h => by
    obtain ⟨eh, ek, ev⟩ := e
    unfold entB at h
    dsimp only at h
    split at h
    · rename_i x t j t2
      rw [Bool.and_eq_true, Bool.and_eq_true] at h
      obtain ⟨h1, h2, h3⟩ := h
      have e1 := eq_of_beq h1
      have e2 := eq_of_beq h2
      subst e1 e2
      obtain ⟨i1, i2⟩ := ent_find z h3
      refine ⟨?_, i2⟩
      rw [List.lookup_cons, List.find?_cons]
      cases y : z == x with
      | true =>
        have y2 : (Value.str x t).isStr z = true := eq_of_beq y ▸ beq_self_eq_true x
        dsimp only
        rw [y2]
        exact ⟨t2, _, rfl, rfl⟩
      | false =>
        have y2 : (Value.str x t).isStr z = false := beq_eq_false_iff_ne.mpr fun e => beq_eq_false_iff_ne.mp y e.symm
        dsimp only
        rw [y2]
        exact i1
    · cases h
theorem KTab.at {K : PySem.W.Frag} {w : World} {p : Addr} {kvs : List (Str × Int)} (T : KTab K w p kvs) (z : Str) : ∃ r, PySem.W.nsIn K p z = some r ∧ (match kvs.lookup z with
    | some i => ∃ t, r = some (.int i t)
    | none => r = none) := by
  obtain ⟨es, n, hl, hk, low, he⟩ := T
  obtain ⟨h1, h2⟩ := ent_find z he
  unfold PySem.W.nsIn
  rw [hl]
  dsimp only
  cases e : kvs.lookup z with
  | some i =>
    rw [e] at h1
    obtain ⟨t, d, q1, q2⟩ := h1
    rw [q1]
    exact ⟨_, rfl, t, by rw [q2]⟩
  | none =>
    rw [e] at h1
    have q1 : es.toList.find? (fun e => e.key.isStr z) = none := h1
    rw [q1, h2]
    exact ⟨_, rfl, rfl⟩
section
variable {X : Cx} {W : WX} {xw : XW} {K : PySem.W.Frag} {pos : Pos}
/-! ### split, so often -/
/-! ### s.startswith(t) -/
/-! ### try .. except C: without a name -/
end
end Dv
set_option Elab.async false
set_option linter.all false
set_option maxRecDepth 100000
set_option maxHeartbeats 4000000
/-! defs that give out a new list; f(e).append(None) -/
namespace Dv
open PySem PySem.Spec PyProof.Rows L2
/-- what the end says of a new list -/
def NwOk (c : Cfg) (E : Ends) (kN : List D → Prop) : Prop := ∀ p ws es H H1, c.I H1 → H1 p = none → c.I (rem H p) → ¬ c.F p → H p = some (.lst ws) → RpAll c H ws es → kN es → E.rt (.ref p) H
abbrev DN := DEnds → (List D → Prop) → Gm → Prop
def LiN (K : PySem.W.Frag) (W : WX) (xw : XW) (ts : TS) (dn : DN) : Prop := ∀ c : Cfg, c.K = K → WOk c W xw → ∀ (E : Ends) (D : DEnds) (kN : List Dv.D → Prop), EndsOk c E D → NwOk c E kN → ∀ Γ σ H, StOk c σ H Γ → dn D kN Γ → ts E σ H
structure PDNs (X : Cx) (W : WX) (xw : XW) (st : List Stmt) (ts : TS) (dn : DN) : Prop where
  ps : Takes X W → PSs X st ts
  li : LiN X.K W xw ts dn
section
variable {X : Cx} {W : WX} {xw : XW} {K : PySem.W.Frag} {pos : Pos} {st : Stmt} {rest : List Stmt} {t u : TS} {d : DS} {e : DN}
end
section
variable {P : Program} {w : World} {K : PySem.W.Frag} {mg : Str → Option Value} {base : Heap}
end
section
variable {X : Cx} {W : WX} {xw : XW} {K : PySem.W.Frag} {pos : Pos}
end
end Dv
set_option Elab.async false
set_option linter.all false
set_option maxRecDepth 100000
set_option maxHeartbeats 4000000
/-! Gv: x = [e, ..] and one statement more with x one's own, then known to all; x = a + b, one's own; [e for a, b in xs if t]. -/
namespace Dv
open PySem L2
section
variable {X : Cx} {W : WX} {xw : XW} {K : PySem.W.Frag} {pos : Pos}
/-! ### x = [e, ..], one's own for one statement -/
/-! ### x = a + b, one's own -/
/-! ### [e for a, b in xs if t], the things of xs lists of two -/
/-! ### "c" in e.replace(y, z).replace(y', z') -/
end
end Dv
set_option Elab.async false
set_option linter.all false
set_option maxRecDepth 100000
set_option maxHeartbeats 4000000
/-! Gw: dicts that are known as they stand: walks over keys, values, pairs; d[k], k in d, d.get(..). -/
namespace Dv
open PySem L2
section
variable {X : Cx} {W : WX} {xw : XW} {K : PySem.W.Frag} {pos : Pos}
def keyD : Key → D
  | .inl i => .int i
  | .inr z => .str z
theorem rp_key {c : Cfg} {H : Hp} (k : Key) : Rp c H (kV k) (keyD k) := by
  cases k with
  | inl i => exact .int i
  | inr z => exact .str z
theorem key_of {c : Cfg} {H : Hp} {v : V} {k : Key} (h : Rp c H v (keyD k)) : v = kV k := by
  cases k <;> cases h <;> rfl
def lookK (kvs : List (Key × D)) (k : Key) : Option D := (kvs.find? fun kv => decide (kv.1 = k)).map (·.2)
theorem RpKv.length {c : Cfg} {H : Hp} : ∀ {vs : List (Key × V)} {ds : List (Key × D)}, RpKv c H vs ds → vs.length = ds.length
  | _, _, .nil => rfl
  | _, _, .cons _ b => congrArg (· + 1) b.length
theorem RpKv.get {c : Cfg} {H : Hp} : ∀ {vs : List (Key × V)} {ds : List (Key × D)} {i : Nat} {k : Key} {v : V}, RpKv c H vs ds → vs[i]? = some (k, v) → ∃ d, ds[i]? = some (k, d) ∧ Rp c H v d
  | _, _, _, _, _, .nil, e => by simp at e
  | _, _, 0, _, _, .cons a _, e => by
    simp at e
    obtain ⟨rfl, rfl⟩ := e
    exact ⟨_, rfl, a⟩
  | _, _, i + 1, k, v, .cons _ b, e => by
    obtain ⟨d, h1, h2⟩ := RpKv.get (i := i) (k := k) (v := v) b (by simpa using e)
    exact ⟨d, by simpa using h1, h2⟩
theorem RpKv.val {c : Cfg} {H : Hp} (k : Key) : ∀ {vs : List (Key × V)} {ds : List (Key × D)}, RpKv c H vs ds → (valV vs k = none ∧ lookK ds k = none) ∨ ∃ v d, valV vs k = some v ∧ lookK ds k = some d ∧ Rp c H v d
  | _, _, .nil => .inl ⟨rfl, rfl⟩
  | _, _, @RpKv.cons _ _ n v d vs ds a b => by
    by_cases e : n = k
    · exact .inr ⟨v, d, valV_pos e, by simp [lookK, List.find?_cons, e], a⟩
    · have e1 : valV ((n, v) :: vs) k = valV vs k := valV_neg e
      have e2 : lookK ((n, d) :: ds) k = lookK ds k := by simp [lookK, List.find?_cons, e]
      rw [e1, e2]
      exact RpKv.val k b
/-! ### walks -/
def DicAt (c : Cfg) (H : Hp) (d : Addr) (o : Obj) (kvs : List (Key × V)) (ds : List (Key × D)) : Prop := ¬ c.G d ∧ H d = some (.frz o (.dK kvs)) ∧ RpKv c H kvs ds
theorem DicAt.go {c : Cfg} {H H' : Hp} {d : Addr} {o : Obj} {kvs : List (Key × V)} {ds : List (Key × D)} (k : Kp c.F H H') (z : Kz c H H') (h : DicAt c H d o kvs ds) : DicAt c H' d o kvs ds := ⟨h.1, z _ _ _ h.1 h.2.1, h.2.2.to rfl (fun _ z => z) k⟩
theorem walk_k {c : Cfg} {d : Addr} {o : Obj} {kvs : List (Key × V)} {ds : List (Key × D)} : WalkD c (Itk d o kvs) (ds.map fun p => keyD p.1) (fun H => DicAt c H d o kvs ds) where
  st := fun k z h => h.go k z
  go := fun i H h _ l => ⟨h.2.1, by rw [h.2.2.length]; rw [List.length_map] at l; exact l⟩
  stop := fun i H h l => ⟨h.2.1, by rw [h.2.2.length]; rw [List.length_map] at l; exact l⟩
  yld := fun i H x H' y h hi e z => by
    obtain ⟨e1, k, v, e2, e3⟩ := z
    subst e1 e3
    obtain ⟨w, e4, _⟩ := h.2.2.get e2
    rw [List.getElem?_map, e4] at e
    cases e
    exact ⟨Go.self hi, rp_key k⟩
theorem walk_i {c : Cfg} {d : Addr} {o : Obj} {kvs : List (Key × V)} {ds : List (Key × D)} : WalkD c (Iti d o kvs) (ds.map fun p => D.tup [keyD p.1, p.2]) (fun H => DicAt c H d o kvs ds) where
  st := fun k z h => h.go k z
  go := fun i H h _ l => ⟨h.2.1, by rw [h.2.2.length]; rw [List.length_map] at l; exact l⟩
  stop := fun i H h l => ⟨h.2.1, by rw [h.2.2.length]; rw [List.length_map] at l; exact l⟩
  yld := fun i H x H' y h hi e z => by
    obtain ⟨T, k, v, e2, e3, e5, e6⟩ := z
    subst e3 e6
    obtain ⟨w, e4, r⟩ := h.2.2.get e2
    rw [List.getElem?_map, e4] at e
    cases e
    exact ⟨Go.new hi e5, rp_newT hi e5 (.cons (rp_key k) (.cons r .nil))⟩
theorem walkOk_dic {J : It} {xs : List D} {c : Cfg} {H : Hp} {d : Addr} {o : Obj} {kvs : List (Key × V)} {ds : List (Key × D)} (w : ∀ c : Cfg, WalkD c J xs (fun H => DicAt c H d o kvs ds)) (h : DicAt c H d o kvs ds) : WalkOk c J xs H :=
  ⟨⟨_, w c, h⟩, fun b nb => by
    have ne : d ≠ b := fun e => by
      have q := h.2.1
      rw [e, nb] at q
      cases q
    exact ⟨fun H => ∀ ha, DicAt (c.hide b ha) H d o kvs ds, fun ha => ⟨h.1, h.2.1, h.2.2.hide nb⟩,
      fun ha => ⟨fun k z q ha' => (q ha').go (c := c.hide b ha') k z, fun i H q => (w _).go i H (q ha), fun i H q => (w _).stop i H (q ha), fun i H x H' y q => (w _).yld i H x H' y (q ha)⟩⟩⟩
/-- the keys of a dict -/
def diKeys (a : DE) : DI := fun Γ k => a Γ fun s => match s with
  | .d (.dic ds) => k (ds.map fun p => keyD p.1)
  | .bor ds => k (ds.map fun p => keyD p.1)
  | _ => False
def diItems (a : DE) : DI := fun Γ k => a Γ fun s => match s with
  | .d (.dic ds) => k (ds.map fun p => D.tup [keyD p.1, p.2])
  | .bor ds => k (ds.map fun p => D.tup [keyD p.1, p.2])
  | _ => False
theorem pdi_keys {tg e : Expr} {te : TE} {de : DE} (h : PD X W xw e te de) : PDI X W xw tg e (iKeys te) (diKeys de) :=
  ⟨fun tk => pi_keys (h.pe tk), fun c eK hW Γ k hk σ H st R q => h.li c eK hW Γ _ hk σ H st _ fun v s H1 g1 r1 h1 => by
    try dsimp only at h1
    split at h1
    · obtain ⟨w, ew, rr⟩ := r1
      cases ew
      cases rr with
      | dic nf hd rk => exact ⟨_, _, rfl, .inl ⟨_, hd, q _ H1 _ g1 (walkOk_dic (fun c => walk_k) ⟨fun z => nf (c.GF z), hd, rk⟩) h1⟩⟩
    · obtain ⟨a, ob, kvs, ew, ng, hd, rk⟩ := r1
      cases ew
      exact ⟨_, _, rfl, .inl ⟨_, hd, q _ H1 _ g1 (walkOk_dic (fun c => walk_k) ⟨ng, hd, rk⟩) h1⟩⟩
    · exact h1.elim⟩
theorem pdi_items {elts : List Expr} {kk : Nat} {tpos : Pos} {e : Expr} {te : TE} {de : DE} {apos cpos : Pos} (h : PD X W xw e te de) (hbase : attributeBase e "items" X.env (eval e X.env) = eval e X.env := by rfl) (hline : (apos.endLine == cpos.line) = true := by rfl) :
    PDI X W xw (.Tuple elts kk tpos) (.Call (.Attribute e "items" apos) [] [] cpos) (iItems te) (diItems de) :=
  ⟨fun tk => pi_items (h.pe tk) hbase hline, fun c eK hW Γ k hk σ H st R q => h.li c eK hW Γ _ hk σ H st _ fun v s H1 g1 r1 h1 => by
    try dsimp only at h1
    split at h1
    · obtain ⟨w, ew, rr⟩ := r1
      cases ew
      cases rr with
      | dic nf hd rk => exact ⟨_, _, _, rfl, hd, q _ H1 _ g1 (walkOk_dic (fun c => walk_i) ⟨fun z => nf (c.GF z), hd, rk⟩) h1⟩
    · obtain ⟨a, ob, kvs, ew, ng, hd, rk⟩ := r1
      cases ew
      exact ⟨_, _, _, rfl, hd, q _ H1 _ g1 (walkOk_dic (fun c => walk_i) ⟨ng, hd, rk⟩) h1⟩
    · exact h1.elim⟩
/-! ### d[k], k in d; d known as it stands, or one's own -/
def dicOf : Sl → Option (List (Key × D))
  | .d (.dic ds) => some ds
  | .own _ (.dic ds) => some ds
  | .bor ds => some ds
  | _ => none
theorem dic_at {c : Cfg} {H : Hp} {v : V} {s : Sl} {ds : List (Key × D)} (h : SlOk c H (some v) s) (e : dicOf s = some ds) : ∃ a kvs, v = .ref a ∧ Rd H a (.dK kvs) ∧ RpKv c H kvs ds := by
  unfold dicOf at e
  split at e
  · cases e
    obtain ⟨w, ew, r⟩ := h
    cases ew
    cases r with
    | dic nf hd rk => exact ⟨_, _, rfl, .inr ⟨_, hd⟩, rk⟩
  · cases e
    obtain ⟨a, ea, _, vs, hd, rk⟩ := h
    cases ea
    exact ⟨_, _, rfl, .inl hd, rk⟩
  · cases e
    obtain ⟨a, ob, kvs, ea, _, hd, rk⟩ := h
    cases ea
    exact ⟨_, _, rfl, .inr ⟨_, hd⟩, rk⟩
  · cases e
theorem dget_of {H : Hp} {d : Addr} {kvs : List (Key × V)} {k : Key} (hd : Rd H d (.dK kvs)) : DGet H d (kV k) (valV kvs k) := .inl ⟨kvs, k, hd, rfl, rfl⟩
def gIxK : Sl → Sl → DK → Prop := fun s t k => ∃ ds key y, dicOf s = some ds ∧ t = .d (keyD key) ∧ lookK ds key = some y ∧ k (.d y)
theorem pd_ixK {a i : Expr} {ta ti : TE} {da di : DE} (hu : X.A.units + 1 < cLine) (h1 : PD X W xw a ta da) (h2 : PD X W xw i ti di) (hs : NoSl i := by intro _ _; rfl) : PD X W xw (.Subscript a i pos) (tDGet ta ti) (dOp gIxK da di) :=
  ⟨fun tk => pe_dget hu (h1.pe tk) (h2.pe tk) hs, fun c eK hW Γ k hk σ H st Q q => h1.li c eK hW Γ _ hk σ H st _ fun v s H1 g1 r1 q1 => h2.li c eK hW Γ _ q1 σ H1 (st.go g1) _ fun w t H2 g2 r2 q2 => by
    obtain ⟨ds, key, y, e0, e1, e2, hk2⟩ := q2
    subst e1
    obtain ⟨d, kvs, ev, hd, rk⟩ := dic_at (r1.go g2.keep) e0
    subst ev
    obtain ⟨w', ew, rw⟩ := r2
    cases ew
    have ek := key_of rw
    subst ek
    rcases rk.val key with ⟨_, z⟩ | ⟨u, y', e3, e4, ry⟩
    · rw [e2] at z
      cases z
    · rw [e2] at e4
      cases e4
      refine ⟨_, u, rfl, ?_, q u (.d y) H2 (g1.trans g2) ⟨_, rfl, ry⟩ hk2⟩
      have q3 := dget_of (k := key) hd
      rw [e3] at q3
      exact q3⟩
def gInK (f : Bool → Bool) : Sl → Sl → DK → Prop := fun t s k => ∃ ds key, dicOf s = some ds ∧ t = .d (keyD key) ∧ k (.d (.bl (f (lookK ds key).isSome)))
theorem RpKv.some_eq {c : Cfg} {H : Hp} {kvs : List (Key × V)} {ds : List (Key × D)} (r : RpKv c H kvs ds) (key : Key) : (valV kvs key).isSome = (lookK ds key).isSome := by
  rcases r.val key with ⟨e3, e4⟩ | ⟨u, y', e3, e4, _⟩ <;> rw [e3, e4] <;> rfl
theorem pdt_inK {a b : Expr} {ta tb : TE} {da db : DE} (hu : X.A.units + 1 < cLine) (h1 : PD X W xw a ta da) (h2 : PD X W xw b tb db) (hm : behindInMarks .In b = false := by with_unfolding_all rfl) : PDT X W xw (.Compare a [.In] [b] pos) (tB (tDIn ta tb)) (dB (dOp (gInK fun z => z) da db)) :=
  ⟨fun tk => pt_cmp (pc_din hu (h1.pe tk) (h2.pe tk)) hm, fun c eK hW Γ k hk σ H st Q q => h1.li c eK hW Γ _ hk σ H st _ fun v s H1 g1 r1 q1 => h2.li c eK hW Γ _ q1 σ H1 (st.go g1) _ fun w t H2 g2 r2 q2 => by
    obtain ⟨ds, key, e0, e1, hk2⟩ := q2
    subst e1
    obtain ⟨v', ev, rv⟩ := r1.go g2.keep
    cases ev
    have ek := key_of rv
    subst ek
    obtain ⟨d, kvs, ew, hd, rk⟩ := dic_at r2 e0
    subst ew
    refine ⟨_, valV _ key, rfl, dget_of (k := key) hd, _, rfl, ?_⟩
    rw [rk.some_eq key]
    exact q _ H2 (g1.trans g2) hk2⟩
end
end Dv
set_option Elab.async false
set_option linter.all false
set_option maxRecDepth 100000
set_option maxHeartbeats 4000000
/-! Gy: comprehensions with any target: lists, dicts. -/
namespace Dv
open PySem L2
section
variable {X : Cx} {W : WX} {xw : XW} {K : PySem.W.Frag} {pos : Pos}
/-! ### putting into a dict -/
def putKD (kvs : List (Key × D)) (k : Key) (v : D) : List (Key × D) := if (kvs.any fun kv => decide (kv.1 = k)) = true then kvs.map (fun kv => if kv.1 = k then (kv.1, v) else kv) else kvs ++ [(k, v)]
theorem RpKv.any {c : Cfg} {H : Hp} (k : Key) : ∀ {vs : List (Key × V)} {ds : List (Key × D)}, RpKv c H vs ds → (vs.any fun kv => decide (kv.1 = k)) = ds.any fun kv => decide (kv.1 = k)
  | _, _, .nil => rfl
  | _, _, .cons _ b => by rw [List.any_cons, List.any_cons, RpKv.any k b]
theorem RpKv.append {c : Cfg} {H : Hp} : ∀ {vs ws : List (Key × V)} {ds es : List (Key × D)}, RpKv c H vs ds → RpKv c H ws es → RpKv c H (vs ++ ws) (ds ++ es)
  | _, _, _, _, .nil, s => s
  | _, _, _, _, .cons a b, s => .cons a (RpKv.append b s)
theorem RpKv.repl {c : Cfg} {H : Hp} (k : Key) {v : V} {d : D} (r : Rp c H v d) : ∀ {vs : List (Key × V)} {ds : List (Key × D)}, RpKv c H vs ds → RpKv c H (vs.map fun kv => if kv.1 = k then (kv.1, v) else kv) (ds.map fun kv => if kv.1 = k then (kv.1, d) else kv)
  | _, _, .nil => .nil
  | _, _, @RpKv.cons _ _ n v' d' vs ds a b => by
    rw [List.map_cons, List.map_cons]
    by_cases e : n = k
    · rw [if_pos e, if_pos e]
      exact .cons r (RpKv.repl k r b)
    · rw [if_neg e, if_neg e]
      exact .cons a (RpKv.repl k r b)
theorem RpKv.put {c : Cfg} {H : Hp} {vs : List (Key × V)} {ds : List (Key × D)} (k : Key) {v : V} {d : D} (h : RpKv c H vs ds) (r : Rp c H v d) : RpKv c H (putK vs k v) (putKD ds k d) := by
  unfold putK putKD
  rw [h.any k]
  split
  · exact h.repl k r
  · exact h.append (.cons r .nil)
/-! ### targets of comprehensions -/
structure Tgt (K : PySem.W.Frag) (g : TG) (vs : List Nat) (f : D → Gm → Option Gm) : Prop where
  go : ∀ c : Cfg, c.K = K → ∀ (σ : St) (H : Hp) (Γ Γ' : Gm) (x : V) (d : D) (Q : St → Hp → Prop), StOk c σ H Γ → Rp c H x d → f d Γ = some Γ' → (∀ σ', wipe σ' vs = wipe σ vs → StOk c σ' H Γ' → Q σ' H) → g x (wipe σ vs) H Q
def fOne (i : Nat) : D → Gm → Option Gm := fun d Γ => some (Γ.set i (.d d))
theorem tgt_one (K : PySem.W.Frag) (i : Nat) : Tgt K (gName i) [i] (fOne i) := ⟨fun c eK σ H Γ Γ' x d Q st r e q => by
  cases e
  have ew : wipe σ [i] = σ.set i none := rfl
  show Q ((wipe σ [i]).set i (some x)) H
  rw [ew, List.set_set]
  refine q _ ?_ (st.set (i := i) (o := some x) (s := .d d) ⟨x, rfl, r⟩)
  show (σ.set i (some x)).set i none = σ.set i none
  rw [List.set_set]⟩
def fTwo (i j : Nat) : D → Gm → Option Gm := fun d Γ => match d with
  | .tup [u, v] => some ((Γ.set i (.d u)).set j (.d v))
  | _ => none
abbrev gTwoT (K : PySem.W.Frag) (i j : Nat) : TG := gTup K 2 (gCons (gName i) (gCons (gName j) gNil))
theorem tgt_two (K : PySem.W.Frag) {i j : Nat} (hij : i ≠ j) : Tgt K (gTwoT K i j) [i, j] (fTwo i j) := ⟨fun c eK σ H Γ Γ' x d Q st r e q => by
  unfold fTwo at e
  split at e
  · rename_i u v
    cases e
    cases r with
    | tup il ra =>
      cases ra with
      | cons ru ra =>
        cases ra with
        | cons rv ra =>
          cases ra with
          | nil =>
            rename_i vu vv
            have ew : wipe σ [i, j] = (σ.set j none).set i none := rfl
            have e1 : (((wipe σ [i, j]).set i (some vu)).set j (some vv)) = (σ.set i (some vu)).set j (some vv) := by
              rw [ew, List.set_set, List.set_comm _ _ hij, List.set_set, List.set_comm _ _ hij.symm]
            refine ⟨_, _, rfl, by rw [← eK]; exact il.sq, rfl, _, _, rfl, _, _, rfl, rfl, ?_⟩
            rw [e1]
            refine q _ ?_ ((st.set (i := i) (o := some vu) (s := .d u) ⟨vu, rfl, ru⟩).set (i := j) (o := some vv) (s := .d v) ⟨vv, rfl, rv⟩)
            show (((σ.set i (some vu)).set j (some vv)).set j none).set i none = (σ.set j none).set i none
            rw [List.set_set, List.set_comm _ _ hij, List.set_set, List.set_comm _ _ hij.symm]
  · cases e⟩
/-! ### lists -/
def onG (o : Option Gm) (k : Gm → Prop) : Prop := match o with
  | some Γ => k Γ
  | none => False
def lcG (f : D → Gm → Option Gm) (ts : DT) (e : DE) (Γ : Gm) : List D → (List D → Prop) → Prop
  | [], k => k []
  | x :: r, k => onG (f x Γ) fun Γ' => ts Γ' fun b => cond b (e Γ' fun s => match s with
    | .d y => lcG f ts e Γ r fun ys => k (y :: ys)
    | _ => False) (lcG f ts e Γ r k)
def dLcG (f : D → Gm → Option Gm) (di : DI) (ts : DT) (e : DE) : DE := fun Γ k => di Γ fun xs => xs.length ≤ 100000 ∧ lcG f ts e Γ xs fun ys => k (.d (.lst ys))
theorem onG_some {o : Option Gm} {k : Gm → Prop} (h : onG o k) : ∃ Γ, o = some Γ ∧ k Γ := by
  cases o with
  | none => exact h.elim
  | some Γ => exact ⟨Γ, rfl, h⟩
theorem li_lcN {f : D → Gm → Option Gm} {g : TG} {vs : List Nat} {wi : TI} {tt : TT} {te : TE} {di : DI} {ts : DT} {e : DE} (tg : Tgt K g vs f) (hi : LiI K W xw wi di) (ht : LiT K W0 xw0 tt ts) (he : Li K W0 xw0 te e) {c : Cfg} (eK : c.K = K) (hW : WOk c W xw) {Γ : Gm} {kN : List D → Prop}
    (hk : di Γ fun xs => xs.length ≤ 100000 ∧ lcG f ts e Γ xs kN) {σ : St} {H : Hp} (st : StOk c σ H Γ) {Q : VK} (q : ∀ (q0 : Addr) (H1 : Hp) (ws : List V) (ys : List D) (H2 : Hp), Go c H H1 → H1 q0 = none → ¬ c.F q0 → c.I (rem H2 q0) → Kp c.G H1 H2 → H2 q0 = some (.lst ws) → RpAll c H2 ws ys → kN ys → Q (.ref q0) H2) : tLc wi g tt te vs σ H Q := by
  refine hi c eK hW Γ _ hk σ H st _ fun J H1 xs g1 wo hxs => fun q0 nD => ?_
  obtain ⟨hl, hk⟩ := hxs
  obtain ⟨φ, hφ, wk⟩ := wo.own q0 nD
  have nF : ¬ c.F q0 := c.fresh g1.inv nD
  let G : Addr → Prop := fun b => c.G b ∨ b = q0
  have kD : ∀ {H : Hp} {o : HO}, Kp G H (upd H q0 o) := fun {H o} b u nb _ e => by
    rw [upd_ne (fun y => nb (.inr y))]
    exact e
  have kF : ∀ {H : Hp} {o : HO}, Kp (c.hide q0 nF).F H (upd H q0 o) := fun {H o} => kD.le fun b z => z.elim (fun z => .inl (c.GF z)) .inr
  have kG : ∀ {H H' : Hp}, Kp c.G H H' → Kp G H H' := fun k => k.le fun _ z => .inl z
  refine ⟨fun n m H => m = xs.length - n ∧ n ≤ xs.length ∧ φ H ∧ Kp G H1 H ∧ ∃ (acc : List V) (ys : List D), H q0 = some (.lst acc) ∧ StOk (c.hide q0 nF) σ H Γ ∧ RpAll (c.hide q0 nF) H acc ys ∧ acc.length ≤ n ∧ lcG f ts e Γ (xs.drop n) (fun zs => kN (ys ++ zs)), ⟨xs.length, by simp, Nat.zero_le _, (wk nF).st kF (Kz.upd (.none nD)) hφ, kD, [], [], upd_same, (st.go g1).hide nF nD (fun b o e => by rw [upd_ne (ne_of_none e nD)]; exact e) ⟨_, upd_same, rfl⟩, .nil, Nat.le_refl _, by simpa using hk⟩, ?_⟩
  rintro n m H2 ⟨rfl, hn, hf, kk, acc, ys, ea, sk, ra, la, hd⟩
  by_cases hlt : n < xs.length
  · refine .inr ⟨(wk nF).go n H2 hf sk.inv hlt, fun H' => n + 1 ≤ xs.length ∧ φ H' ∧ Kp G H1 H' ∧ ∃ (acc : List V) (ys : List D), H' q0 = some (.lst acc) ∧ StOk (c.hide q0 nF) σ H' Γ ∧ RpAll (c.hide q0 nF) H' acc ys ∧ acc.length ≤ n + 1 ∧ lcG f ts e Γ (xs.drop (n + 1)) (fun zs => kN (ys ++ zs)), fun H' z => ⟨xs.length - (n + 1), by omega, rfl, z⟩, fun x H' y => ?_⟩
    have ex : xs[n]? = some xs[n] := List.getElem?_eq_some_iff.mpr ⟨hlt, rfl⟩
    obtain ⟨g2, rx⟩ := (wk nF).yld n H2 x H' xs[n] hf sk.inv ex y
    rw [List.drop_eq_getElem_cons hlt, lcG] at hd
    obtain ⟨Γ', ef, hd⟩ := onG_some hd
    refine tg.go (c.hide q0 nF) eK σ H' Γ Γ' x xs[n] _ (sk.go g2) rx ef fun σ' ew s2 => ⟨ew, ?_⟩
    refine ht (c.hide q0 nF) eK WOk.zero _ _ hd _ H' s2 _ fun b H3 g3 hb => ?_
    have st3 : ∀ {H3 : Hp}, Go (c.hide q0 nF) H2 H3 → φ H3 ∧ Kp G H1 H3 ∧ H3 q0 = some (.lst acc) := fun {H3} g => ⟨(wk nF).st g.kF (Kz.of g.keep) hf, kk.trans (kG g.keep), g.keep q0 _ (fun z => nF (c.GF z)) rfl ea⟩
    cases b
    · rw [if_neg Bool.false_ne_true]
      have g23 := g2.trans g3
      exact ⟨hlt, (st3 g23).1, (st3 g23).2.1, acc, ys, (st3 g23).2.2, sk.go g23, ra.go g23.kF, by omega, hb⟩
    · rw [if_pos rfl]
      refine he (c.hide q0 nF) eK WOk.zero _ _ hb _ H3 (s2.go g3) _ fun v s H4 g4 rv hv => ?_
      try dsimp only at hv
      have g24 := (g2.trans g3).trans g4
      split at hv
      · rename_i yy
        obtain ⟨w, ew', rr⟩ := rv
        cases ew'
        have sk4 := sk.go g24
        refine ⟨acc, (st3 g24).2.2, Nat.lt_of_le_of_lt la (Nat.lt_of_lt_of_le hlt (sz hl)), hlt, (wk nF).st kF (Kz.upd (.lst (st3 g24).2.2)) (st3 g24).1, (st3 g24).2.1.trans kD, acc ++ [v], ys ++ [yy], upd_same, sk4.hput (.lst (st3 g24).2.2), ?_, by rw [List.length_append]; simp; omega, ?_⟩
        · exact RpAll.append ((ra.go g24.kF).go kF) (.cons (rr.go kF) .nil)
        · simpa using hv
      · exact hv.elim
  · have en : n = xs.length := by omega
    subst en
    rw [List.drop_length] at hd
    refine .inl ⟨(wk nF).stop _ H2 hf (Nat.le_refl _), q q0 H1 acc ys H2 g1 nD nF sk.inv.1 (fun b u nb tb eb => kk b u (fun z => z.elim nb fun y => by
      rw [y, nD] at eb
      cases eb) tb eb) ea (ra.le Le.hide) (by simpa [lcG] using hd)⟩
theorem li_lcG {f : D → Gm → Option Gm} {g : TG} {vs : List Nat} {wi : TI} {tt : TT} {te : TE} {di : DI} {ts : DT} {e : DE} (tg : Tgt K g vs f) (hi : LiI K W xw wi di) (ht : LiT K W0 xw0 tt ts) (he : Li K W0 xw0 te e) : Li K W xw (tLc wi g tt te vs) (dLcG f di ts e) := fun c eK hW Γ k hk σ H st Q q =>
  li_lcN tg hi ht he eK hW hk st fun q0 H1 ws ys H2 g1 n1 nF iR kp ea ra hk => q (.ref q0) (.d (.lst ys)) H2 (g1.trans ⟨kp, c.mono (fun _ _ e => (rem_sub e).2) iR⟩) ⟨_, rfl, .lst nF ea ra⟩ hk
/-! ### dicts -/
def dcG (f : D → Gm → Option Gm) (ts : DT) (ek ev : DE) (Γ : Gm) : List D → List (Key × D) → (List (Key × D) → Prop) → Prop
  | [], acc, k => k acc
  | x :: r, acc, k => onG (f x Γ) fun Γ' => ts Γ' fun b => cond b (ek Γ' fun s => ev Γ' fun t => match s, t with
    | .d u, .d y => ∃ key, u = keyD key ∧ dcG f ts ek ev Γ r (putKD acc key y) k
    | _, _ => False) (dcG f ts ek ev Γ r acc k)
def dDcG (f : D → Gm → Option Gm) (di : DI) (ts : DT) (ek ev : DE) : DE := fun Γ k => di Γ fun xs => xs.length ≤ 100000 ∧ dcG f ts ek ev Γ xs [] fun kvs => k (.d (.dic kvs))
theorem li_dcG {f : D → Gm → Option Gm} {g : TG} {vs : List Nat} {wi : TI} {tt : TT} {tk tv : TE} {di : DI} {ts : DT} {ek ev : DE} (tg : Tgt K g vs f) (hi : LiI K W xw wi di) (ht : LiT K W0 xw0 tt ts) (hek : Li K W0 xw0 tk ek) (hev : Li K W0 xw0 tv ev) : Li K W xw (tLockD (tDc wi g tt tk tv vs)) (dDcG f di ts ek ev) := fun c eK hW Γ k hk σ H st Q q => by
  refine hi c eK hW Γ _ hk σ H st _ fun J H1 xs g1 wo hxs => fun q0 nD => ?_
  obtain ⟨hl, hk⟩ := hxs
  obtain ⟨φ, hφ, wk⟩ := wo.own q0 nD
  have nF : ¬ c.F q0 := c.fresh g1.inv nD
  let G : Addr → Prop := fun b => c.G b ∨ b = q0
  have kD : ∀ {H : Hp} {o : HO}, Kp G H (upd H q0 o) := fun {H o} b u nb _ e => by
    rw [upd_ne (fun y => nb (.inr y))]
    exact e
  have kF : ∀ {H : Hp} {o : HO}, Kp (c.hide q0 nF).F H (upd H q0 o) := fun {H o} => kD.le fun b z => z.elim (fun z => .inl (c.GF z)) .inr
  have kG : ∀ {H H' : Hp}, Kp c.G H H' → Kp G H H' := fun k => k.le fun _ z => .inl z
  have kvgo : ∀ {H H' : Hp} {vs : List (Key × V)} {ds : List (Key × D)}, RpKv (c.hide q0 nF) H vs ds → Kp (c.hide q0 nF).F H H' → RpKv (c.hide q0 nF) H' vs ds := fun {H H' vs ds} r k => RpKv.to (c := c.hide q0 nF) (c' := c.hide q0 nF) rfl (fun _ z => z) k r
  refine ⟨fun n m H => m = xs.length - n ∧ n ≤ xs.length ∧ φ H ∧ Kp G H1 H ∧ ∃ (acc : List (Key × V)) (ys : List (Key × D)), H q0 = some (.dK acc) ∧ StOk (c.hide q0 nF) σ H Γ ∧ RpKv (c.hide q0 nF) H acc ys ∧ acc.length ≤ n ∧ dcG f ts ek ev Γ (xs.drop n) ys (fun zs => k (.d (.dic zs))), ⟨xs.length, by simp, Nat.zero_le _, (wk nF).st kF (Kz.upd (.none nD)) hφ, kD, [], [], upd_same, (st.go g1).hide nF nD (fun b o e => by rw [upd_ne (ne_of_none e nD)]; exact e) ⟨_, upd_same, rfl⟩, .nil, Nat.le_refl _, by simpa using hk⟩, ?_⟩
  rintro n m H2 ⟨rfl, hn, hf, kk, acc, ys, ea, sk, ra, la, hd⟩
  by_cases hlt : n < xs.length
  · refine .inr ⟨(wk nF).go n H2 hf sk.inv hlt, fun H' => n + 1 ≤ xs.length ∧ φ H' ∧ Kp G H1 H' ∧ ∃ (acc : List (Key × V)) (ys : List (Key × D)), H' q0 = some (.dK acc) ∧ StOk (c.hide q0 nF) σ H' Γ ∧ RpKv (c.hide q0 nF) H' acc ys ∧ acc.length ≤ n + 1 ∧ dcG f ts ek ev Γ (xs.drop (n + 1)) ys (fun zs => k (.d (.dic zs))), fun H' z => ⟨xs.length - (n + 1), by omega, rfl, z⟩, fun x H' y => ?_⟩
    have ex : xs[n]? = some xs[n] := List.getElem?_eq_some_iff.mpr ⟨hlt, rfl⟩
    obtain ⟨g2, rx⟩ := (wk nF).yld n H2 x H' xs[n] hf sk.inv ex y
    rw [List.drop_eq_getElem_cons hlt, dcG] at hd
    obtain ⟨Γ', ef, hd⟩ := onG_some hd
    refine tg.go (c.hide q0 nF) eK σ H' Γ Γ' x xs[n] _ (sk.go g2) rx ef fun σ' ew s2 => ⟨ew, ?_⟩
    refine ht (c.hide q0 nF) eK WOk.zero _ _ hd _ H' s2 _ fun b H3 g3 hb => ?_
    have st3 : ∀ {H3 : Hp}, Go (c.hide q0 nF) H2 H3 → φ H3 ∧ Kp G H1 H3 ∧ H3 q0 = some (.dK acc) := fun {H3} g => ⟨(wk nF).st g.kF (Kz.of g.keep) hf, kk.trans (kG g.keep), g.keep q0 _ (fun z => nF (c.GF z)) rfl ea⟩
    cases b
    · rw [if_neg Bool.false_ne_true]
      have g23 := g2.trans g3
      exact ⟨hlt, (st3 g23).1, (st3 g23).2.1, acc, ys, (st3 g23).2.2, sk.go g23, kvgo ra g23.kF, by omega, hb⟩
    · rw [if_pos rfl]
      refine hek (c.hide q0 nF) eK WOk.zero _ _ hb _ H3 (s2.go g3) _ fun v s H4 g4 rv hv => ?_
      refine hev (c.hide q0 nF) eK WOk.zero _ _ hv _ H4 ((s2.go g3).go g4) _ fun v2 s2' H5 g5 rv2 hv => ?_
      have g25 := ((g2.trans g3).trans g4).trans g5
      have rv' := rv.go g5.keep
      cases s <;> try exact False.elim hv
      rename_i uu
      cases s2' <;> try exact False.elim hv
      rename_i yy
      obtain ⟨key, eu, hv⟩ := hv
      subst eu
      obtain ⟨w, ew', rr⟩ := rv'
      cases ew'
      obtain ⟨w2, ew2, rr2⟩ := rv2
      cases ew2
      have ekk := key_of rr
      have sk5 := sk.go g25
      refine ⟨acc, key, ekk, (st3 g25).2.2, Nat.lt_of_le_of_lt la (Nat.lt_of_lt_of_le hlt (sz hl)), hlt, (wk nF).st kF (Kz.upd (.dK (st3 g25).2.2)) (st3 g25).1, (st3 g25).2.1.trans kD, putK acc key v2, putKD ys key yy, upd_same, sk5.hput (.dK (st3 g25).2.2), ?_, ?_, hv⟩
      · exact (kvgo (kvgo ra g25.kF) kF).put key (rr2.go kF)
      · have := length_putK acc key v2
        omega
  · have en : n = xs.length := by omega
    subst en
    rw [List.drop_length] at hd
    refine .inl ⟨(wk nF).stop _ H2 hf (Nat.le_refl _), q0, acc, rfl, ea, fun o => ?_⟩
    have g9 : Go c H1 (upd H2 q0 (.frz o (.dK acc))) := ⟨fun b u nb tb eb => by
      have nq : b ≠ q0 := fun y => by
        rw [y, nD] at eb
        cases eb
      rw [upd_ne nq]
      exact kk b u (fun z => z.elim nb nq) tb eb, Le.hide.I _ (sk.hput (o := .frz o (.dK acc)) (.dK ea)).inv⟩
    refine q (.ref q0) (.d (.dic ys)) _ (g1.trans g9) ⟨_, rfl, .dic nF upd_same ?_⟩ hd
    exact RpKv.to (c := c.hide q0 nF) (c' := c) rfl (fun _ z => .inl z) Kp.self (kvgo ra kF)
end
end Dv
set_option Elab.async false
set_option linter.all false
set_option maxRecDepth 100000
set_option maxHeartbeats 4000000
/-! Gz: comprehensions with two names over pairs; dict comprehensions; d.get; list(d), sorted(d). -/
namespace Dv
open PySem L2 PyProof.Rows
section
variable {X : Cx} {W : WX} {xw : XW} {K : PySem.W.Frag} {pos : Pos}
/-! ### lists -/
theorem pd_lcT {i j : Nat} {x y : Str} {tp tp2 : Pos} {kt : _} {pt : Pos} {elt iter : Expr} {ifs : List Expr} {scope : Scope} {wi : TI} {tt : Blk TT} {te : Blk TE} {di : DI} {dt : DT} {de : DE} (hij : i ≠ j) (hc : X.calm = true) (hN : X.N.Nodup) (hi : PDI X W xw (.Tuple [.Name x tp, .Name y tp2] kt pt) iter wi di) (ok : BlkOk X.N X.env.scope scope [(x, i), (y, j)])
    (hg : ∀ (s : Shared) (H : Hp) (C : Addr) (cl : List (Str × Addr)) (fp : List Addr), PG (X.blk s H scope (compEnvC scope cl C X.env) fp) (.Tuple [.Name x tp, .Name y tp2] kt pt) (gTwoT X.K i j)) (ht : ∀ (s : Shared) (H : Hp) (C : Addr) (cl : List (Str × Addr)) (fp : List Addr), PDTs (X.blk s H scope (compEnvC scope cl C X.env) fp) W0 xw0 ifs (tt s H C cl fp) dt)
    (he : ∀ (s : Shared) (H : Hp) (C : Addr) (cl : List (Str × Addr)) (fp : List Addr), PD (X.blk s H scope (compEnvC scope cl C X.env) fp) W0 xw0 elt (te s H C cl fp) de) (hs : ∀ x, foldedSetIterable iter X.env x = pure x := by intro _; rfl)
    (htt : ∀ s H C cl fp, tt s H C cl fp = Blk.at0 X tt := by intros; rfl) (hte : ∀ s H C cl fp, te s H C cl fp = Blk.at0 X te := by intros; rfl) :
    PD X W xw (.ListComp elt [⟨.Tuple [.Name x tp, .Name y tp2] kt pt, iter, ifs, 0⟩] scope pos) (tLc wi (gTwoT X.K i j) (Blk.at0 X tt) (Blk.at0 X te) [i, j]) (dLcG (fTwo i j) di dt de) :=
  ⟨fun tk => pe_lc (own := [(x, i), (y, j)]) hc hN (hi.pi tk) ok hg (fun s H C cl fp => htt s H C cl fp ▸ (ht s H C cl fp).pt takes0) (fun s H C cl fp => hte s H C cl fp ▸ (he s H C cl fp).pe takes0) hs, li_lcG (tgt_two X.K hij) hi.li (ht X.s_0 X.H_0 0 [] []).li (he X.s_0 X.H_0 0 [] []).li⟩
/-! ### dicts -/
theorem pd_dc1 {i : Nat} {x : Str} {tp : Pos} {kx vx iter : Expr} {ifs : List Expr} {scope : Scope} {wi : TI} {tt : Blk TT} {tk tv : Blk TE} {di : DI} {dt : DT} {dk dv : DE} (hc : X.calm = true) (hN : X.N.Nodup) (hi : PDI X W xw (.Name x tp) iter wi di) (ok : BlkOk X.N X.env.scope scope [(x, i)])
    (hg : ∀ (s : Shared) (H : Hp) (C : Addr) (cl : List (Str × Addr)) (fp : List Addr), PG (X.blk s H scope (compEnvC scope cl C X.env) fp) (.Name x tp) (gName i)) (ht : ∀ (s : Shared) (H : Hp) (C : Addr) (cl : List (Str × Addr)) (fp : List Addr), PDTs (X.blk s H scope (compEnvC scope cl C X.env) fp) W0 xw0 ifs (tt s H C cl fp) dt)
    (hk : ∀ (s : Shared) (H : Hp) (C : Addr) (cl : List (Str × Addr)) (fp : List Addr), PD (X.blk s H scope (compEnvC scope cl C X.env) fp) W0 xw0 kx (tk s H C cl fp) dk)
    (he : ∀ (s : Shared) (H : Hp) (C : Addr) (cl : List (Str × Addr)) (fp : List Addr), PD (X.blk s H scope (compEnvC scope cl C X.env) fp) W0 xw0 vx (tv s H C cl fp) dv) (hs : ∀ x, foldedSetIterable iter X.env x = pure x := by intro _; rfl)
    (htt : ∀ s H C cl fp, tt s H C cl fp = Blk.at0 X tt := by intros; rfl) (htk : ∀ s H C cl fp, tk s H C cl fp = Blk.at0 X tk := by intros; rfl) (htv : ∀ s H C cl fp, tv s H C cl fp = Blk.at0 X tv := by intros; rfl) :
    PD X W xw (.DictComp kx vx [⟨.Name x tp, iter, ifs, 0⟩] scope pos) (tLockD (tDc wi (gName i) (Blk.at0 X tt) (Blk.at0 X tk) (Blk.at0 X tv) [i])) (dDcG (fOne i) di dt dk dv) :=
  ⟨fun tk' => pe_lockD (pe_dc (own := [(x, i)]) hc hN (hi.pi tk') ok hg (fun s H C cl fp => htt s H C cl fp ▸ (ht s H C cl fp).pt takes0) (fun s H C cl fp => htk s H C cl fp ▸ (hk s H C cl fp).pe takes0) (fun s H C cl fp => htv s H C cl fp ▸ (he s H C cl fp).pe takes0) hs), li_dcG (tgt_one X.K i) hi.li (ht X.s_0 X.H_0 0 [] []).li (hk X.s_0 X.H_0 0 [] []).li (he X.s_0 X.H_0 0 [] []).li⟩
/-! ### d.get(k), d.get(k, x) -/
def dGet1 (d e : DE) : DE := fun Γ k => d Γ fun s => ∃ ds, dicOf s = some ds ∧ e Γ fun t => ∃ key, t = .d (keyD key) ∧ ∀ ds', dicOf s = some ds' → k (.d ((lookK ds' key).getD .non))
theorem pd_get1 {o e : Expr} {td te : TE} {dd de : DE} {apos cpos : Pos} (hu : X.A.units + 1 < cLine) (h1 : PD X W xw o td dd) (h2 : PD X W xw e te de) (m : M1 X o "get" apos e cpos := by exact ⟨rfl, rfl, rfl, rfl⟩) : PD X W xw (.Call (.Attribute o "get" apos) [e] [] cpos) (tDGet1 td te) (dGet1 dd de) :=
  ⟨fun tk => pe_dget1 hu (h1.pe tk) (h2.pe tk) m, fun c eK hW Γ k hk σ H st Q q => h1.li c eK hW Γ _ hk σ H st _ fun v s H1 g1 r1 q1 => by
    obtain ⟨ds, e0, q1⟩ := q1
    obtain ⟨d, kvs, ev, hd, _⟩ := dic_at r1 e0
    subst ev
    refine ⟨_, rfl, .inl ⟨_, hd⟩, h2.li c eK hW Γ _ q1 σ H1 (st.go g1) _ fun w t H2 g2 r2 q2 => ?_⟩
    obtain ⟨key, e1, hk2⟩ := q2
    subst e1
    obtain ⟨d2, kvs2, ev2, hd2, rk⟩ := dic_at (r1.go g2.keep) e0
    cases ev2
    obtain ⟨w', ew, rw⟩ := r2
    cases ew
    have ek := key_of rw
    subst ek
    refine ⟨valV _ key, dget_of (k := key) hd2, ?_⟩
    have hk3 := hk2 _ e0
    rcases rk.val key with ⟨e3, e4⟩ | ⟨u, y', e3, e4, ry⟩
    · rw [e3]
      rw [e4] at hk3
      exact q .non (.d .non) H2 (g1.trans g2) ⟨_, rfl, .non⟩ hk3
    · rw [e3]
      rw [e4] at hk3
      exact q u (.d y') H2 (g1.trans g2) ⟨_, rfl, ry⟩ hk3⟩
def dGet2 (d e f : DE) : DE := fun Γ k => d Γ fun s => ∃ ds, dicOf s = some ds ∧ e Γ fun t => f Γ fun u => ∃ key y, t = .d (keyD key) ∧ u = .d y ∧ ∀ ds', dicOf s = some ds' → k (.d ((lookK ds' key).getD y))
theorem pd_get2 {o e f : Expr} {td te tf : TE} {dd de df : DE} {apos cpos : Pos} (hu : X.A.units + 1 < cLine) (h1 : PD X W xw o td dd) (h2 : PD X W xw e te de) (h3 : PD X W xw f tf df) (m : M2 X o "get" apos e f cpos := by exact ⟨rfl, rfl, rfl, rfl⟩) : PD X W xw (.Call (.Attribute o "get" apos) [e, f] [] cpos) (tDGet2 td te tf) (dGet2 dd de df) :=
  ⟨fun tk => pe_dget2 hu (h1.pe tk) (h2.pe tk) (h3.pe tk) m, fun c eK hW Γ k hk σ H st Q q => h1.li c eK hW Γ _ hk σ H st _ fun v s H1 g1 r1 q1 => by
    obtain ⟨ds, e0, q1⟩ := q1
    obtain ⟨d, kvs, ev, hd, _⟩ := dic_at r1 e0
    subst ev
    refine ⟨_, rfl, .inl ⟨_, hd⟩, h2.li c eK hW Γ _ q1 σ H1 (st.go g1) _ fun w t H2 g2 r2 q2 => h3.li c eK hW Γ _ q2 σ H2 ((st.go g1).go g2) _ fun z u H3 g3 r3 q3 => ?_⟩
    obtain ⟨key, y, e1, e2, hk2⟩ := q3
    subst e1 e2
    obtain ⟨d2, kvs2, ev2, hd2, rk⟩ := dic_at ((r1.go g2.keep).go g3.keep) e0
    cases ev2
    obtain ⟨w', ew, rw⟩ := r2.go g3.keep
    cases ew
    obtain ⟨z', ez, rz⟩ := r3
    cases ez
    have ek := key_of rw
    subst ek
    refine ⟨valV _ key, dget_of (k := key) hd2, ?_⟩
    have hk3 := hk2 _ e0
    rcases rk.val key with ⟨e3, e4⟩ | ⟨u, y', e3, e4, ry⟩
    · rw [e3]
      rw [e4] at hk3
      exact q _ (.d _) H3 ((g1.trans g2).trans g3) ⟨_, rfl, rz⟩ hk3
    · rw [e3]
      rw [e4] at hk3
      exact q u (.d y') H3 ((g1.trans g2).trans g3) ⟨_, rfl, ry⟩ hk3⟩
/-! ### list(d), sorted(d), sorted(a list of texts) -/
theorem rp_strsL {c : Cfg} {H : Hp} : ∀ ys : List Str, RpAll c H (ys.map V.str) (ys.map D.str)
  | [] => .nil
  | y :: r => .cons (.str y) (rp_strsL r)
def gSortD : List Sl → DK → Prop := fun ss k => match ss with
  | [.d (.dic ds)] => ∃ ks : List Str, ds.map (fun p => p.1) = ks.map Sum.inr ∧ ks.length < 64 ∧ ∀ ys : List Str, ys.Perm ks → sortedS ys = true → k (.d (.lst (ys.map D.str)))
  | [.bor ds] => ∃ ks : List Str, ds.map (fun p => p.1) = ks.map Sum.inr ∧ ks.length < 64 ∧ ∀ ys : List Str, ys.Perm ks → sortedS ys = true → k (.d (.lst (ys.map D.str)))
  | [.d (.lst xs)] => ∃ ks : List Str, xs = ks.map D.str ∧ ks.length < 64 ∧ ∀ ys : List Str, ys.Perm ks → sortedS ys = true → k (.d (.lst (ys.map D.str)))
  | _ => False
theorem rpkv_fst {c : Cfg} {H : Hp} : ∀ {kvs : List (Key × V)} {ds : List (Key × D)}, RpKv c H kvs ds → kvs.map (fun p => p.1) = ds.map (fun p => p.1)
  | _, _, .nil => rfl
  | _, _, .cons _ b => by rw [List.map_cons, List.map_cons, rpkv_fst b]
theorem rp_strs_of {c : Cfg} {H : Hp} : ∀ {ks : List Str} {vs : List V}, RpAll c H vs (ks.map D.str) → vs = ks.map V.str
  | [], _, .nil => rfl
  | k :: r, _, .cons a b => by
    cases a
    rw [rp_strs_of b]
    rfl
theorem oc_sortD : OC K (fun xs H Q => (∃ (a : Addr) (kvs : List (Key × V)) (ks : List Str), xs = [.ref a] ∧ Rd H a (.dK kvs) ∧ kvs.map (·.1) = ks.map Sum.inr ∧ ks.length < 64 ∧ ∀ ys p, ys.Perm ks → sortedS ys = true → H p = none → Q (.ref p) (upd H p (.lst (ys.map V.str)))) ∨ rSortedS K xs H Q) gSortD := fun c H vs ss k Q eK hi r h q => by
  unfold gSortD at h
  split at h
  · obtain ⟨v, rfl, w, e, rr⟩ := paired1 r
    cases e
    obtain ⟨ks, e1, h64, hk⟩ := h
    cases rr with
    | dic nf hd rk => exact .inl ⟨_, _, ks, rfl, .inr ⟨_, hd⟩, (rpkv_fst rk).trans e1, h64, fun ys p h1 h2 np => q _ (.d (.lst _)) _ (Go.new hi np) ⟨_, rfl, rp_newL hi np (rp_strsL ys)⟩ (hk ys h1 h2)⟩
  · obtain ⟨v, rfl, a, ob, kvs, ew, ng, hd, rk⟩ := paired1 r
    cases ew
    obtain ⟨ks, e1, h64, hk⟩ := h
    exact .inl ⟨_, _, ks, rfl, .inr ⟨_, hd⟩, (rpkv_fst rk).trans e1, h64, fun ys p h1 h2 np => q _ (.d (.lst _)) _ (Go.new hi np) ⟨_, rfl, rp_newL hi np (rp_strsL ys)⟩ (hk ys h1 h2)⟩
  · obtain ⟨v, rfl, w, e, rr⟩ := paired1 r
    cases e
    obtain ⟨ks, e1, h64, hk⟩ := h
    subst e1
    cases rr with
    | lst nf il ra =>
      have ev := rp_strs_of ra
      subst ev
      exact .inr ⟨_, ks, rfl, .inl (.inl il), h64, fun ys p h1 h2 np => q _ (.d (.lst _)) _ (Go.new hi np) ⟨_, rfl, rp_newL hi np (rp_strsL ys)⟩ (hk ys h1 h2)⟩
  · exact h.elim
end
end Dv
set_option Elab.async false
set_option linter.all false
set_option maxRecDepth 100000
set_option maxHeartbeats 4000000
/-! Ha: dicts of one's own: x = {}, x = dict(y), x[k] = v, return x. -/
namespace L2
open PySem PySem.Spec PyProof.Rows
section
variable {X : Cx}
end
end L2
namespace Dv
open PySem L2
section
variable {X : Cx} {W : WX} {xw : XW} {K : PySem.W.Frag} {pos : Pos}
theorem mine_newD {c : Cfg} {σ : St} {H : Hp} {Γ : Gm} {k i : Nat} {p : Addr} {xs : List (Key × V)} {ds : List (Key × D)} (s : StOk c σ H Γ) (np : H p = none) (r : RpKv c H xs ds) : ∃ ha : ¬ c.F p, StOk (c.mine k p ha) (σ.set i (some (.ref p))) (upd H p (.dK xs)) ((clr k Γ).set i (.own k (.dic ds))) := by
  have nP : ¬ c.F p := c.fresh s.inv np
  have kp : ∀ b o, H b = some o → upd H p (.dK xs) b = some o := fun b o e => by
    rw [upd_ne (ne_of_none e np)]
    exact e
  have s1 := s.mine (k := k) (H' := upd H p (.dK xs)) nP np kp ⟨_, upd_same, rfl⟩
  refine ⟨nP, s1.set (i := i) (o := some (.ref p)) (s := .own k (.dic ds)) ⟨p, rfl, if_pos rfl, xs, upd_same, ?_⟩⟩
  exact RpKv.to (c := c.mine k p nP) (c' := c.mine k p nP) rfl (fun _ z => z) (fun b o _ _ e => kp b o e) (RpKv.mine np r)
/-! ### x = {} -/
def dOwnD (i k : Nat) (dr : DS) : DS := fun D Γ => dr (ownE k D) ((clr k Γ).set i (.own k (.dic [])))
theorem pdss_ownD {i k : Nat} {x : Str} {px lp spos : Pos} {rest : List Stmt} {tr : TS} {dr : DS} (hN : X.N.Nodup) (r : PDSs X W (fzX k xw) rest tr dr) (hi : X.N[i]? = some x := by rfl) (hx : Loc X.env.scope x := by first | exact Or.inl rfl | exact Or.inr rfl)
    (hs : swapsWith (.Dict [] [] lp) (some (.Name x px)) spos.line X.env = pure false := by rfl) (hf : X.fn x = true ∨ X.env.scope.names.lookup x = some .local := by first | exact .inl rfl | exact .inr rfl | assumption) :
    PDSs X W xw (.Assign [.Name x px] (.Dict [] [] lp) spos :: rest) (tSeq (tAsg tDNewK (gName i)) tr) (dOwnD i k dr) :=
  ⟨fun tk => pss_cons (ps_set hN hi hx pe_dnewK hs hf) (r.ps tk), fun c eK hW E D o Γ σ H s hd => fun p np => by
    obtain ⟨ha, s2⟩ := mine_newD (k := k) (i := i) s np .nil
    exact r.li (c.mine k p ha) eK hW.mine E _ o.mine _ _ _ s2 hd⟩
/-! ### x = dict(e) -/
/-! ### x[k] = v -/
def dPutK (i : Nat) (ek ev : DE) : DS := fun D Γ => match Γ[i]? with
  | some (.own k (.dic ds)) => ev Γ fun t => ek Γ fun s => ∃ key y, s = .d (keyD key) ∧ t = .d y ∧ ds.length < 100000 ∧ D.nx ((clr k Γ).set i (.own k (.dic (putKD ds key y))))
  | _ => False
theorem pds_putK {i : Nat} {x : Str} {e v : Expr} {te tv : TE} {de dv : DE} {p tpos : Pos} (hu : X.A.units + 1 < cLine) (h1 : PD X W xw e te de) (h2 : PD X W xw v tv dv) (hi : X.N[i]? = some x := by rfl) (hv : Vis X.env.scope x := by first | exact Or.inl rfl | exact Or.inr (Or.inl rfl))
    (hd : (x == ("__debug__" : Str)) = false := by decide) (hcd : (x == ("__classdict__" : Str)) = false := by decide)
    (hs : swapsWith v (some (.Subscript (.Name x p) e tpos)) pos.line X.env = pure false := by rfl) :
    PDS X W xw (.Assign [.Subscript (.Name x p) e tpos] v pos) (sDPut (tVar i) te tv) (dPutK i de dv) :=
  ⟨fun tk => ps_dput hu (pe_var hi hv hd hcd) (h1.pe tk) (h2.pe tk) hs, fun c eK hW E D o Γ σ H s hdd => by
    unfold dPutK at hdd
    split at hdd
    · rename_i k ds eΓ
      obtain ⟨o1, e1⟩ := slot_at s.len eΓ
      obtain ⟨a, ea, wa, vs, ha, ra⟩ := s.at_ i _ _ e1 eΓ
      subst ea
      refine h2.li c eK hW Γ _ hdd σ H s _ fun w t H1 g1 r1 q1 => ⟨_, e1, h1.li c eK hW Γ _ q1 σ H1 (s.go g1) _ fun u s' H2 g2 r2 q2 => ?_⟩
      obtain ⟨key, y, e2, e3, hl, q⟩ := q2
      subst e2 e3
      obtain ⟨w', ew, rw⟩ := r1.go g2.keep
      cases ew
      obtain ⟨u', eu, ru⟩ := r2
      cases eu
      have ek := key_of ru
      subst ek
      have gg := g1.trans g2
      have s2 := s.go gg
      have ha2 : H2 a = some (.dK vs) := gg.keep a _ (c.owW wa).2 rfl ha
      have ra2 : RpKv c H2 vs ds := ra.to rfl (fun _ z => z) gg.kF
      refine ⟨a, _, rfl, DPut.k ha2 (by rw [ra2.length]; exact Nat.lt_of_lt_of_le hl (by decide)), ?_⟩
      have kW : Kp c.F H2 (upd H2 a (.dK (putK vs key w))) := fun b u nb _ e => by
        rw [upd_ne (fun y => nb (by rw [y]; exact c.WF (c.owW wa).1))]
        exact e
      exact o.nx _ _ _ (s2.put (i := i) (x := .dic _) wa e1 ⟨_, upd_same, RpKv.put key (ra2.to rfl (fun _ z => z) kW) (rw.go kW)⟩ (.dK ha2)) q
    · exact hdd.elim⟩
/-! ### return x: the dict is known as it stands from then on -/
def dRetD (i : Nat) : DS := fun D Γ => match Γ[i]? with
  | some (.own _ (.dic ds)) => D.ro (.dic ds)
  | _ => False
theorem pds_retD {i : Nat} {x : Str} {p : Pos} (hi : X.N[i]? = some x := by rfl) (hv : Vis X.env.scope x := by first | exact Or.inl rfl | exact Or.inr (Or.inl rfl))
    (hd : (x == ("__debug__" : Str)) = false := by decide) (hcd : (x == ("__classdict__" : Str)) = false := by decide) : PDS X W xw (.Return (some (.Name x p)) pos) (tRet (tLockD (tVar i))) (dRetD i) :=
  ⟨fun tk => ps_ret (pe_lockD (pe_var hi hv hd hcd)), fun c eK hW E D o Γ σ H s hdd => by
    unfold dRetD at hdd
    split at hdd
    · rename_i k ds eΓ
      obtain ⟨o1, e1⟩ := slot_at s.len eΓ
      obtain ⟨a, ea, wa, vs, ha, ra⟩ := s.at_ i _ _ e1 eΓ
      subst ea
      refine ⟨_, e1, a, vs, rfl, ha, fun ob => ?_⟩
      have kW : Kp c.F H (upd H a (.frz ob (.dK vs))) := fun b u nb _ e => by
        rw [upd_ne (fun y => nb (by rw [y]; exact c.WF (c.owW wa).1))]
        exact e
      have nr : ¬ c.rel.F a := fun z => (c.owW wa).2 (z.2 (c.owW wa).1)
      refine o.ro _ _ _ (c.owPut s.inv wa rfl (Unf.dK ha)) (.dic nr upd_same ?_) hdd
      exact RpKv.to (c := c) (c' := c.rel) rfl (fun _ z => z.1) kW ra
    · exact hdd.elim⟩
end
end Dv
set_option Elab.async false
set_option linter.all false
set_option maxRecDepth 100000
set_option maxHeartbeats 4000000
/-! Hb: {k: v, ..}. -/
namespace Dv
open PySem L2
section
variable {X : Cx} {W : WX} {xw : XW} {K : PySem.W.Frag} {pos : Pos}
abbrev DPs := Gm → (List (Key × D) → Prop) → Prop
def LiPs (K : PySem.W.Frag) (W : WX) (xw : XW) (trs : List (TE × TE)) (dp : DPs) : Prop := ∀ c : Cfg, c.K = K → WOk c W xw → ∀ Γ k, dp Γ k → ∀ σ H, StOk c σ H Γ → ∀ Q : List (V × V) → Hp → Prop,
  (∀ kvs ds H1, Go c H H1 → RpKv c H1 kvs ds → k ds → Q (kvs.map fun kv => (kV kv.1, kv.2)) H1) → tPairs trs σ H Q
structure PDPs (X : Cx) (W : WX) (xw : XW) (pos : Pos) (keys : List (Option Expr)) (values : List Expr) (trs : List (TE × TE)) (dp : DPs) : Prop where
  ps : Takes X W → PPs X pos keys values trs
  li : LiPs X.K W xw trs dp
def dpNil : DPs := fun _ k => k []
def dpCons (dk dv : DE) (r : DPs) : DPs := fun Γ k => dk Γ fun s => dv Γ fun t => ∃ key y, s = .d (keyD key) ∧ t = .d y ∧ r Γ fun ds => k ((key, y) :: ds)
theorem pdp_nil : PDPs X W xw pos [] [] [] dpNil := ⟨fun _ => pps_nil, fun c eK hW Γ k hk σ H st Q q => q [] [] H (Go.self st.inv) .nil hk⟩
theorem pdp_cons {k v : Expr} {ks : List (Option Expr)} {vs : List Expr} {tk tv : TE} {trs : List (TE × TE)} {dk dv : DE} {r : DPs} (h1 : PD X W xw k tk dk) (h2 : PD X W xw v tv dv) (h3 : PDPs X W xw pos ks vs trs r) : PDPs X W xw pos (some k :: ks) (v :: vs) ((tk, tv) :: trs) (dpCons dk dv r) :=
  ⟨fun tk' => pps_cons (h1.pe tk') (h2.pe tk') (h3.ps tk'), fun c eK hW Γ k hk σ H st Q q => h1.li c eK hW Γ _ hk σ H st _ fun x s H1 g1 r1 q1 => h2.li c eK hW Γ _ q1 σ H1 (st.go g1) _ fun y t H2 g2 r2 q2 => by
    obtain ⟨key, d, e1, e2, q2⟩ := q2
    subst e1 e2
    refine h3.li c eK hW Γ _ q2 σ H2 ((st.go g1).go g2) _ fun kvs ds H3 g3 rk q3 => ?_
    obtain ⟨x', ex, rx⟩ := (r1.go g2.keep).go g3.keep
    cases ex
    obtain ⟨y', ey, ry⟩ := r2.go g3.keep
    cases ey
    have ek := key_of rx
    subst ek
    exact q ((key, y) :: kvs) ((key, d) :: ds) H3 ((g1.trans g2).trans g3) (.cons ry rk) q3⟩
def mergeD (kvs more : List (Key × D)) : List (Key × D) := more.foldl (fun acc kv => putKD acc kv.1 kv.2) kvs
theorem RpKv.merge {c : Cfg} {H : Hp} : ∀ {more : List (Key × V)} {rs : List (Key × D)} {kvs : List (Key × V)} {ds : List (Key × D)}, RpKv c H more rs → RpKv c H kvs ds → RpKv c H (mergeK kvs more) (mergeD ds rs)
  | _, _, _, _, .nil, s => s
  | _, _, kvs, ds, @RpKv.cons _ _ n v d vs rs a b, s => RpKv.merge (more := vs) (rs := rs) (kvs := putK kvs n v) (ds := putKD ds n d) b (s.put n a)
def dDisp (dp : DPs) : DE := fun Γ k => dp Γ fun ds => ds.length ≤ 15 ∧ k (.d (.dic (mergeD [] ds)))
theorem pd_disp {keys : List (Option Expr)} {values : List Expr} {trs : List (TE × TE)} {dp : DPs} (h : PDPs X W0 xw0 pos keys values trs dp) (hall : keys.all (·.isSome) = true := by rfl) (hl : keys.length = values.length := by rfl) (h0 : keys ≠ [] := by exact List.cons_ne_nil _ _) (h15 : keys.length ≤ 15 := by exact Nat.le_of_ble_eq_true rfl) :
    PD X W xw (.Dict keys values pos) (tLockD (tDisp trs)) (dDisp dp) :=
  ⟨fun tk => pe_lockD (pe_disp (h.ps takes0) hall hl h0 h15), fun c eK hW Γ k hk σ H st Q q => fun p np => by
    have nF : ¬ c.F p := c.fresh st.inv np
    have s1 : StOk (c.hide p nF) σ (upd H p (.dK [])) Γ := st.hide nF np (fun b o e => by rw [upd_ne (ne_of_none e np)]; exact e) ⟨_, upd_same, rfl⟩
    refine h.li (c.hide p nF) eK WOk.zero Γ _ hk σ _ s1 _ fun kvs ds H1 g1 rk q1 => ?_
    have e1 : H1 p = some (.dK []) := g1.keep p _ (fun z => nF (c.GF z)) rfl upd_same
    refine ⟨e1, kvs, rfl, by rw [rk.length]; exact q1.1, p, _, rfl, upd_same, fun o => ?_⟩
    rw [upd_upd]
    have kF : Kp (c.hide p nF).F H1 (upd H1 p (.frz o (.dK (mergeK [] kvs)))) := fun b u nb _ e => by
      rw [upd_ne (fun y => nb (.inr y))]
      exact e
    have g9 : Go c H (upd H1 p (.frz o (.dK (mergeK [] kvs)))) := ⟨fun b u nb tb eb => by
      have nq : b ≠ p := fun y => by
        rw [y, np] at eb
        cases eb
      rw [upd_ne nq]
      exact g1.keep b u nb tb (by rw [upd_ne nq]; exact eb), Le.hide.I _ ((s1.go g1).hput (o := .frz o (.dK (mergeK [] kvs))) (.dK e1)).inv⟩
    refine q (.ref p) (.d (.dic (mergeD [] ds))) _ g9 ⟨_, rfl, .dic nF upd_same ?_⟩ q1.2
    exact RpKv.to (c := c.hide p nF) (c' := c) rfl (fun _ z => .inl z) kF (RpKv.merge rk .nil)⟩
end
end Dv
set_option Elab.async false
set_option linter.all false
set_option maxRecDepth 100000
set_option maxHeartbeats 4000000
/-! Hc: == of flat dicts; == and != of lists of the same data, own instances among it. -/
namespace GN
open PySem PySem.SeqAt
open AutoSeq1 (wpAny_loadPart')
open MeetsSeq MeetsSeq2 MeetsSeq3 SeqRoads2
section
variable {prog : Program} {w : World} {A : Around} {R : Result → Shared → Prop}
/-- at each turn both lists stand, N long, and the two at i are equal -/
def TwoL (prog : Program) (w : World) (A : Around) (E : Value → Shared → Prop) (p q : Addr) (N : Nat) (J : Nat → Shared → Prop) : Prop :=
  ∀ i s, J i s → ∃ (xs ys : Array Value) (m m2 : Nat) (dd dd2 : Option Addr) (sl sl2 : Array (Option Value)), s.heap.get? p = some ⟨.type "list", dd, .seq xs m, sl⟩ ∧ s.heap.get? q = some ⟨.type "list", dd2, .seq ys m2, sl2⟩ ∧ xs.size = N ∧ ys.size = N ∧
    ∀ (g1 : i < xs.size) (g2 : i < ys.size), wpAny (model prog w) A.in1 (eqBool xs[i] ys[i]) (fun r s' => r = true ∧ J (i + 1) s') E s
theorem loopN (p q : Addr) (N : Nat) (J : Nat → Shared → Prop) (hl : TwoL prog w A (fun e s' => R (.error e) s') p q N J) (fin : ∀ s, J N s → R (.ok (.ret (.bool false))) s) (k : Nat) :
    ∀ i : Nat, N - i = k → i ≤ N → ∀ s, J i s → wpAny (model prog w) A.in1 (Builtin.«list.__eq__.loop» ⟨[.ref p, .ref q, rawInt i, rawInt 3], []⟩) (GQ.FinOf prog w A R) (fun e s' => R (.error e) s') s := by
  induction k with
  | zero =>
    intro i hk hi s h
    obtain ⟨xs, ys, m, m2, dd, dd2, sl, sl2, a1, a2, z1, z2, _⟩ := hl _ _ h
    have ei : i = N := by omega
    have hR : R (.ok (.ret (.bool false))) s := fin s (ei ▸ h)
    obtain ⟨hp, g, d, tk, os⟩ := s
    wp_walk using wpAny_loadPart' a1, wpAny_loadPart' a2
    have n1 : xs[((i : Nat) : Int).toNat]? = none := by simp; omega
    have n2 : ys[((i : Nat) : Int).toNat]? = none := by simp; omega
    rw [n1, n2]
    wp_walk using wpAny_loadPart' a1, wpAny_loadPart' a2
    show R (.ok (.ret (.bool (xs.size != ys.size)))) _
    rw [z1, z2]
    simpa using hR
  | succ k ih =>
    intro i hk hi s h
    obtain ⟨xs, ys, m, m2, dd, dd2, sl, sl2, a1, a2, z1, z2, turn⟩ := hl _ _ h
    have l1 : i < xs.size := by omega
    have l2 : i < ys.size := by omega
    have ht := turn l1 l2
    obtain ⟨hp, g, d, tk, os⟩ := s
    wp_walk using wpAny_loadPart' a1, wpAny_loadPart' a2
    have n1 : xs[((i : Nat) : Int).toNat]? = some xs[i] := by simp [l1]
    have n2 : ys[((i : Nat) : Int).toNat]? = some ys[i] := by simp [l2]
    have hc : ((i : Int) + 1) = ((i + 1 : Nat) : Int) := by omega
    rw [n1, n2]
    refine wpAny_bind (wpAny_mono ht (fun r s2 q2 => ?_) fun _ _ x => x)
    obtain ⟨hr, q2⟩ := q2
    subst hr
    have again := ih (i + 1) (by omega) (by omega) s2 q2
    obtain ⟨hp2, g2, d2, tk2, os2⟩ := s2
    wp_walk
    rw [hc]
    exact ⟨plainId_quiet plain_eq_loop _, codeAny_builtin entry_eq_loop (by rw [Around.under_plainId plain_eq_loop _]; exact again)⟩
theorem listN (p q : Addr) (N : Nat) (J : Nat → Shared → Prop) (hl : TwoL prog w A (fun e s' => R (.error e) s') p q N J) (fin : ∀ s, J N s → R (.ok (.ret (.bool false))) s) {s : Shared} (h : J 0 s) :
    wpAny (model prog w) A.in1 (Builtin.«list.__ne__» ⟨[.ref p, .ref q], []⟩) (GQ.FinOf prog w A R) (fun e s' => R (.error e) s') s := by
  obtain ⟨xs, ys, m, m2, dd, dd2, sl, sl2, a1, a2, z1, z2, _⟩ := hl _ _ h
  have again := loopN (A := A) (R := R) p q N J hl fin _ 0 rfl (Nat.zero_le _) s h
  obtain ⟨hp, g, d, tk, os⟩ := s
  have f3 := AutoSeq1.sub_list_list
  have hne : ¬ (xs.size != ys.size) = true := by simp [z1, z2]
  wp_walk using wpAny_loadPart' a1, wpAny_loadPart' a2
  exact ⟨plainId_quiet plain_eq_loop _, codeAny_builtin entry_eq_loop (by rw [Around.under_plainId plain_eq_loop _]; exact again)⟩
end
section
variable {prog : Program} {w : World} {A : Around} {E : Value → Shared → Prop} {s : Shared}
theorem rc_listN {p q : Addr} {N : Nat} {Q : Value → Shared → Prop} (hu : A.units < cLine) (J : Nat → Shared → Prop) (hl : TwoL prog w A E p q N J) (fin : ∀ s, J N s → Q (.bool false) s) (h : J 0 s) : wpAny (model prog w) A (richCompare .NotEq (.ref p) (.ref q)) Q E s := by
  obtain ⟨xs, ys, m, m2, dd, dd2, sl, sl2, a1, a2, _, _, _⟩ := hl _ _ h
  refine wpAny_richCompare_same_room (op := .NotEq) ⟨_, a1, rfl⟩ ⟨_, a2, rfl⟩ F.slot_list_ne (GQ.call_here F.slot_list_ne ⟨_, a1, rfl⟩ F.entry_list_ne (F.args_list_ne_2 _ _) ?_) hu
  exact listN (R := wants (fun v s' => v ≠ .notImplemented ∧ Q v s') E) p q N J hl (fun s' q => ⟨(fun x => nomatch x), fin s' q⟩) h
end
end GN
namespace Dv
open PySem L2
/-! ### data that is equal to itself -/
def nodupK : List (Key × D) → Bool
  | [] => true
  | p :: r => !(r.any fun q => decide (q.1 = p.1)) && nodupK r
theorem look_mem : ∀ {kvs : List (Key × D)}, nodupK kvs = true → ∀ p ∈ kvs, lookK kvs p.1 = some p.2
  | [], _, p, h => nomatch h
  | q :: r, hn, p, h => by
    unfold nodupK at hn
    obtain ⟨h1, h2⟩ := Bool.and_eq_true_iff.mp hn
    rcases List.mem_cons.mp h with e | e
    · subst e
      simp [lookK, List.find?_cons]
    · have ne : ¬ q.1 = p.1 := fun z => by
        have : (r.any fun x => decide (x.1 = q.1)) = true := List.any_eq_true.mpr ⟨p, e, by simp [z]⟩
        rw [this] at h1
        cases h1
      have z := look_mem h2 p e
      simp only [lookK, List.find?_cons, decide_eq_true_eq] at z ⊢
      rw [decide_eq_false ne]
      exact z
def okS : Nat → D → Bool
  | 0, _ => false
  | _ + 1, .non => true
  | _ + 1, .bl _ => true
  | _ + 1, .int _ => true
  | _ + 1, .str _ => true
  | n + 1, .lst xs => xs.all (okS n)
  | n + 1, .tup xs => xs.all (okS n)
  | n + 1, .dic kvs => nodupK kvs && kvs.all fun p => okS n p.2
  | _ + 1, _ => false
abbrev SamP (P : Program) (w : World) (A : Around) (s : Shared) (c : Cfg) (H : Hp) (x : D) : Prop := ∀ (v u : V) (v' u' : Value), Rp c H v x → Rp c H u x → RelV v v' → RelV u u' → SeqAt.EqP P w A s v' u' true
theorem items_same {P : Program} {w : World} {A : Around} {s : Shared} {c : Cfg} {H : Hp} : ∀ {xs : List D}, (∀ x ∈ xs, SamP P w A s c H x) → ∀ {vs us : List V}, RpAll c H vs xs → RpAll c H us xs → ∀ {vs' us' : List Value}, Vals vs vs' → Vals us us' →
    ∀ j (h1 : j < vs'.length) (h2 : j < us'.length), SeqAt.EqP P w A s vs'[j] us'[j] true
  | _, ih, _, _, .nil, .nil, _, _, r1, _, j, h1, _ => by
    cases r1
    exact absurd h1 (Nat.not_lt_zero j)
  | _, ih, _, _, .cons a b, .cons a' b', _, _, r1, r2, j, h1, h2 => by
    cases r1 with
    | cons p1 q1 =>
      cases r2 with
      | cons p2 q2 =>
        cases j with
        | zero => exact ih _ List.mem_cons_self _ _ _ _ a a' p1 p2
        | succ j => exact items_same (fun x hx => ih x (List.mem_cons_of_mem _ hx)) b b' q1 q2 j (Nat.lt_of_succ_lt_succ h1) (Nat.lt_of_succ_lt_succ h2)
theorem hits_same {P : Program} {w : World} {A : Around} {s : Shared} {c : Cfg} {H : Hp} {full : List (Key × D)} {ls : List (Key × V)} {vb : List (Key × Value)} (rb : KV ls vb) (rl : RpKv c H ls full) :
    ∀ (ds : List (Key × D)), (∀ p ∈ ds, lookK full p.1 = some p.2) → (∀ p ∈ ds, SamP P w A s c H p.2) → ∀ (ks : List (Key × V)) (va : List (Key × Value)), RpKv c H ks ds → KV ks va → PySem.W.KeqHitsP P w A s vb va true := by
  intro ds
  induction ds with
  | nil =>
    intro _ _ ks va h r
    cases h
    unfold KV at r
    cases r
    exact .nil
  | cons p0 ds IH =>
    intro hl ih ks va h r
    cases h with
    | @cons n v d vs _ a b =>
      unfold KV at r
      cases r with
      | @cons p q ps qs h t =>
        obtain ⟨key, u⟩ := q
        obtain ⟨h1, h2⟩ := h
        have h1' : n = key := h1
        subst h1'
        have e0 := hl (n, d) List.mem_cons_self
        rcases rl.val n with ⟨_, z⟩ | ⟨y, d', e1, e2, ry⟩
        · rw [e0] at z
          cases z
        · rw [e0] at e2
          cases e2
          have rr : RelO (some y) (valueAt vb n) := by rw [← e1]; exact rb.val n
          obtain ⟨y', hy, ry'⟩ := rr.some_of
          show PySem.W.KeqHitsP P w A s vb ((n, u) :: qs) (true && true)
          exact .hit hy (ih (n, d) List.mem_cons_self _ _ _ _ a ry h2 ry') (IH (fun p hp => hl p (List.mem_cons_of_mem _ hp)) (fun p hp => ih p (List.mem_cons_of_mem _ hp)) _ _ b t)
section
variable {X : Cx} {pins : List (Addr × Obj)} {σ : St} {H : Hp} {s : Shared} {c : Cfg}
/-- richCompare of two lists, tuples, dicts of the same data -/
theorem sameR (I : Inv X pins σ H s) (eK : c.K = X.K) {n : Nat} {A : Around} (hu : A.units < cLine) (ih : ∀ x, okS n x = true → SamP X.prog X.w A.in1 s c H x) {x : D} (ok : okS (n + 1) x = true) {a b : Addr} (r : Rp c H (.ref a) x) (r2 : Rp c H (.ref b) x) (E Q : Value → Shared → Prop) (q : Q (.bool true) s) :
    wpAny (model X.prog X.w) A (richCompare .Eq (.ref a) (.ref b)) Q E s := by
  cases r with
  | lst n1 h1 ra =>
    cases r2 with
    | lst n2 h2 rb =>
      obtain ⟨us, r1, p1, _⟩ := I.list (.inl (.inl h1))
      obtain ⟨ws, r2, p2, _⟩ := I.list (.inl (.inl h2))
      have hsz : us.toArray.size = ws.toArray.size := by
        rw [List.size_toArray, List.size_toArray, ← r1.length, ← r2.length, ra.length, rb.length]
      have al : ∀ x ∈ _, SamP X.prog X.w A.in1 s c H x := fun x hx => ih x (List.all_eq_true.mp ok x hx)
      refine SeqAt.rcP_lists (e := fun _ => true) p1.isList p2.isList hsz hu (fun j h1 h2 => ?_) E Q ?_
      · have k := items_same al ra rb r1 r2 j (by simpa using h1) (by simpa using h2)
        simpa using k
      · rw [show ((List.range us.toArray.size).all fun _ => true) = true from List.all_eq_true.mpr fun _ _ => rfl]
        exact q
  | tup n1 ra =>
    cases r2 with
    | tup n2 rb =>
      obtain ⟨us, r1, p1, _⟩ := I.tuple (eK ▸ n1.sq)
      obtain ⟨ws, r2, p2, _⟩ := I.tuple (eK ▸ n2.sq)
      have hsz : us.toArray.size = ws.toArray.size := by
        rw [List.size_toArray, List.size_toArray, ← r1.length, ← r2.length, ra.length, rb.length]
      have al : ∀ x ∈ _, SamP X.prog X.w A.in1 s c H x := fun x hx => ih x (List.all_eq_true.mp ok x hx)
      refine GQ.rc_tupG hsz hu (fun _ s' => s' = s) p1 p2 (fun i h1 h2 s' e => ?_) (fun s' e => by rw [e]; exact q) rfl
      subst e
      have k := items_same al ra rb r1 r2 i (by simpa using h1) (by simpa using h2)
      have k' : SeqAt.EqP X.prog X.w A.in1 s' us.toArray[i] ws.toArray[i] true := by simpa using k
      exact k' E _ ⟨rfl, rfl⟩
  | @dic _ _ kds _ n1 h1 ra =>
    cases r2 with
    | dic n2 h2 rb =>
      obtain ⟨_, ya, va, wa, da⟩ := dk_rd I.hok (.inr ⟨_, h1⟩)
      obtain ⟨_, yb, vb, wb, db⟩ := dk_rd I.hok (.inr ⟨_, h2⟩)
      obtain ⟨hn, al⟩ := Bool.and_eq_true_iff.mp ok
      have al : ∀ p ∈ kds, SamP X.prog X.w A.in1 s c H p.2 := fun p hp => ih p.2 (List.all_eq_true.mp al p hp)
      refine PySem.W.rcP_dicts (knd := mixKind X.prog X.w) (r := true) ya yb da db hu (fun _ => hits_same wb rb _ (look_mem hn) al _ _ ra wa) E Q ?_
      have e : va.length = vb.length := by rw [← wa.length, ← wb.length, ra.length, rb.length]
      rw [show (va.length == vb.length && true) = true from by rw [e]; simp]
      exact q
  | scr _ _ => cases ok
  | obj _ _ _ => cases ok
  | exn _ _ _ _ _ => cases ok
theorem sameP (I : Inv X pins σ H s) (eK : c.K = X.K) : ∀ (n : Nat) (A : Around), A.units + n < cLine → ∀ x : D, okS n x = true → SamP X.prog X.w A s c H x
  | 0, _, _, x, ok => by simp [okS] at ok
  | n + 1, A, hu, x, ok => fun v u v' u' r r2 rv ru => by
    have ref : ∀ a b : Addr, v = .ref a → u = .ref b → SeqAt.EqP X.prog X.w A s v' u' true := fun a b e1 e2 => by
      subst e1 e2
      cases (show v' = Value.ref a from rv)
      cases (show u' = Value.ref b from ru)
      by_cases e : a = b
      · subst e
        exact (SeqAt.EqAt.same _).eqP
      · exact SeqAt.eqP_refs e fun E Q q => sameR I eK (by omega) (sameP I eK n A.in1 (by show A.units + 1 + n < cLine; omega)) ok r r2 E Q q
    cases r with
    | non => cases r2; exact (eqAt_same rv ru rfl).eqP
    | bl b => cases r2; exact (eqAt_same rv ru rfl).eqP
    | int b => cases r2; exact (eqAt_same rv ru rfl).eqP
    | str b => cases r2; exact (eqAt_same rv ru rfl).eqP
    | lst _ _ _ => cases r2; exact ref _ _ rfl rfl
    | tup _ _ => cases r2; exact ref _ _ rfl rfl
    | dic _ _ _ => cases r2; exact ref _ _ rfl rfl
    | scr _ _ => cases ok
    | obj _ _ _ => cases ok
    | exn _ _ _ _ _ => cases ok
end
end Dv
set_option Elab.async false
set_option linter.all false
set_option maxRecDepth 100000
set_option maxHeartbeats 4000000
/-! Hd: == and != of lists of the same data, own instances among it; == of flat dicts. -/
namespace Dv
open PySem L2
section
variable {X : Cx} {n : Nat}
/-- == inside a list gives True for two that are this data -/
def EqQ (X : Cx) (n : Nat) (x : D) : Prop := ∀ (c : Cfg) (A : Around) (pins : List (Addr × Obj)) (s : Shared) (σ : St) (H : Hp) (v u : V) (v' u' : Value), c.K = X.K → Sub X n A → Inv X pins σ H s → c.I H → Rp c H v x → Rp c H u x → RelV v v' → RelV u u' →
  wpAny (model X.prog X.w) A (eqBool v' u') (fun r s' => r = true ∧ ∃ H', Inv X pins σ H' s' ∧ Go c H H') X.xe s
theorem eqQ_ok {x : D} (ok : okS 40 x = true) : EqQ X n x := fun c A pins s σ H v u v' u' eK sb I hi r r2 rv ru =>
  sameP I eK 40 A (by have := sb.room.units; omega) x ok v u v' u' r r2 rv ru X.xe _ ⟨rfl, H, I, Go.self hi⟩
theorem eqQ_obj {Ct : Ctr} {Cl g : Addr} {fd : FuncData} {ps : List Str} {fs : List (Str × D)} (cc : OwnEqC X.K Cl g) (F : FnOk X.prog X.w X.K X.mg X.base (L2.CX X.prog X.w) n g fd ps (Ct.sp X.K)) (hb : Binds X.K fd ps []) (hn : Ct.n = 2)
    (hf : Ct.f [.d (.obj Cl fs), .d (.obj Cl fs)] (fun s => s = .d (.bl true)) (fun _ _ => False)) : EqQ X n (.obj Cl fs) := fun c A pins s σ H v u v' u' eK sb I hi r r2 rv ru => by
  have pr : Paired (fun v s => SlOk c H (some v) s) [v, u] [.d (.obj Cl fs), .d (.obj Cl fs)] := .cons ⟨_, rfl, r⟩ (.cons ⟨_, rfl, r2⟩ .nil)
  cases r with
  | @obj a _ dx fv _ n1 ha rf =>
    cases r2 with
    | @obj b _ dy gv _ n2 hb' rg =>
      cases (show v' = Value.ref a from rv)
      cases (show u' = Value.ref b from ru)
      by_cases e : a = b
      · subst e
        exact SeqAt.EqAt.same (A := A) (s := s) (.ref a) X.prog X.w X.xe _ ⟨rfl, H, I, Go.self hi⟩
      · refine GQ.eqBool_refG e ?_
        obtain ⟨mA, J, _⟩ := ins_get I.hok ha
        obtain ⟨mB, J', _⟩ := ins_get I.hok hb'
        obtain ⟨od, J, _⟩ := J.look
        obtain ⟨od', J', _⟩ := J'.look
        obtain ⟨m, hF⟩ := I.fr
        refine PySem.W.cmp_K (op := .Eq) (tb := .ref Cl) sb.room.units0 hF I.ok.mod.kin J J'.type (by simp [PySem.W.notFirst]) cc.eq cc.fn ?_
        have hsp : Ct.sp X.K [.ref a, .ref b] H (fun v H' => v = .bl true ∧ Go c H H') E0 := ⟨c, _, eK, hi, pr, hn.symm, Ct.mono (fun s es v H' g r => by
          subst es
          exact ⟨sl_bl r, g⟩) (fun _ _ z => z.elim) hf⟩
        have e0 : Env0 X.prog X.w X.K X.mg X.base A X.stack s H := by
          have e := I.env0
          exact ⟨by rw [sb.fr]; exact e.frames, e.mod, e.bs, e.bsz, e.funs, e.frf, e.hok, e.bare⟩
        have hl := F.len _ _ _ _ hsp
        have r2 : Vals [V.ref a, V.ref b] [Value.ref a, Value.ref b] := .cons rfl (.cons rfl .nil)
        refine wpAny_call (codeAny_mono (F.run A X.stack s H ⟨[.ref a, .ref b], []⟩ [.ref a, .ref b] [.ref a, .ref b] _ E0 sb.room e0 (by
          have := hb s [.ref a, .ref b] I.kIn (by simpa using hl)
          simpa using this) r2 hsp) fun r s' hq => ?_)
        cases r with
        | error e => exact passL pins σ H s e s' I hq
        | ok fl =>
          cases fl with
          | ret w =>
            obtain ⟨z, H', I', rz, ez, ex⟩ := I.after hq
            subst ez
            cases rz
            exact ⟨true, rfl, rfl, H', I', ex⟩
          | next => exact False.elim hq
          | brk => exact False.elim hq
          | cont => exact False.elim hq
/-! ### [..] == [..], [..] != [..], of the same data -/
section
variable {W : WX} {xw : XW} {pos : Pos} {a b : Expr} {ta tb : TE} {da db : DE} {okO : D → Prop}
end
/-! ### == of dicts of flat values -/
section
variable {W : WX} {xw : XW} {pos : Pos} {a b : Expr} {ta tb : TE} {da db : DE}
end
end
end Dv
set_option Elab.async false
set_option linter.all false
set_option maxRecDepth 100000
set_option maxHeartbeats 4000000
/-! He: own classes: o[i], properties, | and &; order of pairs (truth, number). -/
namespace L2
open PySem PySem.Spec PyProof.Rows
section
variable {X : Cx} {CX : CXT} {k : Nat} {g C : Addr} {fd : FuncData} {ps : List Str} {sp : Sp} {E : St → XK} {o i : Expr} {ta ti : TE} {pos : Pos}
structure SubOf (K : PySem.W.Frag) (C g : Addr) : Prop where
  at_ : PySem.W.findIn K (.ref C) "__getitem__" = some (some (.ref g))
  fi : PySem.W.fnIn K g = true
  fn : PySem.W.isFn K (.ref g) = true
/-! ### (b, i) < (c, j) -/
end
end L2
namespace Dv
open PySem L2
section
variable {X : Cx} {W : WX} {xw : XW} {K : PySem.W.Frag} {pos : Pos}
section
variable {Ct : Ctr} {Cl g p0 : Addr} {fd : FuncData} {ps : List Str} {k : Nat} {a b : Expr} {ta tb : TE} {da db : DE} {f : Str}
/-! ### o[i] -/
/-! ### o.f, f a property -/
end
/-! ### | and & -/
/-! ### (b, i) < (c, j) -/
end
end Dv
set_option Elab.async false
set_option linter.all false
set_option maxRecDepth 100000
set_option maxHeartbeats 4000000
/-! Hf: {**d, k: v}; dict([(k, v), ..]); len(d); isinstance of what is borrowed. -/
namespace MgX
open PySem PySem.Spec PyProof.Rows
section
variable {prog : Program} {w : World} {K : Type} [DecidableEq K] {knd : KeyKind prog w K} {A : Around} {E : Value → Shared → Prop} {s : Shared}
end
end MgX
namespace L2
open PySem PySem.Spec PyProof.Rows
section
variable {X : Cx} {pos : Pos} {e k v : Expr} {te : TE} {trs : List (TE × TE)}
end
end L2
namespace Dv
open PySem L2
section
variable {X : Cx} {W : WX} {xw : XW} {K : PySem.W.Frag} {pos : Pos}
/-! ### dict([(k, v), ..]) -/
/-! ### len(d) -/
/-! ### isinstance of what is borrowed -/
end
end Dv
set_option Elab.async false
set_option linter.all false
set_option maxRecDepth 100000
set_option maxHeartbeats 4000000
/-! Hg: a dict of one's own handed to a maker that keeps nothing of it. -/
namespace Dv
open PySem L2
section
variable {X : Cx} {W : WX} {xw : XW} {K : PySem.W.Frag} {pos : Pos}
end
end Dv
set_option Elab.async false
set_option linter.all false
set_option maxRecDepth 100000
set_option maxHeartbeats 4000000
/-! Hi: o.m(..), o an instance that is data; defs that return a comprehension; o.m().append(None). -/
namespace L2
open PySem PySem.Spec PyProof.Rows
section
variable {X : Cx} {CX : CXT} {k : Nat} {f C : Addr} {sp : Sp} {E : St → XK} {m : Str} {pos apos : Pos} {e o : Expr} {es : List Expr} {t : TA} {ta : TE} {pl : Sem Bool}
end
end L2
namespace Dv
open PySem PySem.Spec PyProof.Rows L2
section
variable {X : Cx} {W : WX} {xw : XW} {K : PySem.W.Frag} {pos : Pos} {Ct : Ctr} {Cl f : Addr} {fd : FuncData} {ps : List Str} {k : Nat} {m : Str} {apos : Pos} {o e : Expr} {es : List Expr} {to : TE} {ta : TA} {dO : DE} {da : DA} {pl : Sem Bool}
/-! ### a def whose last statement returns a comprehension -/
/-! ### o.m().append(None) -/
end
end Dv
set_option Elab.async false
set_option linter.all false
set_option maxRecDepth 100000
set_option maxHeartbeats 4000000
/-! Hj: list(zip(a, b)), list(d.values()), tuple(d). -/
namespace ZlX
open PySem PySem.Spec PyProof.Rows
theorem no_len : typeLookup (.type "zip") "__len__" = pure none := am_miss_of_fast (by decide +kernel)
theorem no_hint : typeLookup (.type "zip") "__length_hint__" = pure none := am_miss_of_fast (by decide +kernel)
section
variable {prog : Program} {w : World} {A : Around} {E : Value → Shared → Prop} {s : Shared} {z TI TO i1 i2 l1 l2 S : Addr} {xs ys : Array Value}
/-- a zip behind i items, the list at S apart from it -/
def At (h : Heap) (z TI TO i1 i2 l1 l2 S : Addr) (xs ys : Array Value) (i : Nat) : Prop :=
  IsPair h TI (.ref i1) (.ref i2) ∧ h.IsListIter i1 l1 i ∧ h.IsListIter i2 l2 i ∧ h.IsList l1 xs ∧ h.IsList l2 ys ∧
    ((IsZip h z TI TO .none ∧ ∃ a b, IsPair h TO a b) ∨ ∃ T f oT, IsZipHeld h z TI TO T f ∧ h.get? T = some oT ∧ T ≠ z ∧ T ≠ i1 ∧ T ≠ i2 ∧ T ≠ S)
/-- S lies apart -/
structure Off (z TI TO i1 i2 l1 l2 S : Addr) : Prop where
  z : z ≠ S
  TI : TI ≠ S
  TO : TO ≠ S
  i1 : i1 ≠ S
  i2 : i2 ≠ S
  l1 : l1 ≠ S
  l2 : l2 ≠ S
theorem At.put {h h' : Heap} {i : Nat} (x : At h z TI TO i1 i2 l1 l2 S xs ys i) (o : Off z TI TO i1 i2 l1 l2 S) (hk : ∀ b q, b ≠ S → h.get? b = some q → h'.get? b = some q) : At h' z TI TO i1 i2 l1 l2 S xs ys i := by
  obtain ⟨a1, a2, a3, a4, a5, a6⟩ := x
  refine ⟨hk _ _ o.TI a1, a2.at fun q e => hk _ q o.i1 e, a3.at fun q e => hk _ q o.i2 e, a4.at fun q e => hk _ q o.l1 e, a5.at fun q e => hk _ q o.l2 e, ?_⟩
  rcases a6 with ⟨b1, u, v, b2⟩ | ⟨T, f, oT, b1, b2, b3, b4, b5, b6⟩
  · exact .inl ⟨hk _ _ o.z b1, u, v, hk _ _ o.TO b2⟩
  · exact .inr ⟨T, f, oT, hk _ _ o.z b1, hk _ _ b6 b2, b3, b4, b5, b6⟩
def Wr (z TO i1 i2 b : Addr) : Prop := b = z ∨ b = TO ∨ b = i1 ∨ b = i2
theorem At.next {i : Nat} {x y : Value} {Q : Option Value → Shared → Prop} (D : ZipApart z TI TO i1 i2 l1 l2) (st : At s.heap z TI TO i1 i2 l1 l2 S xs ys i) (hS : S < s.heap.objs.size) (ex : xs[i]? = some x) (ey : ys[i]? = some y)
    (q : ∀ h', At h' z TI TO i1 i2 l1 l2 S xs ys (i + 1) → IsPair h' s.heap.objs.size x y → (∀ b o, ¬ Wr z TO i1 i2 b → s.heap.get? b = some o → h'.get? b = some o) → Q (some (.ref s.heap.objs.size)) { s with heap := h' }) :
    wpAny (model prog w) A (pyNext (.ref z)) Q E s := by
  obtain ⟨a1, a2, a3, a4, a5, a6⟩ := st
  have far : ∀ {b o}, s.heap.get? b = some o → s.heap.objs.size ≠ b := fun e => Nat.ne_of_gt (Heap.lt_size e)
  have f1 : s.heap.objs.size ≠ i1 := by
    obtain ⟨_, e, _⟩ := a2
    exact far e
  have f2 : s.heap.objs.size ≠ i2 := by
    obtain ⟨_, e, _⟩ := a3
    exact far e
  rcases a6 with ⟨b1, u, v, b2⟩ | ⟨T, f, oT, b1, b2, b3, b4, b5, b6⟩
  · refine wpAny_pyNext_zip_item D b1 a1 b2 a2 a3 a4 a5 ex ey fun h' c1 c2 c3 c4 c5 c6 k => q h' ⟨k _ _ D.TIz D.TITO D.TIi1 D.TIi2 a1, c3, c4, a4.at fun o e => k _ o D.l1z D.l1TO D.l1i1 D.l1i2 e, a5.at fun o e => k _ o D.l2z D.l2TO D.l2i1 D.l2i2 e, .inr ⟨_, false, _, c1, c5, far b1, f1, f2, Nat.ne_of_gt hS⟩⟩ c5 fun b o nb e =>
      k b o (fun y => nb (.inl y)) (fun y => nb (.inr (.inl y))) (fun y => nb (.inr (.inr (.inl y)))) (fun y => nb (.inr (.inr (.inr y)))) e
  · refine wpAny_pyNext_zip_item_held D b1 b2 a1 a2 a3 a4 a5 ex ey fun h' c1 c3 c4 c5 c6 k => q h' ⟨k _ _ D.TIz D.TIi1 D.TIi2 a1, c3, c4, a4.at fun o e => k _ o D.l1z D.l1i1 D.l1i2 e, a5.at fun o e => k _ o D.l2z D.l2i1 D.l2i2 e, .inr ⟨T, true, oT, c1, k _ _ b3 b4 b5 b2, b3, b4, b5, b6⟩⟩ c5 fun b o nb e =>
      k b o (fun y => nb (.inl y)) (fun y => nb (.inr (.inr (.inl y)))) (fun y => nb (.inr (.inr (.inr y)))) e
theorem At.stop {i : Nat} {Q : Option Value → Shared → Prop} (hh : A.handled = none) (D : ZipApart z TI TO i1 i2 l1 l2) (st : At s.heap z TI TO i1 i2 l1 l2 S xs ys i) (he : xs[i]? = none ∨ ys[i]? = none)
    (q : ∀ h', (∀ b o, ¬ Wr z TO i1 i2 b → s.heap.get? b = some o → h'.get? b = some o) → Q none { s with heap := h' }) : wpAny (model prog w) A (pyNext (.ref z)) Q E s := by
  obtain ⟨a1, a2, a3, a4, a5, a6⟩ := st
  rcases a6 with ⟨b1, u, v, b2⟩ | ⟨T, f, oT, b1, b2, b3, b4, b5, b6⟩
  · exact wpAny_pyNext_zip_end hh D b1 a1 b2 a2 a3 a4 a5 he fun h' k => q h' fun b o nb e => k b o (fun y => nb (.inl y)) (fun y => nb (.inr (.inl y))) (fun y => nb (.inr (.inr (.inl y)))) (fun y => nb (.inr (.inr (.inr y)))) e
  · exact wpAny_pyNext_zip_end_held hh D b1 b2 a1 a2 a3 a4 a5 he fun h' k => q h' fun b o nb e => k b o (fun y => nb (.inl y)) (fun y => nb (.inr (.inr (.inl y)))) (fun y => nb (.inr (.inr (.inr y)))) e
/-- the pairs given out so far, at as -/
structure Got (xs ys : Array Value) (lo : Addr) (h : Heap) (as : List Addr) : Prop where
  rise : as.Pairwise fun a b => a < b
  low : ∀ a ∈ as, lo < a
  at_ : ∀ (j : Nat) (a : Addr), as[j]? = some a → ∃ x y, xs[j]? = some x ∧ ys[j]? = some y ∧ IsPair h a x y
theorem Got.lt {lo : Addr} {h : Heap} {as : List Addr} (g : Got xs ys lo h as) {a : Addr} (m : a ∈ as) : a < h.objs.size := by
  obtain ⟨j, hj⟩ := List.mem_iff_getElem?.mp m
  obtain ⟨_, _, _, _, e⟩ := g.at_ j a hj
  exact Heap.lt_size e
theorem Got.keep {lo : Addr} {h h' : Heap} {as : List Addr} (g : Got xs ys lo h as) (k : ∀ a o, a ∈ as → h.get? a = some o → h'.get? a = some o) : Got xs ys lo h' as := ⟨g.rise, g.low, fun j a hj => by
  obtain ⟨x, y, e1, e2, e3⟩ := g.at_ j a hj
  exact ⟨x, y, e1, e2, k a _ (List.mem_of_getElem? hj) e3⟩⟩
theorem Got.more {lo : Addr} {h : Heap} {as : List Addr} {p : Addr} {x y : Value} (g : Got xs ys lo h as) (hlo : lo < p) (hp : ∀ a ∈ as, a < p) (ex : xs[as.length]? = some x) (ey : ys[as.length]? = some y) (e : IsPair h p x y) : Got xs ys lo h (as ++ [p]) := by
  refine ⟨List.pairwise_append.mpr ⟨g.rise, List.pairwise_singleton _ _, fun a ha b hb => ?_⟩, fun a ha => ?_, fun j a hj => ?_⟩
  · cases List.mem_singleton.mp hb
    exact hp a ha
  · rcases List.mem_append.mp ha with m | m
    · exact g.low a m
    · cases List.mem_singleton.mp m
      exact hlo
  · by_cases h1 : j < as.length
    · rw [List.getElem?_append_left h1] at hj
      exact g.at_ j a hj
    · rw [List.getElem?_append_right (Nat.le_of_not_lt h1)] at hj
      have e0 : j - as.length = 0 := by
        cases q : j - as.length with
        | zero => rfl
        | succ n =>
          rw [q] at hj
          cases hj
      rw [e0] at hj
      cases hj
      have ej : j = as.length := by omega
      subst ej
      exact ⟨x, y, ex, ey, e⟩
theorem loop {R : Result → Shared → Prop} {n : Nat} {lo : Addr} (hh : A.handled = none) (D : ZipApart z TI TO i1 i2 l1 l2) (O : Off z TI TO i1 i2 l1 l2 S) (hx : xs.size = n) (hy : ys.size = n) (hn : n ≤ sizeLine) (res : Value) {h0 : Heap} (hlo : lo < h0.objs.size)
    (hwr : ∀ b, Wr z TO i1 i2 b → b < h0.objs.size) (hS0 : S < h0.objs.size)
    (q : ∀ h' c acc as, (∀ b o, b ≠ S → ¬ Wr z TO i1 i2 b → h0.get? b = some o → h'.get? b = some o) → h'.get? S = some { cls := .type "list", dict := none, data := .seq acc c, slots := #[] } → acc.toList = as.map Value.ref → as.length = n → Got xs ys lo h' as → (∀ a ∈ as, h0.objs.size ≤ a) →
      R (.ok (.ret res)) { s with heap := h' }) :
    ∀ (k i : Nat) (h : Heap) (c : Nat) (acc : Array Value) (as : List Addr), n - i = k → i ≤ n → At h z TI TO i1 i2 l1 l2 S xs ys i → (∀ b o, b ≠ S → ¬ Wr z TO i1 i2 b → h0.get? b = some o → h.get? b = some o) → h.get? S = some { cls := .type "list", dict := none, data := .seq acc c, slots := #[] } →
      acc.toList = as.map Value.ref → as.length = i → Got xs ys lo h as → (∀ a ∈ as, h0.objs.size ≤ a) → h0.objs.size ≤ h.objs.size →
      codeAny (model prog w) A (.builtin "list.extend.loop" ⟨[.ref S, .ref z, res], []⟩) R { s with heap := h } := by
  have nS : ¬ Wr z TO i1 i2 S := fun y => by
    rcases y with y | y | y | y
    · exact O.z y.symm
    · exact O.TO y.symm
    · exact O.i1 y.symm
    · exact O.i2 y.symm
  intro k
  induction k with
  | zero =>
    intro i h c acc as hk hi st kp hS hacc hl g ha hsz
    refine codeAny_builtin PySem.F.entry_extend_loop ?_
    rw [Around.under_plainId PySem.F.plain_extend_loop _]
    show wpAny _ A.in1 (pyNext (.ref z) >>= _) _ _ _
    have ei : i = n := by omega
    refine wpAny_bind (At.stop (s := { s with heap := h }) (A := A.in1) hh D st (.inl (Array.getElem?_eq_none (by omega))) fun h' he => wpAny_pure ?_)
    exact q h' c acc as (fun b o b1 b2 e => he b o b2 (kp b o b1 b2 e)) (he S _ nS hS) hacc (by omega) (g.keep fun a o m e => he a o (fun y => absurd (hwr a y) (Nat.not_lt.mpr (ha a m))) e) ha
  | succ k ih =>
    intro i h c acc as hk hi st kp hS hacc hl g ha hsz
    have hlt : i < n := by omega
    have ex : xs[i]? = some xs[i] := Array.getElem?_eq_getElem (by omega)
    have ey : ys[i]? = some ys[i] := Array.getElem?_eq_getElem (by omega)
    refine codeAny_builtin PySem.F.entry_extend_loop ?_
    rw [Around.under_plainId PySem.F.plain_extend_loop _]
    show wpAny _ A.in1 (pyNext (.ref z) >>= _) _ _ _
    refine wpAny_bind (At.next (s := { s with heap := h }) (S := S) D st (Heap.lt_size hS) ex ey fun h' st' ep kq => ?_)
    dsimp only at ep kq ⊢
    have hS' := kq S _ nS hS
    have upd1 : ∀ b o, b ≠ S → h'.get? b = some o → (h'.update S (Obj.mapSeq (·.push (Value.ref h.objs.size)))).get? b = some o := fun b o hb e => (Heap.get?_update_other _ _ (Ne.symm hb)).trans e
    have pS : h.objs.size ≠ S := Nat.ne_of_gt (Heap.lt_size hS)
    have la : acc.size = i := by rw [← Array.length_toList, hacc, List.length_map, hl]
    have ea : ∀ a ∈ as, a < h.objs.size := fun a m => g.lt m
    have nwa : ∀ a ∈ as, ¬ Wr z TO i1 i2 a := fun a m y => absurd (hwr a y) (Nat.not_lt.mpr (ha a m))
    have neS : ∀ a ∈ as, a ≠ S := fun a m y => absurd (y ▸ ha a m) (Nat.not_le.mpr hS0)
    show wpAny _ A.in1 (updateSeq S (·.push (Value.ref h.objs.size)) >>= _) _ _ _
    refine wpAny_bind ?_
    refine wpAny_updateSeq hS' rfl (wpAny_pure ⟨plainId_quiet PySem.F.plain_extend_loop _, ih (i + 1) _ _ (acc.push (Value.ref h.objs.size)) (as ++ [h.objs.size]) (by omega) hlt (st'.put O upd1) (fun b o b1 b2 e => upd1 b o b1 (kq b o b2 (kp b o b1 b2 e))) (Heap.get?_update_self _ hS' rfl) (by rw [Array.toList_push, hacc, List.map_append]; rfl) (by rw [List.length_append, hl]; rfl) ?_ ?_ ?_⟩) (by rw [la]; omega) (by show (acc.push (Value.ref h.objs.size)).size ≤ sizeLine + 1; rw [Array.size_push, la]; omega)
    · refine (g.keep fun a o m e => upd1 a o (neS a m) (kq a o (nwa a m) e)).more ?_ ea (by rw [hl]; exact ex) (by rw [hl]; exact ey) (upd1 _ _ pS ep)
      exact Nat.lt_of_lt_of_le hlo hsz
    · intro a m
      rcases List.mem_append.mp m with m | m
      · exact ha a m
      · cases List.mem_singleton.mp m
        exact hsz
    · have e8 : (h'.update S (Obj.mapSeq (·.push (Value.ref h.objs.size)))).get? h.objs.size = _ := upd1 _ _ pS ep
      exact Nat.le_of_lt (Nat.lt_of_le_of_lt hsz (Heap.lt_size e8))
theorem hint (hT : s.TypeIs (.ref z) "zip") {Q : Bool → Shared → Prop} (q : Q true s) : wpAny (model prog w) A (Builtin.List.listLengthHint (.ref z)) Q E s := by
  unfold Builtin.List.listLengthHint
  refine wpAny_bind (wpAny_specialOf hT no_len ?_)
  show wpAny _ A (specialOf (Value.ref z) (Str.ofString "__length_hint__") >>= _) _ _ _
  exact wpAny_bind (wpAny_specialOf hT no_hint (wpAny_pure q))
/-- what all of a zip's cells are at the beginning -/
def Zip0 (h : Heap) (z TI TO i1 i2 l1 l2 : Addr) (xs ys : Array Value) : Prop := IsZip h z TI TO .none ∧ IsPair h TI (.ref i1) (.ref i2) ∧ (∃ a b, IsPair h TO a b) ∧ h.IsListIter i1 l1 0 ∧ h.IsListIter i2 l2 0 ∧ h.IsList l1 xs ∧ h.IsList l2 ys
theorem Zip0.keep {h h' : Heap} (x : Zip0 h z TI TO i1 i2 l1 l2 xs ys) (k : ∀ b o, b ∈ [z, TI, TO, i1, i2, l1, l2] → h.get? b = some o → h'.get? b = some o) : Zip0 h' z TI TO i1 i2 l1 l2 xs ys := by
  obtain ⟨a1, a2, ⟨u, v, a3⟩, a4, a5, a6, a7⟩ := x
  exact ⟨k _ _ (by simp) a1, k _ _ (by simp) a2, ⟨u, v, k _ _ (by simp) a3⟩, a4.at fun o e => k _ o (by simp) e, a5.at fun o e => k _ o (by simp) e, a6.at fun o e => k _ o (by simp) e, a7.at fun o e => k _ o (by simp) e⟩
theorem Zip0.lt {h : Heap} (x : Zip0 h z TI TO i1 i2 l1 l2 xs ys) : ∀ b ∈ [z, TI, TO, i1, i2, l1, l2], b < h.objs.size := by
  obtain ⟨a1, a2, ⟨u, v, a3⟩, ⟨_, a4, _⟩, ⟨_, a5, _⟩, ⟨_, a6, _⟩, ⟨_, a7, _⟩⟩ := x
  intro b m
  simp only [List.mem_cons, List.not_mem_nil, or_false] at m
  rcases m with rfl | rfl | rfl | rfl | rfl | rfl | rfl
  · exact Heap.lt_size a1
  · exact Heap.lt_size a2
  · exact Heap.lt_size a3
  · exact Heap.lt_size a4
  · exact Heap.lt_size a5
  · exact Heap.lt_size a6
  · exact Heap.lt_size a7
theorem off_of (h : ∀ b ∈ [z, TI, TO, i1, i2, l1, l2], b ≠ S) : Off z TI TO i1 i2 l1 l2 S := ⟨h _ (by simp), h _ (by simp), h _ (by simp), h _ (by simp), h _ (by simp), h _ (by simp), h _ (by simp)⟩
theorem filled {R : Result → Shared → Prop} {n : Nat} (hh : A.handled = none) (D : ZipApart z TI TO i1 i2 l1 l2) (x : Zip0 s.heap z TI TO i1 i2 l1 l2 xs ys) (hx : xs.size = n) (hy : ys.size = n) (hn : n ≤ sizeLine) (ne : ∀ b ∈ [z, TI, TO, i1, i2, l1, l2], b ≠ S) (hS : s.heap.get? S = some { cls := .type "list", data := .seq #[] })
    (q : ∀ h' c acc as, (∀ b o, b ≠ S → ¬ Wr z TO i1 i2 b → s.heap.get? b = some o → h'.get? b = some o) → h'.get? S = some { cls := .type "list", dict := none, data := .seq acc c, slots := #[] } → acc.toList = as.map Value.ref → as.length = n → Got xs ys S h' as → R (.ok (.ret .none)) { s with heap := h' }) :
    wpAny (model prog w) A.in1 (Builtin.«list.__init__» ⟨[.ref S, .ref z], []⟩)
      (fun fin s' => match fin with | .done f => R (.ok f) s' | .again c' => c'.quiet = true ∧ codeAny (model prog w) A c' R s') (fun e s' => R (.error e) s') s := by
  show wpAny _ _ (do let gone ← Builtin.List.listItems (.ref S); Builtin.List.listUpdate (.ref S) (fun _ => #[]); letGo gone.toList.reverse; Builtin.List.listExtendWith (.ref S) (.ref z) .none) _ _ s
  refine wpAny_bind ?_
  unfold Builtin.List.listItems
  refine wpAny_bind (wpAny_seqItems hS rfl (wpAny_pure ?_))
  show wpAny _ _ (updateSeq S (fun _ => #[]) >>= fun _ => letGo (#[] : Array Value).toList.reverse >>= fun _ => Builtin.List.listExtendWith (.ref S) (.ref z) .none) _ _ _
  refine wpAny_bind (wpAny_updateSeq hS rfl ?_)
  have hS2 := Heap.get?_update_self (Obj.mapSeq (fun _ => (#[] : Array Value))) hS rfl
  have oth : ∀ b o, b ≠ S → s.heap.get? b = some o → (s.heap.update S (Obj.mapSeq (fun _ => (#[] : Array Value)))).get? b = some o := fun b o nb e => (Heap.get?_update_other _ _ (Ne.symm nb)).trans e
  have x2 := x.keep (h' := s.heap.update S (Obj.mapSeq (fun _ => (#[] : Array Value)))) fun b o m e => oth b o (ne b m) e
  refine wpAny_bind (wpAny_letGo ?_)
  unfold Builtin.List.listExtendWith
  refine wpAny_bind (wpAny_typeOf (T := "zip") ⟨_, x2.1, rfl⟩ ?_)
  have e1 : Builtin.List.listSameRef (.ref S) (.ref z) = false := by simp [Builtin.List.listSameRef, Ne.symm (ne z (by simp))]
  have e2 : (Value.type "zip" == Value.type "list") = false := by decide
  have e3 : (Value.type "zip" == Value.type "tuple") = false := by decide
  simp only [e1, e2, e3, Bool.or_false, Bool.false_eq_true, if_false]
  refine wpAny_bind (wpAny_pyIter_zip x2.1 ?_)
  refine wpAny_bind (wpAny_holding (hint ⟨_, x2.1, rfl⟩ ?_))
  have fin : ∀ (h9 : Heap) (c : Nat), (∀ b o, b ≠ S → s.heap.get? b = some o → h9.get? b = some o) → h9.get? S = some { cls := .type "list", data := .seq #[] c } → codeAny (model prog w) A (.builtin "list.extend.loop" ⟨[.ref S, .ref z, .none], []⟩) R { s with heap := h9 } := fun h9 c k9 e9 => by
    have x9 := x.keep (h' := h9) fun b o m e => k9 b o (ne b m) e
    refine loop (s := s) (lo := S) (n := n) (xs := xs) (ys := ys) (h0 := h9) hh D (off_of ne) hx hy hn .none (Heap.lt_size e9) (fun b y => ?_) (Heap.lt_size e9) (fun h' c' acc as k' e' ea el g _ => q h' c' acc as (fun b o b1 b2 e => k' b o b1 b2 (k9 b o b1 e)) e' ea el g) n 0 h9 c #[] [] (by omega) (Nat.zero_le _)
      ⟨x9.2.1, x9.2.2.2.1, x9.2.2.2.2.1, x9.2.2.2.2.2.1, x9.2.2.2.2.2.2, .inl ⟨x9.1, x9.2.2.1⟩⟩ (fun b o _ _ e => e) e9 rfl rfl ⟨List.Pairwise.nil, (fun _ m => nomatch m), fun j a m => by simp at m⟩ (fun _ m => nomatch m) (Nat.le_refl _)
    refine x9.lt b ?_
    rcases y with y | y | y | y <;> simp [y]
  refine wpAny_ite_split (fun _ => ?_) (fun h => absurd rfl h)
  refine wpAny_bind (wpAny_rule ?_)
  refine wpAny_bind ?_
  show wpAny _ _ (updateSeq S (·.push .none) >>= fun _ => updateSeq S (·.pop)) _ _ _
  refine wpAny_bind (wpAny_updateSeq hS2 rfl ?_)
  have hS3 := Heap.get?_update_self (Obj.mapSeq (·.push Value.none)) hS2 rfl
  refine wpAny_updateSeq (hz := by seq_fits) hS3 rfl ?_
  have hS4 := Heap.get?_update_self (Obj.mapSeq (·.pop)) hS3 rfl
  exact wpAny_pure ⟨plainId_quiet PySem.F.plain_extend_loop _, fin _ _ (fun b o nb e => (Heap.get?_update_other _ _ (Ne.symm nb)).trans ((Heap.get?_update_other _ _ (Ne.symm nb)).trans (oth b o nb e))) hS4⟩
theorem call {n : Nat} {Q : Value → Shared → Prop} (hh : A.handled = none) (D : ZipApart z TI TO i1 i2 l1 l2) (x : Zip0 s.heap z TI TO i1 i2 l1 l2 xs ys) (hx : xs.size = n) (hy : ys.size = n) (hn : n ≤ sizeLine)
    (q : ∀ h' c acc as, (∀ b o, ¬ Wr z TO i1 i2 b → s.heap.get? b = some o → h'.get? b = some o) → h'.get? s.heap.objs.size = some { cls := .type "list", dict := none, data := .seq acc c, slots := #[] } → acc.toList = as.map Value.ref → as.length = n → Got xs ys s.heap.objs.size h' as →
      Q (.ref s.heap.objs.size) { s with heap := h' }) : wpAny (model prog w) A (PySem.call (.type "list") [.ref z]) Q E s := by
  refine callType_codes (Q₁ := fun ob s1 => ob = .ref s.heap.objs.size ∧ s1 = { s with heap := s.heap.push { cls := .type "list", data := .seq #[] } }) PySem.F.called_list (PySem.F.typeCall_list_1 _) PySem.F.entry_list_init (code_list_new _ ⟨rfl, rfl⟩) fun ob s1 h1 => ?_
  obtain ⟨rfl, rfl⟩ := h1
  have hS : (s.heap.push { cls := .type "list", data := .seq #[] }).get? s.heap.objs.size = some { cls := .type "list", data := .seq #[] } := Heap.get?_push_size _ rfl
  have lt := x.lt
  refine ⟨⟨_, hS, rfl⟩, PySem.F.args_list_init_2 _ _, filled (A := A.in1) hh D (x.keep fun b o _ e => Heap.get?_push_of_some _ e) hx hy hn (fun b m => Nat.ne_of_lt (lt b m)) hS fun h' c acc as k e ea el g => ?_⟩
  exact ⟨rfl, q h' c acc as (fun b o nb e => k b o (Nat.ne_of_lt (Heap.lt_size e)) nb (Heap.get?_push_of_some _ e)) e ea el g⟩
end
end ZlX
namespace L2
open PySem PySem.Spec PyProof.Rows LiI
section
variable {X : Cx}
/-! ### list(d.values()), tuple(d) -/
end
end L2
namespace Dv
open PySem PySem.Spec L2 PyProof.Rows
/-! ### texts in order -/
def insS (x : Str) : List Str → List Str
  | [] => [x]
  | y :: r => bif ltCps y.cps.toList x.cps.toList then y :: insS x r else x :: y :: r
def srt : List Str → List Str
  | [] => []
  | x :: r => insS x (srt r)
def leS (x y : Str) : Prop := x.cps.toList ≤ y.cps.toList
theorem lt_no {x y : Str} : ltCps y.cps.toList x.cps.toList = false ↔ leS x y := by
  rw [ltCps_eq, decide_eq_false_iff_not]
  exact Iff.rfl
theorem leS_trans {x y z : Str} (h : leS x y) (g : leS y z) : leS x z := List.le_trans h g
theorem leS_anti {x y : Str} (h : leS x y) (g : leS y x) : x = y := by
  have e := List.le_antisymm h g
  cases x
  cases y
  exact congrArg Str.mk (Array.toList_inj.mp e)
theorem ins_perm (x : Str) : ∀ r : List Str, (insS x r).Perm (x :: r)
  | [] => .refl _
  | y :: r => by
    unfold insS
    cases ltCps y.cps.toList x.cps.toList
    · exact .refl _
    · exact ((ins_perm x r).cons y).trans (List.Perm.swap ..)
theorem srt_perm : ∀ l : List Str, (srt l).Perm l
  | [] => .refl _
  | x :: r => (ins_perm x (srt r)).trans ((srt_perm r).cons x)
theorem ins_pw (x : Str) : ∀ r : List Str, r.Pairwise leS → (insS x r).Pairwise leS
  | [], _ => List.pairwise_singleton _ _
  | y :: r, h => by
    have hh := List.pairwise_cons.mp h
    unfold insS
    cases e : ltCps y.cps.toList x.cps.toList
    · refine List.pairwise_cons.mpr ⟨fun z m => ?_, h⟩
      have l1 := lt_no.mp e
      rcases List.mem_cons.mp m with m | m
      · rw [m]
        exact l1
      · exact leS_trans l1 (hh.1 z m)
    · refine List.pairwise_cons.mpr ⟨fun z m => ?_, ins_pw x r hh.2⟩
      rcases List.mem_cons.mp ((ins_perm x r).mem_iff.mp m) with m | m
      · rw [m]
        rw [ltCps_eq, decide_eq_true_eq] at e
        exact List.le_of_lt e
      · exact hh.1 z m
theorem srt_pw : ∀ l : List Str, (srt l).Pairwise leS
  | [] => .nil
  | x :: r => ins_pw x _ (srt_pw r)
theorem ris_pw : ∀ (l : List Str) (p : Str), risingS p l = true → (p :: l).Pairwise leS
  | [], p, _ => List.pairwise_singleton _ _
  | x :: r, p, h => by
    unfold risingS at h
    rw [Bool.and_eq_true, Bool.not_eq_true'] at h
    have hr := ris_pw r x h.2
    have l1 := lt_no.mp h.1
    refine List.pairwise_cons.mpr ⟨fun z m => ?_, hr⟩
    rcases List.mem_cons.mp m with m | m
    · rw [m]
      exact l1
    · exact leS_trans l1 ((List.pairwise_cons.mp hr).1 z m)
theorem sorted_pw : ∀ l : List Str, sortedS l = true → l.Pairwise leS
  | [], _ => .nil
  | x :: r, h => ris_pw r x h
theorem pw_uniq : ∀ {l m : List Str}, l.Perm m → l.Pairwise leS → m.Pairwise leS → l = m
  | [], m, p, _, _ => (List.Perm.nil_eq p)
  | x :: l, [], p, _, _ => nomatch p.length_eq
  | x :: l, y :: m, p, h, g => by
    have hh := List.pairwise_cons.mp h
    have gg := List.pairwise_cons.mp g
    have e : x = y := by
      have m1 : x ∈ y :: m := p.mem_iff.mp List.mem_cons_self
      have m2 : y ∈ x :: l := p.mem_iff.mpr List.mem_cons_self
      rcases List.mem_cons.mp m1 with q | q
      · exact q
      · rcases List.mem_cons.mp m2 with r | r
        · exact r.symm
        · exact leS_anti (hh.1 y r) (gg.1 x q)
    subst e
    rw [pw_uniq (List.Perm.cons_inv p) hh.2 gg.2]
theorem sorted_srt {ys ks : List Str} (p : ys.Perm ks) (h : sortedS ys = true) : ys = srt ks := pw_uniq (p.trans (srt_perm ks).symm) (sorted_pw ys h) (srt_pw ks)
theorem srt_length (l : List Str) : (srt l).length = l.length := (srt_perm l).length_eq
end Dv
namespace L2
open PySem PySem.Spec PyProof.Rows
/-- len of a dict that stands, frozen or not -/
def rLenD (K : PySem.W.Frag) : List V → Hp → VK → Prop := fun xs H Q => (∃ (a : Addr) (kvs : List (Key × V)), xs = [V.ref a] ∧ Rd H a (.dK kvs) ∧ Q (.int kvs.length) H) ∨ (∃ x n, xs = [x] ∧ LenV K x H n ∧ Q (.int n) H)
theorem call_lenA {X : Cx} : CallR X (.builtin "len") (rLenD X.K) := by
  intro pins s σ H xs us Q I r h
  rcases h with ⟨a, kvs, rfl, ha, q⟩ | h
  · obtain ⟨u, rfl, ru⟩ := vals1 r
    cases (show u = Value.ref a from ru)
    exact d_len I ha fun t s' I' => ⟨.int kvs.length, H, I', ⟨t, rfl⟩, q⟩
  · exact call_len pins s σ H xs us Q I r h
end L2
namespace Dv
open PySem PySem.Spec L2 PyProof.Rows
section
variable {X : Cx} {W : WX} {xw : XW} {K : PySem.W.Frag} {pos : Pos}
/-! ### list(zip(e, f)) -/
/-! ### list(d.values()) -/
/-! ### tuple(d), len(d), any, sorted -/
def gLenA : List Sl → DK → Prop := fun ss k => match ss with
  | [.d (.dic ds)] => k (.d (.int ds.length))
  | ss => gLen ss k
theorem oc_lenA : OC K (rLenD K) gLenA := fun c H vs ss k Q eK hi r h q => by
  unfold gLenA at h
  split at h
  · obtain ⟨v, rfl, w, e, rr⟩ := paired1 r
    cases e
    cases rr with
    | dic nf hd rk => exact .inl ⟨_, _, rfl, .inr ⟨_, hd⟩, q _ (.d (.int _)) H (Go.self hi) ⟨_, rfl, by rw [rk.length]; exact .int _⟩ h⟩
  · exact .inr (oc_len c H vs ss k Q eK hi r h q)
def keysT : List (Key × D) → Option (List Str)
  | [] => some []
  | (.inr x, _) :: r => (keysT r).map (x :: ·)
  | _ :: _ => none
theorem keysT_ok : ∀ {ds : List (Key × D)} {ks : List Str}, keysT ds = some ks → ds.map (fun p => p.1) = ks.map Sum.inr
  | [], _, e => by
    cases e
    rfl
  | (.inr x, d) :: r, ks, e => by
    have e' : (keysT r).map (x :: ·) = some ks := e
    rw [Option.map_eq_some_iff] at e'
    obtain ⟨ms, e1, e2⟩ := e'
    subst e2
    rw [List.map_cons, List.map_cons, keysT_ok e1]
  | (.inl i, d) :: r, _, e => nomatch e
theorem unS_eq : ∀ {xs : List D} {ks : List Str}, unS xs = some ks → xs = ks.map D.str
  | [], _, e => by
    cases e
    rfl
  | x :: r, ks, e => by
    cases x <;> first | cases e; done | skip
    rename_i z
    have e' : (unS r).map (z :: ·) = some ks := e
    rw [Option.map_eq_some_iff] at e'
    obtain ⟨ms, e1, e2⟩ := e'
    subst e2
    rw [unS_eq e1]
    rfl
/-- the texts that are put in order -/
def strsOf : List Sl → Option (List Str)
  | [.d (.dic ds)] => keysT ds
  | [.bor ds] => keysT ds
  | [.d (.lst xs)] => unS xs
  | _ => none
def gSortE : List Sl → DK → Prop := fun ss k => ∃ ks, strsOf ss = some ks ∧ ks.length < 64 ∧ k (.d (.lst ((srt ks).map D.str)))
theorem sortE_D {ss : List Sl} {k : DK} (h : gSortE ss k) : gSortD ss k := by
  obtain ⟨ks, e, h64, hk⟩ := h
  have fin : ∀ ys : List Str, ys.Perm ks → sortedS ys = true → k (.d (.lst (ys.map D.str))) := fun ys p s => by
    rw [sorted_srt p s]
    exact hk
  unfold strsOf at e
  split at e
  · exact ⟨ks, keysT_ok e, h64, fin⟩
  · exact ⟨ks, keysT_ok e, h64, fin⟩
  · exact ⟨ks, unS_eq e, h64, fin⟩
  · cases e
theorem oc_sortE : OC K (fun xs H Q => (∃ (a : Addr) (kvs : List (Key × V)) (ks : List Str), xs = [.ref a] ∧ Rd H a (.dK kvs) ∧ kvs.map (·.1) = ks.map Sum.inr ∧ ks.length < 64 ∧ ∀ ys p, ys.Perm ks → sortedS ys = true → H p = none → Q (.ref p) (upd H p (.lst (ys.map V.str)))) ∨ rSortedS K xs H Q) gSortE :=
  fun c H vs ss k Q eK hi r h q => oc_sortD c H vs ss k Q eK hi r (sortE_D h) q
end
end Dv
set_option Elab.async false
set_option linter.all false
set_option maxRecDepth 100000
set_option maxHeartbeats 4000000
/-! Ev: exceptions of own classes over ValueError, KeyError, RuntimeError, made and held as values. -/
namespace PySem
namespace EvX
open PySem.W PySem.Calls PyProof.Rows PySem.HandSPX
open Builtin Builtin.ObjectAttr
/-! ### the built-in base -/
/-- what the built-in __init__ i of the base B is -/
structure IniF (B i : String) : Prop where
  kxs : KxsFacts B i
  plain : plainId i = true
  entry : entryFor table i = some Builtin.«BaseException.__init__»
  kind : builtinKind i = some .slot
  row : Manifest.signature? i = some ⟨.positional, "*", B, .self, [⟨"args", .varPos, false⟩]⟩
  star : (B != "*") = true
/-- what the built-in __new__ nw of the base's is, N the class that has it -/
structure NewF (N nw : String) : Prop where
  kind : builtinKind nw = some .builtinFn
  split : splitId nw = some (N, "__new__")
  row : Manifest.signature? nw = some ⟨.any, N, N, .cls, [⟨"args", .varPos, false⟩, ⟨"kwargs", .varKw, false⟩]⟩
  ends : nw.endsWith ".__new__" = true
  owner : nw.dropRight 8 = N
  entry : entryFor table nw = some Builtin.«BaseException.__new__»
  star : (N != "*") = true
  canon : Manifest.canonical nw = Manifest.canonical "BaseException.__new__"
  quiet : nw.startsWith "lifetime." = false
/-! ### the classes above -/
/-- own classes, then the tail tl -/
def refsT (tl : List Value) : List Value → Bool
  | .ref _ :: r => refsT tl r
  | l => l == tl
/-- what is asked of a tail: stores pass it, object is in it, what is in it and what not -/
structure TailF (tl : List Value) (N : String) : Prop where
  pass : ∀ self : Value, refuseLoop self "__setattr__" tl = pure ()
  ob : tl.contains (.type "object") = true
  hN : tl.contains (.type N) = true
  noA : tl.contains (.type "AttributeError") = false
  noN : tl.contains (.type "NameError") = false
  ne : tl.isEmpty = false
abbrev keTail : List Value := [.type "KeyError", .type "LookupError", .type "Exception", .type "BaseException", .type "object"]
/-! ### C(..): the built-in __new__, then the own __init__ -/
section
variable {M : Model} {A : Around} {E : Value → Shared → Prop} {h : Heap} {g : Array GenState} {d : Drawn} {t : Nat} {os : OsState}
variable {nm q : Str} {C N : Addr} {bs bm tl : List Value} {hdct : Bool} {sn : List Str} {sub : List Value} {ab : Bool} {col : Option Bool} {dd : Option Addr} {k0 k1 k2 k3 k5 : Option Value} {B nw : String}
end
section
variable {prog : Program} {w : World} {A : Around} {E : Value → Shared → Prop} {R : Result → Shared → Prop} {h : Heap} {g : Array GenState} {d : Drawn} {t : Nat} {os : OsState}
variable {nm q : Str} {C N : Addr} {bs bm tl : List Value} {hdct : Bool} {sn : List Str} {sub : List Value} {ab : Bool} {col : Option Bool} {dd : Option Addr} {k0 k1 k2 k3 k5 : Option Value} {B nw : String}
end
end EvX
end PySem
set_option Elab.async false
set_option linter.all false
set_option maxRecDepth 100000
set_option maxHeartbeats 4000000
/-! Ew: the __init__ of own exceptions, run: one value, or a word and a value. -/
namespace PySem
namespace EvX
open PySem.W PySem.Calls PyProof.Rows PySem.HandSPX
section
open Builtin Builtin.ObjectAttr
variable {prog : Program} {w : World} {A : Around} {E : Value → Shared → Prop} {R : Result → Shared → Prop} {hp : Heap} {g : Array GenState} {d : Drawn} {t : Nat} {os : OsState} {tl : List Value} {N : String}
end
/-! ### the texts -/
def iA2 (p1 p2 p3 : Pos) : Arguments := { posonlyargs := [], args := [{ arg := "self", annotation := none, pos := p1 }, { arg := "word", annotation := none, pos := p2 }, { arg := "value", annotation := none, pos := p3 }], vararg := none, kwonlyargs := [], kw_defaults := [], kwarg := none, defaults := [] }
def iB2 (q1 q2 q3 q4 q7 q5 q6 r1 r2 r3 r4 r5 r6 r7 r8 : Pos) : List Stmt :=
  [.Expr (.Call (.Attribute (.Call (.Name "super" q1) [] [] q2) "__init__" q3) [.Name "word" q4, .Name "value" q7] [] q5) q6,
   .Assign [.Attribute (.Name "self" r1) "word" r2] (.Name "word" r3) r4,
   .Assign [.Attribute (.Name "self" r5) "value" r6] (.Name "value" r7) r8]
def iS2 : Scope := { kind := .function, names := [(PySem.Str.ofString "self", .local), (PySem.Str.ofString "word", .local), (PySem.Str.ofString "value", .local), (PySem.Str.ofString "__class__", .free), (PySem.Str.ofString "super", .globalImplicit)], isGenerator := false, isCoroutine := false, more := [] }
/-- what the written part says of an __init__ at fI whose class is at D -/
structure IniAt (prog : Program) (K : Frag) (mg : Str → Option Value) (D cda cc : Addr) : Prop where
  code : ∃ ccl cdd vs ccs file tf, K.lookup cda = some ⟨ccl, cdd, .fields vs, ccs⟩ ∧ vs[2]? = some (.str file tf) ∧ ((prog.main.file : Str) == file) = true
  cell : ∃ cl cld csl, K.lookup cc = some ⟨cl, cld, .cell (some (.ref D)), csl⟩
structure IniTxt (prog : Program) (K : Frag) (mg : Str → Option Value) (qual : Str) (D fI : Addr) : Prop where
  fn : ∃ (oc : Value) (od : Option Addr) (doc pm : Value) (an : Option Addr) (cda cc : Addr) (ct : Value) (osl : Array (Option Value)) (p1 p2 q1 q2 q3 q4 q5 q6 r1 r2 r3 r4 : Pos),
    K.lookup fI = some ⟨oc, od, .func (ksFn "__init__" qual (PySem.RoomX.iA p1 p2) (PySem.RoomX.iB q1 q2 q3 q4 q5 q6 r1 r2 r3 r4) PySem.RoomX.iS .none .none doc pm an (.ref cda) ct cc), osl⟩ ∧ codeIn K (.ref cda) qual = true ∧ (q3.endLine == q5.line) = true ∧ IniAt prog K mg D cda cc
  cD : ∃ cd, clsIn K D = some cd
  msup : mg "super" = none
  mtop : (prog.main.scope.names.lookup ("super" : Str)).isSome = false
  tp : nsIn K cStatics "thirdparty.any" = some none
structure IniTxt2 (prog : Program) (K : Frag) (mg : Str → Option Value) (qual : Str) (D fI : Addr) : Prop where
  fn : ∃ (oc : Value) (od : Option Addr) (doc pm : Value) (an : Option Addr) (cda cc : Addr) (ct : Value) (osl : Array (Option Value)) (p1 p2 p3 q1 q2 q3 q4 q7 q5 q6 r1 r2 r3 r4 r5 r6 r7 r8 : Pos),
    K.lookup fI = some ⟨oc, od, .func (ksFn "__init__" qual (iA2 p1 p2 p3) (iB2 q1 q2 q3 q4 q7 q5 q6 r1 r2 r3 r4 r5 r6 r7 r8) iS2 .none .none doc pm an (.ref cda) ct cc), osl⟩ ∧ codeIn K (.ref cda) qual = true ∧ (q3.endLine == q5.line) = true ∧ IniAt prog K mg D cda cc
  cD : ∃ cd, clsIn K D = some cd
  msup : mg "super" = none
  mtop : (prog.main.scope.names.lookup ("super" : Str)).isSome = false
  tp : nsIn K cStatics "thirdparty.any" = some none
/-- .. of a class of exceptions, at C, called nm in the text, over B -/
structure ExCls (K : Frag) (mg : Str → Option Value) (B i nw : String) (tl : List Value) (nm : Str) (C D fI : Addr) : Prop where
  gC : mg nm = some (.ref C)
  cls : ∃ nm q N bs bm sn sub ab col dd k0 k1 k2 k3 k5, K.lookup C = some (excClassObj nm q C N bs bm true sn sub ab col dd k0 k1 k2 k3 k5 nw) ∧ refsT tl bm = true
  sa : findIn K (.ref C) "__setattr__" = some (some (.builtin "object.__setattr__"))
  noN : findIn K (.ref C) "value" = some none
  noW : findIn K (.ref C) "word" = some none
  iC : findIn K (.ref C) "__init__" = some (some (.ref fI))
  tC : typeIn K (.ref fI) = some (.type "function")
  kC : keepIn K (.ref C) = true
  bC : subIn K (.ref C) (.type B) = some true
  sup : ks_superIn K C D "__init__" = some (some (.builtin i))
  mro : mroIn K C (.ref D) = some true
/-- what __init__ leaves of a fresh exception at x -/
structure IniEnd (h h' : Heap) (x C dx : Addr) (m : Str → Option Value) : Prop where
  keep : ∀ b o, b ≠ x → h.get? b = some o → h'.get? b = some o
  obj : ∃ t1 : Addr, h'.get? x = some { cls := .ref C, dict := some dx, data := .fields #[.ref t1, .none, .none, .none, .bool false, .none] }
  dbig : h.objs.size ≤ dx
  dne : dx ≠ x
  ns : h'.Ns1 dx m
/-- a made exception -/
structure MadeE (h h' : Heap) (e C d : Addr) (m : Str → Option Value) : Prop where
  keep : ∀ b o, h.get? b = some o → h'.get? b = some o
  new : h.objs.size ≤ e
  obj : ∃ oe vs, h'.get? e = some oe ∧ oe.cls = .ref C ∧ oe.dict = some d ∧ oe.data = .fields vs
  dbig : h.objs.size ≤ d
  dne : d ≠ e
  ns : h'.Ns1 d m
abbrev m1 (v : Value) : Str → Option Value := fun y => if y = "value" then some v else none
abbrev m2 (u v : Value) : Str → Option Value := fun y => if y = "value" then some v else if y = "word" then some u else none
section
variable {prog : Program} {w : World} {A : Around} {E : Value → Shared → Prop} {R : Result → Shared → Prop} {s : Shared} {K : Frag} {mg : Str → Option Value} {nm qual : Str} {C D fI : Addr} {B i nw NB : String} {tl : List Value}
end
end EvX
end PySem
set_option Elab.async false
set_option linter.all false
set_option maxRecDepth 100000
set_option maxHeartbeats 4000000
/-! Hk: exceptions of own classes over KeyError, raised and caught. -/
namespace PySem
namespace EvX
open PySem.W PySem.Calls PyProof.Rows PySem.HandSPX
def exObjB (K : Frag) (C : Addr) (nw : String) (tl : List Value) : Bool := match K.lookup C with
  | some ⟨.type "type", _, .cls cd, sl⟩ => (match cd.mro, sl.toList with
    | .ref C' :: bm, [_, _, _, _, some (.builtin n), _] => C' == C && n == nw && !cd.hasDel && cd.hasDict && refsT tl bm
    | _, _ => false)
  | _ => false
theorem exObjB_of {K : Frag} {C : Addr} {nw : String} {tl : List Value} (q : exObjB K C nw tl = true) : ∃ nm q N bs bm sn sub ab col dd k0 k1 k2 k3 k5, K.lookup C = some (excClassObj nm q C N bs bm true sn sub ab col dd k0 k1 k2 k3 k5 nw) ∧ refsT tl bm = true := by
  unfold exObjB at q
  split at q
  · rename_i dd cd sl ho
    split at q
    · rename_i C' bm k0 k1 k2 k3 n k5 hm hs
      simp only [Bool.and_eq_true, beq_iff_eq, Bool.not_eq_true'] at q
      obtain ⟨⟨⟨⟨rfl, rfl⟩, hdel⟩, hdict⟩, hr⟩ := q
      obtain ⟨nm, bs, mro, ns, qn, hd, sn, sub, ab, col, del⟩ := cd
      dsimp only at hm hdel hdict
      subst hm hdel hdict
      have hsl : sl = #[k0, k1, k2, k3, some (.builtin n), k5] := by
        rw [← hs]
      subst hsl
      exact ⟨nm, qn, ns, bs, bm, sn, sub, ab, col, dd, k0, k1, k2, k3, k5, ho, hr⟩
    · cases q
  · cases q
/-- a class over KeyError, at C, called nm, the class at D having the __init__ at fI -/
structure KeyCls (K : Frag) (mg : Str → Option Value) (nm : Str) (C D fI : Addr) : Prop where
  ex : ExCls K mg "KeyError" "KeyError.__init__" "LookupError.__new__" keTail nm C D fI
  ga : findIn K (.ref C) "__getattribute__" = some (some (.builtin "BaseException.__getattribute__"))
  gg : findIn K (.ref C) "__getattr__" = some none
  exC : subIn K (.ref C) (.type "BaseException") = some true
  tyC : typeIn K (.ref C) = some (.type "type")
  hdC : hasDictIn K C = true
  scC : subIn K (.ref C) (.ref C) = some true
theorem KeyCls.gC {K : Frag} {mg : Str → Option Value} {nm : Str} {C D fI : Addr} (U : KeyCls K mg nm C D fI) : mg nm = some (.ref C) := U.ex.gC
section
variable {prog : Program} {w : World} {A : Around} {R : Result → Shared → Prop} {s : Shared} {K : Frag} {mg : Str → Option Value} {nm qual : Str} {C D fI : Addr} {B i nw NB : String} {tl : List Value}
end
end EvX
end PySem
namespace L2
open PySem PySem.Spec PyProof.Rows
section
variable {X : Cx} {nm qual : Str} {C D fI : Addr}
end
end L2
namespace Dv
open PySem L2
section
variable {X : Cx} {W : WX} {xw : XW} {pos : Pos}
end
end Dv
set_option Elab.async false
set_option linter.all false
set_option maxRecDepth 100000
set_option maxHeartbeats 4000000
/-! Hl: defs with a default int; methods with defaults (None, None). -/
namespace Dv
open PySem L2
section
variable {P : Program} {w : World} {K : PySem.W.Frag} {mg : Str → Option Value} {base : Heap}
end
/-- a def with one default, an int -/
structure FnAt1 (K : PySem.W.Frag) (mg : Str → Option Value) (x qual : Str) (st : Stmt) (ps : List Str) (i : Int) (f : Addr) (fd : FuncData) : Prop where
  M : MetAt1 K x qual st ps i f fd
  m : mg x = some (.ref f)
  kp : PySem.W.keepIn K (.ref f) = true
/-- a method with the defaults (None, None) -/
structure MetAtN (K : PySem.W.Frag) (x qual : Str) (st : Stmt) (ps : List Str) (f : Addr) (fd : FuncData) : Prop where
  F : FunD K x qual st f fd
  b : Binds K fd ps []
  b1 : ∃ ds, Vals [V.non] ds ∧ Binds K fd ps ds
theorem met_mkN {K : PySem.W.Frag} {x qual : Str} {st : Stmt} {ps : List Str} {f T : Addr} {oc ot : Value} {od an ot2 : Option Addr} {osl tsl : Array (Option Value)} {kV doc pm cdv ct : Value} {m n : Nat} (l : K.lookup f = some ⟨oc, od, .func (PySem.W.fnOf x qual (defArgs st) (defBody st) (defScope st) (.ref T) kV doc pm an cdv ct), osl⟩)
    (c : PySem.W.codeIn K cdv qual = true) (k : PySem.W.keepIn K (.ref f) = true) (lT : K.lookup T = some ⟨ot, ot2, .seq #[.none, .none] m, tsl⟩) (hn : n + 1 = ps.length)
    (h0 : ∀ (T : Addr) (kV doc pm : Value) (an : Option Addr) (cdv ct : Value) (us its : List Value), us.length = n + 1 → its.length = 2 →
      ∃ k, bindArgs (PySem.W.fnOf x qual (defArgs st) (defBody st) (defScope st) (.ref T) kV doc pm an cdv ct) ⟨us, []⟩ = seqItems? (.ref T) >>= k ∧ k (some its.toArray) = pure (ps.zip (us ++ its.drop 2)))
    (h1 : ∀ (T : Addr) (kV doc pm : Value) (an : Option Addr) (cdv ct : Value) (us its : List Value), us.length = n → its.length = 2 →
      ∃ k, bindArgs (PySem.W.fnOf x qual (defArgs st) (defBody st) (defScope st) (.ref T) kV doc pm an cdv ct) ⟨us, []⟩ = seqItems? (.ref T) >>= k ∧ k (some its.toArray) = pure (ps.zip (us ++ its.drop 1))) :
    MetAtN K x qual st ps f (PySem.W.fnOf x qual (defArgs st) (defBody st) (defScope st) (.ref T) kV doc pm an cdv ct) := by
  have F : L2.FunD K x qual (defArgs st) (defBody st) (defScope st) [V.non, V.non] [] f (PySem.W.fnOf x qual (defArgs st) (defBody st) (defScope st) (.ref T) kV doc pm an cdv ct) :=
    ⟨⟨_, _, _, _, _, _, _, _, _, _, rfl, l, c, .inr ⟨by simp, T, _, [.none, .none], m, rfl, lT, rfl, .cons rfl (.cons rfl .nil)⟩, .inl rfl⟩, k⟩
  obtain ⟨d0, v0, b0⟩ := F.binds1 (ps := ps) (n + 1) 2 (by simp) (by simpa using hn) h0
  have e0 : d0 = [] := by
    cases v0
    rfl
  rw [e0] at b0
  exact ⟨⟨⟨_, _, _, _, _, _, _, _, _, _, rfl, l, c⟩, k⟩, b0, F.binds1 (ps := ps) n 1 (by simp) (by simpa using hn) h1⟩
section
variable {X : Cx} {W : WX} {xw : XW} {pos : Pos} {C : Ctr} {f : Addr} {fd : FuncData} {ps : List Str} {k : Nat} {x : Str} {p : Pos} {e : Expr} {es : List Expr} {ta : TA} {da : DA}
end
end Dv
set_option Elab.async false
set_option linter.all false
set_option maxRecDepth 100000
set_option maxHeartbeats 4000000
/-! Hm: lambdas in several defs: several tables. -/
namespace Dv
open PySem L2
section
variable {X : Cx} {W : WX} {xw : XW} {K : PySem.W.Frag} {pos : Pos}
end
section
variable {P : Program} {w : World} {K : PySem.W.Frag} {mg : Str → Option Value} {base : Heap}
end
section
variable {X : Cx} {W : WX} {xw : XW} {C : Ctr} {f : Addr} {fd : FuncData} {ps : List Str} {k i : Nat} {x : Str} {p pos : Pos} {e : Expr} {es : List Expr} {ta : TA} {da : DA} {T : List (Addr × Str)}
end
end Dv
namespace Dv
open PySem L2
end Dv
namespace L2
open PySem PySem.Spec PyProof.Rows
end L2
set_option Elab.async false
set_option linter.all false
set_option maxRecDepth 100000
set_option maxHeartbeats 4000000
/-! Hn: sets of texts as things of the heap; sorted(set(a list of texts)). -/
namespace Dv
open PySem PySem.Spec PyProof.Rows L2
/-- the members with one more -/
def addS (l : List Str) (k : Str) : List Str := if k ∈ l then l else k :: l
theorem addS_len {l : List Str} {k : Str} : (addS l k).length ≤ l.length + 1 := by
  unfold addS
  by_cases m : k ∈ l
  · rw [if_pos m]
    exact Nat.le_succ _
  · rw [if_neg m]
    exact Nat.le_refl _
/-- the set's table can be walked -/
def Led (w : World) (t : SetTable) : Prop := Ris t.place.toList ∧ (w.params.followText "set-order" = true ∨ t.led = true)
theorem led_add {w : World} {h : Int} {v : Value} {D : Froz.SD} (L : Led w D.2.2) : Led w (Froz.addTx h v D).2.2 := by
  obtain ⟨es, ep, t⟩ := D
  have r1 := layNew_ris t es h v L.1
  have r2 := layNew_led t es h v
  show Led w (Froz.tailTx ep (layNew t es h v).1 (if (layNew t es h v).2.1.plain = true then { (layNew t es h v).2.1 with plain := false } else (layNew t es h v).2.1) (layNew t es h v).2.2.1).2.2
  generalize layNew t es h v = Z at r1 r2 ⊢
  obtain ⟨es1, t1, wd, gv⟩ := Z
  have L1 : Led w (if t1.plain = true then { t1 with plain := false } else t1) := by
    have z : w.params.followText "set-order" = true ∨ t1.led = true := L.2.imp id fun y => (show t1.led = t.led from r2).trans y
    split
    · exact ⟨r1, z⟩
    · exact ⟨r1, z⟩
  dsimp only
  unfold Froz.tailTx
  generalize (if t1.plain = true then { t1 with plain := false } else t1) = t2 at L1 ⊢
  split
  · exact ⟨relayAll_ris t2 es1 _, L1.2.imp id fun y => (relayAll_led t2 es1 _).trans y⟩
  · exact L1
/-- the set of texts at a: its members -/
def SetT (P : Program) (w : World) (h : Heap) (a : Addr) (l : List Str) : Prop := ∃ D : Froz.SD, h.get? a = some (Froz.sObj "set" D) ∧ Froz.TxOk P w D l ∧ Led w D.2.2 ∧ l.Nodup
theorem SetT.at_ {P : Program} {w : World} {h h' : Heap} {a : Addr} {l : List Str} (R : SetT P w h a l) (k : ∀ o, h.get? a = some o → h'.get? a = some o) : SetT P w h' a l := by
  obtain ⟨D, ho, r⟩ := R
  exact ⟨D, k _ ho, r⟩
theorem SetT.setOf {P : Program} {w : World} {h : Heap} {a : Addr} {l : List Str} (R : SetT P w h a l) (hb : l.length < scanBound) : h.SetOf (strKind P w) a (fun k => decide (k ∈ l)) l.length := by
  obtain ⟨⟨es, ep, t⟩, ho, F, L, nd⟩ := R
  have sz : es.size = l.length := F.sz
  exact ⟨_, es, ep, t, ho, ⟨rfl, rfl, rfl⟩, rfl, F.el, fun k => by rw [decide_eq_true_eq]; exact F.mem k, by omega, F.fit, sz⟩
def newS (w : World) : Obj := { cls := .type "set", dict := none, data := .set #[] 0 (.fresh 0 0 (!w.params.followText "set-order")) }
theorem setT_new {P : Program} {w : World} {h : Heap} : SetT P w (h.push (newS w)) h.objs.size [] := by
  refine ⟨(#[], 0, .fresh 0 0 (!w.params.followText "set-order")), Heap.get?_push_size _ rfl, Froz.TxOk.nil rfl, ⟨List.Pairwise.nil, ?_⟩, List.Pairwise.nil⟩
  show _ ∨ (!w.params.followText "set-order") = true
  cases w.params.followText "set-order"
  · exact .inr rfl
  · exact .inl rfl
section
variable {P : Program} {w : World} {A : Around} {E : Value → Shared → Prop} {s : Shared}
theorem again_x {a : Addr} {D : Froz.SD} {l : List Str} {k : Str} {u : Tok} {Q : Bool → Shared → Prop} (ho : s.heap.get? a = some (Froz.sObj "set" D)) (F : Froz.TxOk P w D l) (hk : k ∈ l) (hb : l.length < scanBound) (h : Q false s) :
    wpAny (model P w) A (setAddHashed a (.str k u) (hashStr w k)) Q E s := by
  obtain ⟨es, ep, t⟩ := D
  have d0 : (Froz.sObj "set" (es, ep, t)).data = .set es ep t := rfl
  have f0 : t.fits es.size = true := F.fit
  have sz : es.size = l.length := F.sz
  have b0 : es.size < scanBound := by omega
  have el : ElemsOf (strKind P w) es.toList := F.el
  obtain ⟨e, me, ie⟩ := (F.mem k).mp hk
  unfold setAddHashed setAddHashedIn
  refine wpAny_holding (wpAny_bind (wpAny_setState_of ho d0 f0 ?_))
  dsimp only
  rw [byScan_of rfl b0 el]
  simp only [↓reduceIte]
  unfold setAddByScan
  refine wpAny_bind (wpAny_bind (wpAny_rule (wpAny_bind (wpAny_setScan_of (knd := strKind P w) (k := k) (Froz.is_str k u) ho d0 f0 el ?_))))
  cases fi : List.findIdx? (fun e => (strKind P w).is k e.2) es.toList with
  | some j =>
    dsimp only
    exact wpAny_pure (wpAny_pure h)
  | none =>
    have z := List.findIdx?_eq_none_iff.mp fi e me
    rw [ie] at z
    cases z
theorem setT_hashed {a : Addr} {l : List Str} {k : Str} {u : Tok} {Q : Bool → Shared → Prop} (R : SetT P w s.heap a l) (hb : l.length + 1 < scanBound) (hQ : ∀ b h', Heap.SameBut a s.heap h' → SetT P w h' a (addS l k) → Q b { s with heap := h' }) :
    wpAny (model P w) A (setAddHashed a (.str k u) ((strKind P w).hash k)) Q E s := by
  obtain ⟨D, ho, F, L, nd⟩ := id R
  show wpAny (model P w) A (setAddHashed a (.str k u) (hashStr w k)) Q E s
  by_cases m : k ∈ l
  · have e : addS l k = l := if_pos m
    refine again_x ho F m (by omega) (hQ _ s.heap (Heap.SameBut.refl a s.heap) (by rw [e]; exact R))
  · have e : addS l k = k :: l := if_neg m
    refine Froz.add_x ho F m hb (hQ _ _ (Heap.SameBut.update ..) ?_)
    rw [e]
    exact ⟨_, Froz.get_upd _ ho rfl, Froz.add_ok u F, led_add L, List.nodup_cons.mpr ⟨m, nd⟩⟩
/-- S.add(k) -/
theorem setT_add {a : Addr} {l : List Str} {k : Str} {u : Tok} {Q : Value → Shared → Prop} (R : SetT P w s.heap a l) (hb : l.length + 1 < scanBound) (hQ : ∀ h', Heap.SameBut a s.heap h' → SetT P w h' a (addS l k) → Q .none { s with heap := h', toks := s.toks + 1 }) :
    wpAny (model P w) A (call (.builtin "set.add") [.ref a, .str k u]) Q E s := by
  have sO := R.setOf (by omega)
  refine wpAny_call_entry F.slot_set_add sO.typeIs F.entry_set_add ?_ (F.args_set_add_2 _ _)
  unfold Builtin.«set.add» Builtin.Frozenset.oneOther
  simp only [List.isEmpty_nil, bind_assoc]
  unfold Builtin.Frozenset.addrOf setAdd
  refine wpAny_bind (wpAny_pure ?_)
  try dsimp only
  refine wpAny_bind (wpAny_pure ?_)
  try dsimp only
  refine wpAny_bind (wpAny_holding (wpAny_bind ((strKind P w).pyHash (strKind_is P w k u) ?_)))
  refine setT_hashed (s := { s with toks := s.toks + 1 }) R hb fun b h' sb r => ?_
  show wpAny _ _ (ret Value.none) _ _ _
  exact wpAny_pure ⟨_, rfl, hQ h' sb r⟩
/-- the members behind the first i texts -/
def metS (xs : List Str) (i : Nat) : List Str := (xs.take i).foldl addS []
theorem metS_len (xs : List Str) : ∀ i, (metS xs i).length ≤ i
  | 0 => Nat.le_refl 0
  | i + 1 => by
    unfold metS
    rw [List.take_add_one]
    cases e : xs[i]? with
    | none =>
      simp only [Option.toList_none, List.append_nil]
      exact Nat.le_trans (metS_len xs i) (Nat.le_succ i)
    | some x =>
      simp only [Option.toList_some, List.foldl_append, List.foldl_cons, List.foldl_nil]
      exact Nat.le_trans addS_len (Nat.succ_le_succ (metS_len xs i))
theorem metS_succ {xs : List Str} {i : Nat} {z : Str} (e : xs[i]? = some z) : metS xs (i + 1) = addS (metS xs i) z := by
  unfold metS
  rw [List.take_add_one, e]
  simp only [Option.toList_some, List.foldl_append, List.foldl_cons, List.foldl_nil]
theorem textsT_put {I S : Addr} {fp wr : List Addr} {G : Array GenState → Array GenState → Prop} {n : Nat} {Pv : Nat → Value → Prop} {St : Nat → Shared → Prop} {R : Result → Shared → Prop} (W : WalksS P w A.in1 I fp wr G n Pv St) (nf : S ∉ fp) (xs : List Str) (en : n = xs.length)
    (hb : xs.length + 1 < scanBound) (hv : ∀ i v, Pv i v → ∃ z t, xs[i]? = some z ∧ v = .str z t) : ∀ (m i : Nat) (s : Shared), n = i + m → St i s → SetT P w s.heap S (metS xs i) →
      (∀ s2, Moved (S :: wr) G s s2 → SetT P w s2.heap S (metS xs n) → R (.ok (.ret .none)) s2) → codeAny (model P w) A (.builtin "set.update.loop" ⟨[.ref S, .ref I], []⟩) R s := by
  have nw : S ∉ wr := fun y => nf (W.sub _ y)
  have sb : ∀ b ∈ wr, b ∈ S :: wr := fun b y => .tail _ y
  intro m
  induction m with
  | zero =>
    intro i s0 e st hS q
    cases e
    refine codeAny_builtin F.entry_set_update_loop ((congrArg (fun z => wpAny (model P w) z _ _ _ _) (Around.under_plainId F.plain_set_update_loop _)).mpr ?_)
    exact wpAny_bind (W.done s0 _ _ st fun s2 mv => wpAny_pure (q s2 (mv.mono sb) (hS.at_ fun o e => mv.heap S o nw e)))
  | succ m ih =>
    intro i s0 e st hS q
    refine codeAny_builtin F.entry_set_update_loop ((congrArg (fun z => wpAny (model P w) z _ _ _ _) (Around.under_plainId F.plain_set_update_loop _)).mpr ?_)
    refine wpAny_bind (W.item i s0 _ _ (by omega) st fun v s2 pv st2 mv => ?_)
    obtain ⟨z, t, ez, ev⟩ := hv i v pv
    cases ev
    have hS2 := hS.at_ fun o e => mv.heap S o nw e
    refine wpAny_bind (wpAny_holding ?_)
    unfold setAdd
    refine wpAny_holding (wpAny_bind ((strKind P w).pyHash (k := z) (strKind_is P w z t) ?_))
    have ci := metS_len xs i
    refine setT_hashed (s := { s2 with toks := s2.toks + 1 }) hS2 (by omega) fun b h3 hs hS3 => ?_
    rw [← metS_succ ez] at hS3
    refine wpAny_pure ⟨plainId_quiet F.plain_set_update_loop _, ih (i + 1) _ (by omega) (W.frame _ s2 _ _ st2 (Nat.le_succ _) fun b y o e => (hs.2 b fun r => nf (r ▸ y)).trans e) hS3 fun s4 mv4 hS5 => ?_⟩
    exact q s4 (Moved.trans W.gtrans ((mv.mono sb).then_heap (Nat.le_succ _) fun b o y e => (hs.2 b fun r => y (r ▸ .head _)).trans e) mv4) hS5
theorem code_setT (a : Value) {Q1 : Value → Shared → Prop} (h : Q1 (.ref s.heap.objs.size) { s with heap := s.heap.push (newS w) }) : codeAny (model P w) A (.call (.builtin "set.__new__") ⟨[.type "set", a], []⟩) (wants Q1 E) s := by
  refine codeAny_of_tree ?_
  show wpAny _ A.in1 (do checkBuiltinCall "set.__new__" ⟨[.type "set", a], []⟩; again (.builtin "set.__new__" ⟨[.type "set", a], []⟩)) _ _ s
  refine wpAny_bind (wpAny_of_eq (F.newCall_set_1 a) (wpAny_pure ⟨plainId_quiet F.plain_set_new _, codeAny_builtin F.entry_set_new ?_⟩))
  rw [Around.under_plainId F.plain_set_new _]
  unfold Builtin.«set.__new__» Builtin.Frozenset.newClass
  have ss := sub_set_self
  obtain ⟨hp, g, d, tk, os⟩ := s
  dsimp only
  wp_walk
  refine wpAny_askSetting (wpAny_pure ?_)
  dsimp only
  simp only [newObj]
  exact wpAny_bind (wpAny_alloc (wpAny_pure (wpAny_pure h)))
def liI (l : Addr) : Obj := { cls := .type "list_iterator", data := .fields #[.ref l, .int 0 0] }
set_option maxHeartbeats 8000000 in
/-- set(xs), xs a list of texts -/
theorem set_of_list {l : Addr} {items : Array Value} {xs : List Str} {Q : Value → Shared → Prop} (hh : A.handled = none) (tl : s.heap.IsList l items) (hi : StrsAre items.toList xs) (hb : xs.length + 1 < scanBound)
    (h : ∀ (h2 : Heap) (tk : Nat), SetT P w h2 s.heap.objs.size (metS xs xs.length) → (∀ b o, s.heap.get? b = some o → h2.get? b = some o) → Q (.ref s.heap.objs.size) { s with heap := h2, toks := tk }) :
    wpAny (model P w) A (call (.type "set") [.ref l]) Q E s := by
  have esz : items.size = xs.length := (Array.length_toList (xs := items)).symm.trans (StrsAre.len_eq hi)
  obtain ⟨c, t0, hmro⟩ := F.called_set.mro
  have k1 := F.called_set.made; have k2 := F.called_set.sub; have k3 := F.called_set.notType; have k4 := F.called_set.canCreate; have k5 := F.typeCall_set_1 (.ref l)
  refine wpAny_call (codeAny_of_tree (show wpAny _ _ (callAny (.type "set") _) _ _ _ from wpAny_pure ⟨Code.quiet_builtin _ (by decide +kernel), codeAny_builtin F.entry_type_call ?_⟩))
  refine (congrArg (fun z => wpAny (model P w) z _ _ _ _) (Around.under_plain (weight_type_call_type "set" [.ref l] []) rfl)).mpr ?_
  repeat (any_goals (first | assumption | wp_step))
  refine codeAny_mono (code_setT (.ref l) (E := E) (Q1 := fun v s1 => v = .ref s.heap.objs.size ∧ s1 = { s with heap := s.heap.push (newS w) }) ⟨rfl, rfl⟩) fun r s1 hr => ?_
  cases r with
  | error _ => exact hr
  | ok f => cases f with
    | ret v =>
      obtain ⟨rfl, rfl⟩ := hr
      have gS : (s.heap.push (newS w)).get? s.heap.objs.size = some (newS w) := Heap.get?_push_size _ rfl
      have tS : Shared.TypeIs { s with heap := s.heap.push (newS w) } (.ref s.heap.objs.size) "set" := ⟨_, gS, rfl⟩
      have k6 := F.called_set.init.lookup; have k7 := F.called_set.init.bind (.ref s.heap.objs.size)
      repeat (any_goals (first | assumption | wp_step))
      refine codeAny_mono (codeAny_call_builtin (R := wants (fun r s2 => r = .none ∧ ∃ h2 tk, s2 = { s with heap := h2, toks := tk } ∧ SetT P w h2 s.heap.objs.size (metS xs xs.length) ∧ (∀ b o, s.heap.get? b = some o → h2.get? b = some o)) E) F.called_set.init.plain F.entry_set_init (check_set_init_1 tS ?_)) fun r2 s2 hr2 => ?_
      · obtain ⟨⟨oc, od, odt, osl⟩, ho, rfl, nn, rfl⟩ := tl
        have lS : l < s.heap.objs.size := Heap.lt_size ho
        have ho2 : (s.heap.push (newS w)).get? l = some { cls := .type "list", dict := od, data := .seq items nn, slots := osl } := Heap.get?_push_of_some _ ho
        have q1 := F.sub_list_set; have q2 := F.sub_list_frozenset
        have q3 : (Value.type "list" == Value.type "dict") = false := by decide
        have tl2 : (s.heap.push (newS w)).IsList l items := ⟨_, ho2, rfl, nn, rfl⟩
        unfold Builtin.«set.__init__» noKeywords Builtin.Frozenset.updateFrom
        generalize ePI : pyIter = PI
        wp_walk
        subst ePI
        refine wpAny_pyIter_list tl2 (wpAny_bind (wpAny_runValue ?_))
        have hA : A.in1.in1.in1.handled = none := by simp [hh]
        have sz : (s.heap.push (newS w)).objs.size = s.heap.objs.size + 1 := Heap.size_push ..
        have nI : l ≠ (s.heap.push (newS w)).objs.size := sz ▸ Nat.ne_of_lt (Nat.lt_succ_of_lt lS)
        have nf : s.heap.objs.size ∉ [(s.heap.push (newS w)).objs.size, l] := by
          simp only [sz, List.mem_cons, List.not_mem_nil, or_false, not_or]
          exact ⟨Nat.ne_of_lt (Nat.lt_succ_self _), Nat.ne_of_gt lS⟩
        have q4 : SetT P w ((s.heap.push (newS w)).push (liI l)) s.heap.objs.size [] := setT_new.at_ fun o e => Heap.get?_push_of_some _ e
        refine textsT_put ((Walks.list hA _ l nI items).toS) nf xs esz hb (fun i v y => strs_get hi i v ((Array.getElem?_toList ..).trans y)) items.size 0 _ (Nat.zero_add _).symm ⟨⟨_, Heap.get?_push_size _ rfl, rfl, rfl⟩, tl2.push _⟩ q4 fun s4 mv hS => ?_
        obtain ⟨h4, g4, d4, t4, o4⟩ := s4
        cases (show g4 = s.gens from mv.gens)
        cases (show d4 = s.drawn from mv.drawn)
        cases (show o4 = s.os from mv.os)
        rw [esz] at hS
        refine wpAny_pure (wpAny_pure ⟨rfl, h4, t4, rfl, hS, fun c o e => ?_⟩)
        have lc : c < s.heap.objs.size := Heap.lt_size e
        refine mv.heap c o ?_ (Heap.get?_push_of_some _ (Heap.get?_push_of_some _ e))
        simp only [sz, List.mem_cons, List.not_mem_nil, or_false, not_or]
        exact ⟨Nat.ne_of_lt lc, Nat.ne_of_lt (Nat.lt_succ_of_lt lc)⟩
      · cases r2 with
        | error _ => exact hr2
        | ok f2 => cases f2 with
          | ret v2 =>
            obtain ⟨rfl, h2, tk, rfl, hS, hk⟩ := hr2
            repeat (any_goals (first | assumption | wp_step))
            exact h _ _ hS hk
          | _ => exact hr2.elim
    | _ => exact hr.elim
end
end Dv
set_option Elab.async false
set_option linter.all false
set_option maxRecDepth 100000
set_option maxHeartbeats 4000000
/-! Ho: sorted of a set of texts. -/
namespace Dv
open PySem PySem.Spec PyProof.Rows L2
theorem perm_all : ∀ {l m : List Str}, l.Nodup → l ⊆ m → m.length = l.length → l.Perm m
  | [], m, _, _, e => by
    rw [List.length_eq_zero_iff.mp e]
  | x :: l, m, nd, sub, e => by
    obtain ⟨n1, n2⟩ := List.nodup_cons.mp nd
    have mx : x ∈ m := sub List.mem_cons_self
    have p := List.perm_cons_erase mx
    have e2 : (m.erase x).length = l.length := by
      have := p.length_eq
      rw [List.length_cons] at this e
      omega
    refine ((perm_all n2 (fun z hz => ?_) e2).cons x).trans p.symm
    rcases List.mem_cons.mp (p.mem_iff.mp (sub (List.mem_cons_of_mem _ hz))) with q | q
    · rw [q] at hz
      exact absurd hz n1
    · exact q
def txtOf (v : Value) : Str := match v with
  | .str z _ => z
  | _ => ""
theorem strs_all : ∀ (l : List Value), (∀ v ∈ l, ∃ z t, v = Value.str z t) → StrsAre l (l.map txtOf)
  | [], _ => .nil
  | v :: l, h => by
    obtain ⟨z, t, rfl⟩ := h v List.mem_cons_self
    exact .cons z t (strs_all l fun u hu => h u (List.mem_cons_of_mem _ hu))
section
variable {P : Program} {w : World} {A : Around} {E : Value → Shared → Prop} {s : Shared}
theorem is_txt {k : Str} {v : Value} (h : (strKind P w).is k v = true) : ∃ t, v = .str k t := by
  have z : Value.isStrOf k v = true := h
  cases v <;> first | (simp [Value.isStrOf] at z; done) | skip
  rename_i y t
  have e : y = k := by simpa [Value.isStrOf] using z
  exact ⟨t, by rw [e]⟩
theorem sorted_setT {a : Addr} {l : List Str} {Q : Value → Shared → Prop} (R : SetT P w s.heap a l) (hh : A.handled = none) (h64 : l.length < 64)
    (hQ : ∀ s' p (out : Array Value) (c : Nat), (∀ b o, s.heap.get? b = some o → s'.heap.get? b = some o) → s'.gens = s.gens → s'.os = s.os → s.heap.objs.size ≤ p →
      s'.heap.get? p = some (seqObj "list" out c) → StrsAre out.toList (srt l) → Q (.ref p) s') :
    wpAny (model P w) A (call (.builtin "sorted") [.ref a]) Q E s := by
  obtain ⟨⟨es, ep, t⟩, ho, F, L, nd⟩ := R
  have sz : es.size = l.length := F.sz
  have bd : es.size < scanBound := by unfold scanBound; omega
  refine Calls.call_function_entry kind_sorted plain_sorted entry_sorted (args_sorted1 _) ?_
  unfold Builtin.«sorted»
  refine wpAny_bind (m := checkCount "sorted" 1 1 _) (wpAny_pure ?_)
  refine wpAny_bind (collect_set (A := A.in1) hh ⟨_, ho, rfl, rfl⟩ F.fit bd L.1 L.2 fun s1 vs k1 hz g1 o1 pm => ?_)
  have tx : ∀ v ∈ vs, ∃ z u, v = Value.str z u ∧ z ∈ l := fun v hv => by
    obtain ⟨e, he, q⟩ := List.mem_map.mp (pm.mem_iff.mp hv)
    obtain ⟨k, ⟨k', e1, _⟩, _⟩ : ∃ k : Unit, (∃ k' : Str, (strKind P w).is k' e.2 = true ∧ True) ∧ True := by
      obtain ⟨⟨k', hk, _⟩, _⟩ := F.el e he
      exact ⟨(), ⟨k', hk, trivial⟩, trivial⟩
    obtain ⟨u, eu⟩ := is_txt e1
    exact ⟨k', u, by rw [← q]; exact eu, (F.mem k').mpr ⟨e, he, e1⟩⟩
  have hS := strs_all vs fun v hv => by
    obtain ⟨z, u, e, _⟩ := tx v hv
    exact ⟨z, u, e⟩
  have hl : vs.length = l.length := by rw [pm.length_eq, List.length_map, Array.length_toList]; exact sz
  have sub : l ⊆ vs.map txtOf := fun z m => by
    obtain ⟨e, he, q⟩ := (F.mem z).mp m
    obtain ⟨u, eu⟩ := is_txt q
    exact List.mem_map.mpr ⟨e.2, pm.mem_iff.mpr (List.mem_map.mpr ⟨e, he, rfl⟩), by rw [eu]; rfl⟩
  have pk : (vs.map txtOf).Perm l := (perm_all nd sub (by rw [List.length_map, hl])).symm
  refine wpAny_bind (wpAny_newList ?_ (by rw [hl, sizeLine_eq]; omega))
  have hoL : (s1.heap.push (seqObj "list" vs.toArray 0)).get? s1.heap.objs.size = some (seqObj "list" vs.toArray 0) := Heap.get?_push_size _ rfl
  refine wpAny_bind (wpAny_holding (wpAny_call_entry slot_list_sort ⟨_, hoL, rfl⟩ entry_list_sort (list_sort_treeKAny strKind_oneLt hoL hS.keysOf (fun v1 v2 rest e => keyKind_strs (by rw [← e]; exact hS)) (by rw [hl, sizeLine_eq]; omega) fun st' hp hs => ⟨_, rfl, ?_⟩) (args_list_sort _)))
  obtain ⟨ys, a1, a2, a3⟩ := sorted_out_str hS hp hs
  have ey : ys = srt l := sorted_srt (a2.trans pk) a3
  obtain ⟨c, hc⟩ := sortedHeap_at (vs := vs) (out := (arrOf st').map (·.2)) hoL
  refine wpAny_pure ⟨_, rfl, hQ _ s1.heap.objs.size _ c (fun b u e => ?_) g1 o1 hz hc (ey ▸ a1)⟩
  have q := k1 b u e
  have lt := Heap.lt_size q
  show (sortedHeap (s1.heap.push (seqObj "list" vs.toArray 0)) s1.heap.objs.size vs _).get? b = some u
  rw [sortedHeap_old (Nat.ne_of_lt lt) (by rw [size_push']; exact Nat.lt_succ_of_lt lt)]
  exact Heap.get?_push_of_some _ q
end
section
variable {X : Cx} {W : WX} {xw : XW} {K : PySem.W.Frag} {pos : Pos}
/-- the heap behind sorted, as H tells of it -/
theorem laid_sorted {pins : List (Addr × Obj)} {σ : L2.St} {H : Hp} {s s' : Shared} {p : Addr} {out : Array Value} {c : Nat} {ys : List Str} (I : Inv X pins σ H s) (h64 : ys.length < 64) (k : ∀ b o, s.heap.get? b = some o → s'.heap.get? b = some o) (g : s'.gens = s.gens) (o : s'.os = s.os) (hp : s.heap.objs.size ≤ p)
    (hg : s'.heap.get? p = some (seqObj "list" out c)) (hi : StrsAre out.toList ys) : H p = none ∧ Inv X pins σ (upd H p (.lst (ys.map V.str))) s' := by
  have hn : H p = none := I.hok.fresh hp
  have ll : (ys.map V.str).length ≤ sizeLine := by rw [List.length_map, sizeLine_eq]; omega
  have J : Inv X pins σ (upd H p (.lst (ys.map V.str))) { s with heap := s'.heap, gens := s'.gens, drawn := s'.drawn, toks := s'.toks } :=
    I.call (ch := []) (Un.laid k hp hn) (I.hok.laid k hp ⟨ll, out.toList, c, vals_of_strs hi, hg⟩) (by rw [g]; exact I.bare) (fun _ z => nomatch z)
  have e : s' = { s with heap := s'.heap, gens := s'.gens, drawn := s'.drawn, toks := s'.toks } := by
    cases s'
    cases s
    cases o
    rfl
  rw [← e] at J
  exact ⟨hn, J⟩
/-- sorted(set(xs)), xs a list of texts -/
def rSortSet (K : PySem.W.Frag) : V → Hp → VK → Prop := fun x H Q => ∃ (l : Addr) (xs : List Str), x = .ref l ∧ SqL K H l (xs.map V.str) ∧ xs.length < 64 ∧ ∀ p, H p = none → Q (.ref p) (upd H p (.lst ((srt (metS xs xs.length)).map V.str)))
def tSortSet (K : PySem.W.Frag) (ta : TE) : TE := fun σ H Q => ta σ H fun x H1 => rSortSet K x H1 Q
theorem pe_sortSet {a : Expr} {ta : TE} {p p2 q pos : Pos} (hc : X.calm = true) (ha : PE X a ta) (hm : X.mg "sorted" = none) (hm2 : X.mg "set" = none) (hg : Gl X "sorted") (hg2 : Gl X "set") (na : starEach [a] X.env = (false, eval a X.env) :: starEach [] X.env) : PE X (.Call (.Name "sorted" p) [.Call (.Name "set" p2) [a] [] q] [] pos) (tSortSet X.K ta) := by
  refine ⟨fun pins s σ H Q I h => Call_ (ld_blt I hg hm (show bootBuiltins "sorted" = some (.builtin "sorted") by decide +kernel) (callWith_builtin1 (args_cons ?_ rfl) rfl rfl))⟩
  refine Call_ (ld_blt I hg2 hm2 boot_set (callWith_type1 (args_cons (thn (ha.run pins s σ H _ I h) fun v s1 ⟨x, H1, I1, r1, q1⟩ => args_nil ?_) na) na rfl))
  obtain ⟨l, xs, rfl, hq, hl, q2⟩ := q1
  cases r1
  obtain ⟨its, r, pl, hz⟩ := I1.list hq
  have bd : xs.length + 1 < scanBound := by unfold scanBound; omega
  have m64 : (metS xs xs.length).length < 64 := Nat.lt_of_le_of_lt (metS_len xs _) hl
  refine set_of_list (I1.ok.hd hc) pl.isList (by simpa using strsAre_of r) bd fun h2 tk hS hk => args_nil ?_
  have I2 : Inv X pins σ H1 { s1 with heap := h2, toks := tk } := I1.kept fun b o e => hk b o e
  refine sorted_setT hS (I2.ok.hd hc) m64 fun s' p out c k g o hp hg hi => ?_
  obtain ⟨hn, J⟩ := laid_sorted I2 (by rw [srt_length]; exact m64) k g o hp hg hi
  exact ⟨.ref p, _, J, rfl, q2 p hn⟩
def dSortSet (a : DE) : DE := fun Γ k => a Γ fun s => match s with
  | .d (.lst l) => match unS l with
    | some xs => xs.length < 64 ∧ k (.d (.lst ((srt (metS xs xs.length)).map D.str)))
    | none => False
  | _ => False
theorem pd_sortSet {a : Expr} {ta : TE} {da : DE} {p p2 q : Pos} (hc : X.calm = true) (ha : PD X W xw a ta da) (hm : X.mg "sorted" = none) (hm2 : X.mg "set" = none) (hg : Gl X "sorted" := by rfl) (hg2 : Gl X "set" := by rfl) (na : starEach [a] X.env = (false, eval a X.env) :: starEach [] X.env := by rfl) :
    PD X W xw (.Call (.Name "sorted" p) [.Call (.Name "set" p2) [a] [] q] [] pos) (tSortSet X.K ta) (dSortSet da) :=
  ⟨fun tk => pe_sortSet hc (ha.pe tk) hm hm2 hg hg2 na, fun c eK hW Γ k hk σ H st Q q => ha.li c eK hW Γ _ hk σ H st _ fun v s H1 g r h => by
    try dsimp only at h
    split at h
    · rename_i l
      split at h
      · rename_i xs e
        obtain ⟨y, ey, rr⟩ := r
        cases ey
        cases rr with
        | lst nf il ra =>
          have z : SqL X.K H1 _ _ := .inl (.inl il)
          rw [unS_ok ra e] at z
          exact ⟨_, xs, rfl, z, h.1, fun p np => q _ (.d (.lst _)) _ (g.trans (Go.new g.inv np)) ⟨_, rfl, rp_newL g.inv np (rp_strsL _)⟩ h.2⟩
      · exact h.elim
    · exact h.elim⟩
end
end Dv
set_option Elab.async false
set_option linter.all false
set_option maxRecDepth 100000
set_option maxHeartbeats 4000000
/-! Hp: sorted({x for a in it for x in it2}), texts. -/
namespace Dv
open PySem PySem.Spec PyProof.Rows L2
abbrev sc2 (elt t1 i1 t2 i2 : Expr) (scope : Scope) (pos : Pos) : Expr := .SetComp elt [⟨t1, i1, [], 0⟩, ⟨t2, i2, [], 0⟩] scope pos
abbrev nope : Value → Shared → Prop := fun _ _ => False
section
variable {prog : Program} {w : World} {A : Around} {R : Result → Shared → Prop} {s : Shared} {env : Env} {elt t1 i1 t2 i2 : Expr} {scope : Scope} {pos : Pos} {it acc : Value}
theorem turn_in : compTurn (sc2 elt t1 i1 t2 i2 scope pos) 1 it acc env = (do
    standAt i2.pos
    match ← pyNext it with
    | none => pure (.done .next)
    | some v =>
      letOwnedTupleGo t2 it v
      assign t2 env v
      (do let v ← eval elt env; standAt elt.pos; let _ ← call (.builtin "set.add") [acc, v])
      again (.compLoop (sc2 elt t1 i1 t2 i2 scope pos) 1 it acc env)) := by rfl
theorem turn_out : compTurn (sc2 elt t1 i1 t2 i2 scope pos) 0 it acc env = (do
    standAt i1.pos
    match ← pyNext it with
    | none => pure (.done .next)
    | some v =>
      letOwnedTupleGo t1 it v
      assign t1 env v
      let x ← eval i2 env
      standAt i2.pos
      let x ← foldedSetIterable i2 env x
      let _ ← runOwn (.compStart (sc2 elt t1 i1 t2 i2 scope pos) 1 (← holding [x] (pyIter x)) acc env) env
      again (.compLoop (sc2 elt t1 i1 t2 i2 scope pos) 0 it acc env)) := by rfl
theorem loop_in (I : Nat → Shared → Prop)
    (turn : ∀ n s, I n s → wpAny (model prog w) A (pyNext it) (fun r s1 => match r with
      | none => R (.ok .next) s1
      | some v => wpAny (model prog w) A (letOwnedTupleGo t2 it v) (fun _ s2 => wpAny (model prog w) A (assign t2 env v) (fun _ s3 => wpAny (model prog w) A (eval elt env) (fun x s4 =>
          wpAny (model prog w) A (call (.builtin "set.add") [acc, x]) (fun _ s5 => ∃ m, m < n ∧ I m s5) nope s4) nope s3) nope s2) nope s1) nope s)
    (n : Nat) (h : I n s) : codeAny (model prog w) A (.compLoop (sc2 elt t1 i1 t2 i2 scope pos) 1 it acc env) R s := by
  refine codeAny_loop rfl I (fun n s hI => ?_) n h
  show wpAny _ A ((compTurn (sc2 elt t1 i1 t2 i2 scope pos) 1 it acc env).onRaise (fun x => do noteFrame x env; theTreesLotGoes x)) _ _ s
  refine wpAny_noted ?_
  rw [turn_in]
  refine wpAny_bind (wpAny_standAt (wpAny_bind (thnF (turn n s hI) fun r s1 h1 => ?_)))
  cases r with
  | none => exact wpAny_pure h1
  | some v =>
    refine wpAny_bind (thnF h1 fun _ s2 h2 => wpAny_bind (thnF h2 fun _ s3 h3 => wpAny_bind (wpAny_bind (thnF h3 fun x s4 h4 => wpAny_bind (wpAny_standAt (wpAny_bind (thnF h4 fun _ s5 h5 => wpAny_pure ?_)))))))
    exact wpAny_pure ⟨rfl, h5⟩
theorem loop_out (I : Nat → Shared → Prop) (hs : ∀ x, foldedSetIterable i2 env x = pure x)
    (turn : ∀ n s, I n s → wpAny (model prog w) A (pyNext it) (fun r s1 => match r with
      | none => R (.ok .next) s1
      | some v => wpAny (model prog w) A (letOwnedTupleGo t1 it v) (fun _ s2 => wpAny (model prog w) A (assign t1 env v) (fun _ s3 => wpAny (model prog w) A (eval i2 env) (fun x s4 =>
          wpAny (model prog w) A (pyIter x) (fun j s5 => codeAny (model prog w) A (.compStart (sc2 elt t1 i1 t2 i2 scope pos) 1 j acc env) (fun r s6 => match r with
            | .ok _ => ∃ m, m < n ∧ I m s6
            | .error _ => False) s5) nope s4) nope s3) nope s2) nope s1) nope s)
    (n : Nat) (h : I n s) : codeAny (model prog w) A (.compLoop (sc2 elt t1 i1 t2 i2 scope pos) 0 it acc env) R s := by
  refine codeAny_loop rfl I (fun n s hI => ?_) n h
  show wpAny _ A ((compTurn (sc2 elt t1 i1 t2 i2 scope pos) 0 it acc env).onRaise (fun x => do noteFrame x env; theTreesLotGoes x)) _ _ s
  refine wpAny_noted ?_
  rw [turn_out]
  refine wpAny_bind (wpAny_standAt (wpAny_bind (thnF (turn n s hI) fun r s1 h1 => ?_)))
  cases r with
  | none => exact wpAny_pure h1
  | some v =>
    refine wpAny_bind (thnF h1 fun _ s2 h2 => wpAny_bind (thnF h2 fun _ s3 h3 => wpAny_bind (thnF h3 fun x s4 h4 => wpAny_bind (wpAny_standAt (wpAny_bind (wpAny_of_eq (hs x) ?_))))))
    refine wpAny_bind (wpAny_holding (thnF h4 fun j s5 h5 => wpAny_bind (wpAny_runOwn (codeAny_mono h5 fun r s6 h6 => ?_))))
    cases r with
    | ok f => exact wpAny_pure ⟨rfl, h6⟩
    | error e => exact h6.elim
theorem start_in (h0 : codeAny (model prog w) A (.compLoop (sc2 elt t1 i1 t2 i2 scope pos) 1 it acc env) R s)
    (h : wpAny (model prog w) A (pyIter it) (fun j s1 => codeAny (model prog w) A (.compLoop (sc2 elt t1 i1 t2 i2 scope pos) 1 j acc env) R s1) nope s) : codeAny (model prog w) A (.compStart (sc2 elt t1 i1 t2 i2 scope pos) 1 it acc env) R s := by
  refine codeAny_of_tree ?_
  show wpAny _ _ ((compStart (sc2 elt t1 i1 t2 i2 scope pos) 1 it acc env).onRaise (fun x => do noteFrame x env; standAt theWindowsPlace)) _ _ s
  refine wpAny_notedAt ?_
  unfold compStart
  show wpAny _ _ (ask >>= _) _ _ s
  refine wpAny_bind (wpAny_askSetting (wpAny_ite ?_))
  split
  · first
      | exact wpAny_bind (wpAny_pure (wpAny_pure (And.intro rfl h0)))
      | exact wpAny_pure (And.intro rfl h0)
  · first
      | exact wpAny_bind (wpAny_rule (wpAny_bind (wpAny_standAt (wpAny_bind (thnF h fun j s1 h1 => wpAny_pure (And.intro rfl h1))))))
      | (refine wpAny_bind (wpAny_rule ?_); show wpAny _ _ (standAt i2.pos >>= _) _ _ s; exact wpAny_bind (wpAny_standAt (wpAny_bind (thnF h fun j s1 h1 => wpAny_pure (And.intro rfl h1)))))
end
section
variable {X : Cx}
/-- sorted({elt for t1 in i1 for t2 in i2}): the members as they come -/
def tSc2 (wi1 : TI) (g1 : TG) (wi2 : TI) (g2 : TG) (te : TE) (vs : List Nat) : TE := fun σ H Q => wi1 σ H fun J H1 => ∃ W : Nat → Nat → List Str → Hp → Prop, (∃ m, W 0 m [] H1) ∧ ∀ i m l H, W i m l H →
  (J.stop i H ∧ l.length < 64 ∧ ∀ p, H p = none → Q (.ref p) (upd H p (.lst ((srt l).map V.str)))) ∨
  (J.go i H ∧ ∃ Nx : List Str → Hp → Prop, (∀ l' H', Nx l' H' → ∃ m', m' < m ∧ W (i + 1) m' l' H') ∧ ∀ x H', J.yld i H x H' → g1 x (wipe σ vs) H' fun σ2 H2 => wi2 σ2 H2 fun J2 H3 =>
    ∃ W2 : Nat → Nat → List Str → L2.St → Hp → Prop, (∃ m2, W2 0 m2 l σ2 H3) ∧ ∀ j m2 l2 σ3 H, W2 j m2 l2 σ3 H → (wipe σ3 vs = wipe σ vs ∧ J2.stop j H ∧ Nx l2 H) ∨
      (J2.go j H ∧ l2.length + 1 < scanBound ∧ ∃ Nx2 : List Str → L2.St → Hp → Prop, (∀ l' σ' H', Nx2 l' σ' H' → ∃ m', m' < m2 ∧ W2 (j + 1) m' l' σ' H') ∧ ∀ x H', J2.yld j H x H' → g2 x σ3 H' fun σ4 H4 => te σ4 H4 fun y H5 => ∃ z, y = .str z ∧ Nx2 (addS l2 z) σ4 H5))
theorem SetT.obj {P : Program} {w : World} {h : Heap} {a : Addr} {l : List Str} (R : SetT P w h a l) : ∃ o, h.get? a = some o ∧ (∀ v, o.data ≠ .cell v) := by
  obtain ⟨D, ho, _⟩ := R
  exact ⟨_, ho, fun v e => nomatch e⟩
/-- a set pinned -/
theorem Inv.pinS {Y : Cx} {q : List (Addr × Obj)} {σ : L2.St} {H : Hp} {s : Shared} {D : Addr} {l : List Str} (I : Inv Y q σ H s) (f : FpOk Y q H D) (S : SetT Y.prog Y.w s.heap D l) : Inv Y (q ++ pinsAt [D] s.heap) σ H s :=
  I.pinned (fun b hb => (List.mem_singleton.mp hb) ▸ f) fun b hb => (List.mem_singleton.mp hb) ▸ S.obj
theorem Inv.keepS {Y : Cx} {q : List (Addr × Obj)} {σ : L2.St} {H : Hp} {s s0 : Shared} {D : Addr} {l : List Str} (I : Inv Y (q ++ pinsAt [D] s0.heap) σ H s) (S : SetT Y.prog Y.w s0.heap D l) : SetT Y.prog Y.w s.heap D l ∧ H D = none := by
  obtain ⟨o, ho, _⟩ := S.obj
  have z := I.pin (D, o) (List.mem_append_right _ (List.mem_append_right _ (mem_pinsAt (List.mem_singleton.mpr rfl) ho)))
  refine ⟨S.at_ fun o' e => ?_, z.2.1⟩
  rw [ho] at e
  cases e
  exact z.1
theorem pinsAt_one {D : Addr} {h : Heap} {p : Addr × Obj} (m : p ∈ pinsAt [D] h) : p.1 = D := List.mem_singleton.mp (of_pinsAt m).1
theorem pe_sc2 {elt t1 i1 t2 i2 : Expr} {scope : Scope} {own : List (PySem.Str × Nat)} {p spos pos : Pos} {wi1 wi2 : TI} {g1 g2 : TG} {te : TE} (hc : X.calm = true) (hN : X.N.Nodup) (hm : X.mg "sorted" = none) (hg0 : Gl X "sorted") (hi1 : PI X t1 i1 wi1) (ok : BlkOk X.N X.env.scope scope own)
    (hg1 : ∀ (s : Shared) (H : Hp) (C : Addr) (cl : List (PySem.Str × Addr)) (fp : List Addr), PG (X.blk s H scope (compEnvC scope cl C X.env) fp) t1 g1) (hi2 : ∀ (s : Shared) (H : Hp) (C : Addr) (cl : List (PySem.Str × Addr)) (fp : List Addr), PI (X.blk s H scope (compEnvC scope cl C X.env) fp) t2 i2 wi2)
    (hg2 : ∀ (s : Shared) (H : Hp) (C : Addr) (cl : List (PySem.Str × Addr)) (fp : List Addr), PG (X.blk s H scope (compEnvC scope cl C X.env) fp) t2 g2) (he : ∀ (s : Shared) (H : Hp) (C : Addr) (cl : List (PySem.Str × Addr)) (fp : List Addr), PE (X.blk s H scope (compEnvC scope cl C X.env) fp) elt te)
    (hs1 : ∀ x, foldedSetIterable i1 X.env x = pure x := by intro _; rfl) (hs2 : ∀ (env : Env) x, foldedSetIterable i2 env x = pure x := by intros; rfl)
    (na : starEach [sc2 elt t1 i1 t2 i2 scope spos] X.env = (false, eval (sc2 elt t1 i1 t2 i2 scope spos) X.env) :: starEach [] X.env := by rfl) :
    PE X (.Call (.Name "sorted" p) [sc2 elt t1 i1 t2 i2 scope spos] [] pos) (tSc2 wi1 g1 wi2 g2 te (own.map (·.2))) := by
  refine ⟨fun pins s σ H Q I h => Call_ (ld_blt I hg0 hm (show bootBuiltins "sorted" = some (.builtin "sorted") by decide +kernel) (callWith_builtin1 (args_cons ?_ na) rfl rfl))⟩
  let Qf : Value → Shared → Prop := fun v s1 => ∃ D H1 l, v = .ref D ∧ Inv X pins σ H1 s1 ∧ SetT X.prog X.w s1.heap D l ∧ l.length < 64 ∧ ∀ p, H1 p = none → Q (.ref p) (upd H1 p (.lst ((srt l).map V.str)))
  suffices core : wpAny (model X.prog X.w) X.A (comprehension (sc2 elt t1 i1 t2 i2 scope spos) scope X.env (firstIterPos [⟨t1, i1, [], 0⟩, ⟨t2, i2, [], 0⟩] spos) (newSet (.type "set")) false (eval i1 X.env) none) Qf X.xe s by
    refine thn core fun v s1 ⟨D, H1, l, ev, I1, S1, h64, q1⟩ => args_nil ?_
    subst ev
    refine sorted_setT S1 (I1.ok.hd hc) h64 fun s' p out c k g o hp hg hi => ?_
    obtain ⟨hn, J⟩ := laid_sorted I1 (by rw [srt_length]; exact h64) k g o hp hg hi
    exact ⟨.ref p, _, J, rfl, q1 p hn⟩
  have hfree : ∀ y ∈ scope.names, y.2 = .free → ∃ c, X.env.cells.lookup y.1 = some c := fun y hy e => by
    rcases ok.free y hy e with k | k
    · exact I.ok.has _ (.inl k)
    · exact I.ok.has _ (.inr k)
  refine wpAny_comprehension_free (use := none) rfl hs1 (closure_ok hfree) ok.kind (fun y hy e => by rw [ok.uniq y hy, e]) (thn (hi1.run pins s σ H _ I h) fun xv s1 hx => thn hx fun itv s2 h2 => ?_)
  obtain ⟨it, fp, tn, J, H2, e, I2, T, st2, f2, W, ⟨m0, w0⟩, turn⟩ := h2
  subst e
  refine PpSet.newSet_ok (newEnv_comp ?_)
  generalize hD : s2.heap.objs.size = D
  have hDn : H2 D = none := I2.hok.fresh (Nat.le_of_eq hD)
  have fD := I2.fpOk (H' := H2) (Nat.le_of_eq hD) hDn
  generalize ez3 : ({ s2 with heap := s2.heap.push { cls := .type "set", dict := none, data := .set #[] 0 (.fresh 0 0 (!X.w.params.followText "set-order")) } } : Shared) = s3
  have hs3 : ({ s2 with heap := s2.heap.push (newS X.w) } : Shared) = s3 := ez3
  have h3 : s3.heap = s2.heap.push (newS X.w) := by rw [← hs3]
  have I3 : Inv X pins σ H2 s3 := by
    rw [← hs3]
    exact I2.kept (t' := s2.toks) fun b o e => Heap.get?_push_of_some _ e
  have S3 : SetT X.prog X.w s3.heap D [] := by
    rw [h3, ← hD]
    exact setT_new
  have sz : ∀ b ∈ fp, b < s2.heap.objs.size := fun b hb => by
    obtain ⟨o, e, _⟩ := T.obj _ _ st2 b hb
    exact Heap.lt_size e
  have nDf : D ∉ fp := fun m => absurd (sz D m) (by rw [hD]; exact Nat.lt_irrefl _)
  have f3 : ∀ b ∈ D :: fp, FpOk X pins H2 b ∧ b < s3.heap.objs.size := fun b hb => by
    rcases List.mem_cons.mp hb with rfl | hb
    · exact ⟨fD, by rw [h3, Heap.size_push, hD]; exact Nat.lt_succ_self _⟩
    · exact ⟨f2 b hb, by rw [h3, Heap.size_push]; exact Nat.lt_succ_of_lt (sz b hb)⟩
  have st3 : tn 0 s3.heap := T.keep _ _ _ st2 fun b _ o e => by rw [h3]; exact Heap.get?_push_of_some _ e
  have I4 := block_start I3 ok hN f3
  have pg1 := hg1 s3 H2 s3.heap.objs.size (cellsFrom (s3.heap.objs.size + 1) scope.names (cloFrom X.env.cells scope.names [])) (D :: fp)
  have pi2 := hi2 s3 H2 s3.heap.objs.size (cellsFrom (s3.heap.objs.size + 1) scope.names (cloFrom X.env.cells scope.names [])) (D :: fp)
  have pg2 := hg2 s3 H2 s3.heap.objs.size (cellsFrom (s3.heap.objs.size + 1) scope.names (cloFrom X.env.cells scope.names [])) (D :: fp)
  have pe := he s3 H2 s3.heap.objs.size (cellsFrom (s3.heap.objs.size + 1) scope.names (cloFrom X.env.cells scope.names [])) (D :: fp)
  show codeAny _ _ (.compStart (sc2 elt t1 i1 t2 i2 scope spos) 0 (.ref it) (.ref D) (compEnvC scope (cellsFrom (s3.heap.objs.size + 1) scope.names (cloFrom X.env.cells scope.names [])) s3.heap.objs.size X.env)) (compPost (model X.prog X.w) X.A X.xe none Qf (.ref D) s3.heap.objs.size) { s3 with heap := pushCells (s3.heap.push { cls := .type "dict", data := .dict #[] }) scope.names }
  generalize hce : compEnvC scope (cellsFrom (s3.heap.objs.size + 1) scope.names (cloFrom X.env.cells scope.names [])) s3.heap.objs.size X.env = ce at I4 pg1 pi2 pg2 pe ⊢
  have cL : ce.locals = s3.heap.objs.size := by
    subst hce
    rfl
  generalize hs4 : ({ s3 with heap := pushCells (s3.heap.push { cls := .type "dict", data := .dict #[] }) scope.names } : Shared) = s4 at I4 ⊢
  have k4 : ∀ b o, s3.heap.get? b = some o → s4.heap.get? b = some o := fun b o e => by rw [← hs4]; exact pushCells_keeps _ _ _ _ (Heap.get?_push_of_some _ e)
  have st4 : tn 0 s4.heap := T.keep _ _ _ st3 fun b _ o e => k4 b o e
  have S4 : SetT X.prog X.w s4.heap D [] := S3.at_ fun o e => k4 D o e
  have stat : ∀ {q : List (Addr × Obj)} {σ' : L2.St} {H' : Hp} {s' : Shared} {b : Addr}, Inv (X.blk s3 H2 scope ce (D :: fp)) q σ' H' s' → b ∈ D :: fp → H' b = none → (∀ p ∈ q, p.1 ≠ b) → FpOk (X.blk s3 H2 scope ce (D :: fp)) q H' b := fun {q σ' H' s' b} I' hb hn hq =>
    ⟨hn, (I'.ok.exf b hb).1, I'.ok.exfs b hb, .inl hb, fun x c e => (I'.ok.exf b hb).2 x c e, fun p hp => hq p hp⟩
  have mD : D ∈ D :: fp := List.mem_cons_self
  have mf : ∀ {b}, b ∈ fp → b ∈ D :: fp := fun m => List.mem_cons_of_mem _ m
  have no : ∀ {b : Addr}, ∀ p ∈ ([] : List (Addr × Obj)), p.1 ≠ b := fun p hp => nomatch hp
  have loop : codeAny (model X.prog X.w) X.A (.compLoop (sc2 elt t1 i1 t2 i2 scope spos) 0 (.ref it) (.ref D) ce) (compPost (model X.prog X.w) X.A X.xe none Qf (.ref D) s3.heap.objs.size) s4 := by
    refine loop_out (fun n s' => ∃ i H' l, Inv (X.blk s3 H2 scope ce (D :: fp)) [] (wipe σ (own.map (·.2))) H' s' ∧ tn i s'.heap ∧ (∀ b ∈ fp, H' b = none) ∧ H' D = none ∧ SetT X.prog X.w s'.heap D l ∧ W i n l H') (hs2 ce) ?_ m0 ⟨0, H2, [], I4, st4, fun b hb => (f2 b hb).1, hDn, S4, w0⟩
    rintro n s5 ⟨i, H5, l, I5, st5, n5, nD5, S5, w5⟩
    have P5 := Inv.pinS I5 (stat I5 mD nD5 no) S5
    have ff : ∀ b ∈ fp, FpOk (X.blk s3 H2 scope ce (D :: fp)) ([] ++ pinsAt [D] s5.heap) H5 b := fun b hb => stat P5 (mf hb) (n5 b hb) fun p hp z => nDf (by
      rw [← pinsAt_one (show p ∈ pinsAt [D] s5.heap from hp), z]
      exact hb)
    rcases turn i n l H5 w5 with ⟨stop, h64, qq⟩ | ⟨go, Nx, hNx, step⟩
    · refine thnF (T.done (X.blk s3 H2 scope ce (D :: fp)) rfl rfl rfl hc i _ s5 _ H5 nope P5 ff st5 stop) fun r s6 ⟨hr, I6⟩ => ?_
      subst hr
      obtain ⟨S6, nD6⟩ := Inv.keepS I6 S5
      have I7 : Inv X pins σ H5 s6 := I3.call' (ch := D :: fp) I6.os I6.base I6.hok I6.bare fun b hb => ⟨(f3 b hb).1.2.2.2.1, (f3 b hb).1.2.1, (f3 b hb).1.2.2.2.2.1, (f3 b hb).1.2.2.2.2.2⟩
      have nC : H5 s3.heap.objs.size = none := by
        have z : H5 ce.locals = none := I6.free
        rw [cL] at z
        exact z
      obtain ⟨m, hn, _⟩ := I6.loc
      have hn : s6.heap.Ns ce.locals m := hn
      rw [cL] at hn
      have f6 := I3.fpOk (Nat.le_refl _) nC
      have nDC : D ≠ s3.heap.objs.size := Nat.ne_of_lt (f3 D mD).2
      refine ⟨m, hn, fun h' sb => ⟨D, H5, l, rfl, ?_, S6.at_ fun o e => (sb.2 D nDC).trans e, h64, qq⟩⟩
      obtain ⟨g0, g1', g2', g3, g4, g5⟩ := f6
      exact I7.turned (t' := s6.toks) (fun b o hb e => (sb.2 b hb).trans e) g0 g1' g3 g4 g5
    · refine thnF (T.item (X.blk s3 H2 scope ce (D :: fp)) rfl rfl rfl hc i _ s5 _ H5 nope P5 ff st5 go) fun r s6 ⟨u, hr, h6⟩ => ?_
      subst hr
      refine thnF h6 fun _ s7 ⟨x, H7, I7, r7, y7, st7, n7⟩ => ?_
      obtain ⟨S7, nD7⟩ := Inv.keepS I7 S5
      have I7u : Inv (X.blk s3 H2 scope ce (D :: fp)) [] (wipe σ (own.map (·.2))) H7 s7 := I7.unpinned
      have I7p := I7u.pinned (fun b hb => stat I7u (mf hb) (n7 b hb) no) (T.obj _ _ st7)
      have nfD : ∀ {h : Heap}, ∀ p ∈ [] ++ pinsAt fp h, p.1 ≠ D := fun {h} p hp z => nDf (by
        rw [← z]
        exact (of_pinsAt (show p ∈ pinsAt fp h from hp)).1)
      have I7q := Inv.pinS I7p (stat I7p mD nD7 nfD) S7
      refine thnF (pg1.run _ s7 _ H7 x u _ I7q r7 (step x H7 y7)) fun _ s8 ⟨σ8, H8, I8, q8⟩ => ?_
      refine thnF (pi2.run _ s8 σ8 H8 _ I8 q8) fun x2 s9 h9 => thnF h9 fun j s10 h10 => ?_
      obtain ⟨it2, fp2, tn2, J2, H10, e, I10, T2, st10, f10, W2, ⟨m20, w20⟩, turn2⟩ := h10
      subst e
      obtain ⟨S10, nD10⟩ := Inv.keepS I10 S7
      have nD2 : D ∉ fp2 := fun m => by
        obtain ⟨o, ho, _⟩ := S7.obj
        exact (f10 D m).2.2.2.2.2 (D, o) (List.mem_append_right _ (List.mem_append_right _ (mem_pinsAt (List.mem_singleton.mpr rfl) ho))) rfl
      have fp2ok : ∀ {h : Heap} {H' : Hp} {b : Addr}, b ∈ fp2 → H' b = none → FpOk (X.blk s3 H2 scope ce (D :: fp)) ([] ++ pinsAt fp s7.heap ++ pinsAt [D] h) H' b := fun {h H' b} hb hn => by
        obtain ⟨_, z1, z2, z3, z4, z5⟩ := f10 b hb
        refine ⟨hn, z1, z2, z3, z4, fun p hp => ?_⟩
        rcases List.mem_append.mp hp with hp | hp
        · exact nomatch hp
        rcases List.mem_append.mp hp with hp | hp
        · exact z5 p (List.mem_append_right _ (List.mem_append_left _ hp))
        · intro z
          rw [pinsAt_one hp] at z
          exact nD2 (z ▸ hb)
      have fp2ok' : ∀ {H' : Hp} {b : Addr}, b ∈ fp2 → H' b = none → FpOk (X.blk s3 H2 scope ce (D :: fp)) ([] ++ pinsAt fp s7.heap) H' b := fun {H' b} hb hn => by
        obtain ⟨_, z1, z2, z3, z4, z5⟩ := f10 b hb
        refine ⟨hn, z1, z2, z3, z4, fun p hp => ?_⟩
        rcases List.mem_append.mp hp with hp | hp
        · exact nomatch hp
        · exact z5 p (List.mem_append_right _ (List.mem_append_left _ hp))
      have inner : codeAny (model X.prog X.w) X.A (.compLoop (sc2 elt t1 i1 t2 i2 scope spos) 1 (.ref it2) (.ref D) ce) (fun r s' => match r with
          | .ok _ => ∃ m, m < n ∧ ∃ i H' l, Inv (X.blk s3 H2 scope ce (D :: fp)) [] (wipe σ (own.map (·.2))) H' s' ∧ tn i s'.heap ∧ (∀ b ∈ fp, H' b = none) ∧ H' D = none ∧ SetT X.prog X.w s'.heap D l ∧ W i m l H'
          | .error _ => False) s10 := by
        refine loop_in (fun n2 s' => ∃ j l2 σ3 H', Inv (X.blk s3 H2 scope ce (D :: fp)) ([] ++ pinsAt fp s7.heap) σ3 H' s' ∧ tn2 j s'.heap ∧ (∀ b ∈ fp2, H' b = none) ∧ H' D = none ∧ SetT X.prog X.w s'.heap D l2 ∧ W2 j n2 l2 σ3 H') ?_ m20 ⟨0, l, σ8, H10, I10.unpinned, st10, fun b hb => (f10 b hb).1, nD10, S10, w20⟩
        rintro n2 s11 ⟨j, l2, σ11, H11, I11, st11, n11, nD11, S11, w11⟩
        have P11 := Inv.pinS I11 (stat I11 mD nD11 nfD) S11
        rcases turn2 j n2 l2 σ11 H11 w11 with ⟨hw, stop, nx⟩ | ⟨go2, hb2, Nx2, hNx2, step2⟩
        · refine thnF (T2.done (X.blk s3 H2 scope ce (D :: fp)) rfl rfl rfl hc j _ s11 _ H11 nope P11 (fun b hb => fp2ok hb (n11 b hb)) st11 stop) fun r s12 ⟨hr, I12⟩ => ?_
          subst hr
          obtain ⟨S12, nD12⟩ := Inv.keepS I12 S11
          obtain ⟨m', hm', w'⟩ := hNx l2 H11 nx
          have I12u : Inv (X.blk s3 H2 scope ce (D :: fp)) ([] ++ pinsAt fp s7.heap) σ11 H11 s12 := I12.unpinned
          have pin' : ∀ b ∈ fp, ∀ o, s7.heap.get? b = some o → s12.heap.get? b = some o ∧ H11 b = none := fun b hb o e =>
            let z := I12u.pin (b, o) (List.mem_append_right _ (List.mem_append_right _ (mem_pinsAt hb e)))
            ⟨z.1, z.2.1⟩
          have hl : (wipe σ (own.map (·.2))).length = σ11.length := by rw [← hw, wipe_length]
          refine ⟨m', hm', i + 1, H11, l2, (I12u.unpinned (pins := [])).weak hl (fun j v e => ?_), T.keep _ _ _ st7 fun b hb o e => (pin' b hb o e).1, fun b hb => ?_, nD12, S12, w'⟩
          · rw [← hw] at e
            exact (wipe_some e).1
          · obtain ⟨o, e, _⟩ := T.obj _ _ st7 b hb
            exact (pin' b hb o e).2
        · refine thnF (T2.item (X.blk s3 H2 scope ce (D :: fp)) rfl rfl rfl hc j _ s11 _ H11 nope P11 (fun b hb => fp2ok hb (n11 b hb)) st11 go2) fun r s12 ⟨u2, hr, h12⟩ => ?_
          subst hr
          refine thnF h12 fun _ s13 ⟨y, H13, I13, r13, y13, st13, n13⟩ => ?_
          obtain ⟨S13, nD13⟩ := Inv.keepS I13 S11
          have I13u : Inv (X.blk s3 H2 scope ce (D :: fp)) ([] ++ pinsAt fp s7.heap) σ11 H13 s13 := I13.unpinned
          have I13p := I13u.pinned (fun b hb => fp2ok' hb (n13 b hb)) (T2.obj _ _ st13)
          have nqD : ∀ p ∈ [] ++ pinsAt fp s7.heap ++ pinsAt fp2 s13.heap, p.1 ≠ D := fun p hp => by
            rcases List.mem_append.mp hp with hp | hp
            · exact nfD p hp
            · intro z
              exact nD2 (by rw [← z]; exact (of_pinsAt hp).1)
          have I13q := Inv.pinS I13p (stat I13p mD nD13 nqD) S13
          refine thnF (pg2.run _ s13 _ H13 y u2 _ I13q r13 (step2 y H13 y13)) fun _ s14 ⟨σ14, H14, I14, q14⟩ => ?_
          refine thnF (pe.run _ s14 σ14 H14 _ I14 q14) fun zv s15 ⟨yv, H15, I15, r15, z, ez, nx2⟩ => ?_
          subst ez
          obtain ⟨S15, nD15⟩ := Inv.keepS I15 S13
          obtain ⟨tz, etz⟩ : ∃ t, zv = .str z t := r15
          subst etz
          refine setT_add S15 hb2 fun h' sb S16 => ?_
          have I15u : Inv (X.blk s3 H2 scope ce (D :: fp)) ([] ++ pinsAt fp s7.heap ++ pinsAt fp2 s13.heap) σ14 H15 s15 := I15.unpinned
          obtain ⟨b0, b1, b2, b3, b4, b5⟩ := stat I15u mD nD15 nqD
          have I16 := I15u.turned (t' := s15.toks + 1) (fun b o hb e => (sb.2 b hb).trans e) b0 b1 b3 b4 b5
          obtain ⟨m', hm', w'⟩ := hNx2 _ _ _ nx2
          have pin' : ∀ b ∈ fp2, ∀ o, s13.heap.get? b = some o → h'.get? b = some o ∧ H15 b = none := fun b hb o e =>
            let z := I16.pin (b, o) (List.mem_append_right _ (List.mem_append_right _ (mem_pinsAt hb e)))
            ⟨z.1, z.2.1⟩
          refine ⟨m', hm', j + 1, addS l2 z, σ14, H15, I16.unpinned, T2.keep _ _ _ st13 fun b hb o e => (pin' b hb o e).1, fun b hb => ?_, nD15, S16, w'⟩
          obtain ⟨o, e, _⟩ := T2.obj _ _ st13 b hb
          exact (pin' b hb o e).2
      exact start_in inner (T2.self X.A 0 _ _ _ st10 inner)
  exact PpSet.codeAny_compStart_set loop (T.self X.A 0 _ _ _ st4 loop)
end
end Dv
set_option Elab.async false
set_option linter.all false
set_option maxRecDepth 100000
set_option maxHeartbeats 4000000
/-! Hq: sorted({x for a in it for x in it2}) on data. -/
namespace Dv
open PySem L2
def scI (j : Nat) (de : DE) (Γ : Gm) : List D → List Str → (List Str → Prop) → Prop
  | [], l, k => k l
  | y :: r, l, k => l.length < 1000 ∧ de (Γ.set j (.d y)) fun s => match s with
    | .d (.str z) => scI j de Γ r (addS l z) k
    | _ => False
def scG (i j : Nat) (di2 : DI) (de : DE) (Γ : Gm) : List D → List Str → (List Str → Prop) → Prop
  | [], l, k => k l
  | x :: r, l, k => di2 (Γ.set i (.d x)) fun ys => scI j de (Γ.set i (.d x)) ys l fun l' => scG i j di2 de Γ r l' k
def dSc2 (i j : Nat) (di1 di2 : DI) (de : DE) : DE := fun Γ k => di1 Γ fun xs => scG i j di2 de (Γ.set j .any) xs [] fun l => l.length < 64 ∧ k (.d (.lst ((srt l).map D.str)))
section
variable {X : Cx} {W : WX} {xw : XW} {K : PySem.W.Frag} {pos : Pos}
theorem li_sc2 {i j : Nat} {wi1 wi2 : TI} {te : TE} {di1 di2 : DI} {de : DE} (hij : i ≠ j) (h1 : LiI K W xw wi1 di1) (h2 : LiI K W0 xw0 wi2 di2) (h3 : Li K W0 xw0 te de) : Li K W xw (tSc2 wi1 (gName i) wi2 (gName j) te [i, j]) (dSc2 i j di1 di2 de) := fun c eK hW Γ k hk σ H st Q q => by
  refine h1 c eK hW Γ _ hk σ H st _ fun J H1 xs g1 wo hxs => ?_
  obtain ⟨φ, wk, hφ⟩ := wo.now
  let c' := c.wth φ fun k z h => wk.st (k.le fun _ z => c.WF z) z h
  have lc : Le c c' := Le.wth
  refine ⟨fun n m l H => m = xs.length - n ∧ n ≤ xs.length ∧ StOk c' σ H Γ ∧ Kp c.G H1 H ∧ scG i j di2 de (Γ.set j .any) (xs.drop n) l fun l => l.length < 64 ∧ k (.d (.lst ((srt l).map D.str))), ⟨xs.length, by simp, Nat.zero_le _, (st.go g1).wth hφ, Kp.self, hxs⟩, ?_⟩
  rintro n m l H2 ⟨rfl, hn, s2, k2, hd2⟩
  by_cases hlt : n < xs.length
  · refine .inr ⟨wk.go n H2 s2.inv.2 s2.inv.1 hlt, fun l' H' => n + 1 ≤ xs.length ∧ StOk c' σ H' Γ ∧ Kp c.G H1 H' ∧ scG i j di2 de (Γ.set j .any) (xs.drop (n + 1)) l' fun l => l.length < 64 ∧ k (.d (.lst ((srt l).map D.str))), fun l' H' z => ⟨xs.length - (n + 1), by omega, rfl, z⟩, fun x H' y => ?_⟩
    have ex : xs[n]? = some xs[n] := List.getElem?_eq_some_iff.mpr ⟨hlt, rfl⟩
    obtain ⟨g2, rx⟩ := wk.yld n H2 x H' xs[n] s2.inv.2 s2.inv.1 ex y
    rw [List.drop_eq_getElem_cons hlt, scG] at hd2
    have g2' : Go c' H2 H' := ⟨g2.keep, g2.inv, wk.st g2.kF (Kz.of g2.keep) s2.inv.2⟩
    have s3 : StOk c' σ H' Γ := s2.go g2'
    have rx' : Rp c' H' x xs[n] := Rp.to (c := c) (c' := c') rfl (fun _ z => z) Kp.self rx
    have ew : wipe σ [i, j] = (σ.set j none).set i none := rfl
    show wi2 ((wipe σ [i, j]).set i (some x)) H' _
    rw [ew, List.set_set]
    have s4 : StOk c' ((σ.set j none).set i (some x)) H' ((Γ.set j .any).set i (.d xs[n])) := (s3.set (o := none) (s := .any) trivial).set (s := .d xs[n]) ⟨x, rfl, rx'⟩
    refine h2 c' eK WOk.zero _ _ hd2 _ H' s4 _ fun J2 H3 ys g3 wo2 hys => ?_
    obtain ⟨φ2, wk2, hφ2⟩ := wo2.now
    let c2 := c'.wth φ2 fun k z h => wk2.st (k.le fun _ z => c'.WF z) z h
    have lc2 : Le c' c2 := Le.wth
    refine ⟨fun p m2 l2 σ3 H => m2 = ys.length - p ∧ p ≤ ys.length ∧ (σ3 = (σ.set j none).set i (some x) ∨ ∃ u, σ3 = ((σ.set j none).set i (some x)).set j u) ∧ StOk c2 σ H Γ ∧ Kp c.G H1 H ∧ StOk c2 ((σ.set j none).set i (some x)) H ((Γ.set j .any).set i (.d xs[n])) ∧ scI j de ((Γ.set j .any).set i (.d xs[n])) (ys.drop p) l2 fun l' => scG i j di2 de (Γ.set j .any) (xs.drop (n + 1)) l' fun l => l.length < 64 ∧ k (.d (.lst ((srt l).map D.str))), ⟨ys.length, by simp, Nat.zero_le _, .inl rfl, (s3.go g3).wth hφ2, k2.trans (g2.keep.trans g3.keep), (s4.go g3).wth hφ2, hys⟩, ?_⟩
    rintro p m2 l2 σ3 H5 ⟨rfl, hp, eσ, s5, k5, s6, hd5⟩
    by_cases hlp : p < ys.length
    · rw [List.drop_eq_getElem_cons hlp, scI] at hd5
      obtain ⟨hl2, hd5⟩ := hd5
      refine .inr ⟨wk2.go p H5 s5.inv.2 s5.inv.1 hlp, by unfold scanBound; omega, fun l' σ' H' => p + 1 ≤ ys.length ∧ (σ' = (σ.set j none).set i (some x) ∨ ∃ u, σ' = ((σ.set j none).set i (some x)).set j u) ∧ StOk c2 σ H' Γ ∧ Kp c.G H1 H' ∧ StOk c2 ((σ.set j none).set i (some x)) H' ((Γ.set j .any).set i (.d xs[n])) ∧ scI j de ((Γ.set j .any).set i (.d xs[n])) (ys.drop (p + 1)) l' fun l' => scG i j di2 de (Γ.set j .any) (xs.drop (n + 1)) l' fun l => l.length < 64 ∧ k (.d (.lst ((srt l).map D.str))), fun l' σ' H' z => ⟨ys.length - (p + 1), by omega, rfl, z⟩, fun y2 H6 y6 => ?_⟩
      have ey : ys[p]? = some ys[p] := List.getElem?_eq_some_iff.mpr ⟨hlp, rfl⟩
      obtain ⟨g6, ry⟩ := wk2.yld p H5 y2 H6 ys[p] s5.inv.2 s5.inv.1 ey y6
      have g6' : Go c2 H5 H6 := ⟨g6.keep, g6.inv, wk2.st g6.kF (Kz.of g6.keep) s5.inv.2⟩
      have ry' : Rp c2 H6 y2 ys[p] := Rp.to (c := c') (c' := c2) rfl (fun _ z => z) Kp.self ry
      show te (σ3.set j (some y2)) H6 _
      have eσ2 : σ3.set j (some y2) = ((σ.set j none).set i (some x)).set j (some y2) := by
        rcases eσ with rfl | ⟨u, rfl⟩
        · rfl
        · rw [List.set_set]
      rw [eσ2]
      have s7 : StOk c2 (((σ.set j none).set i (some x)).set j (some y2)) H6 (((Γ.set j .any).set i (.d xs[n])).set j (.d ys[p])) := (s6.go g6').set (s := .d ys[p]) ⟨y2, rfl, ry'⟩
      refine h3 c2 eK WOk.zero _ _ hd5 _ H6 s7 _ fun v s H7 g7 r7 h7 => ?_
      try dsimp only at h7
      split at h7
      · rename_i z
        obtain ⟨w, ew', rr⟩ := r7
        cases ew'
        cases rr
        exact ⟨z, rfl, hlp, .inr ⟨_, rfl⟩, (s5.go g6').go g7, k5.trans (g6'.keep.trans g7.keep), (s6.go g6').go g7, h7⟩
      · exact h7.elim
    · have en : p = ys.length := by omega
      subst en
      rw [List.drop_length, scI] at hd5
      refine .inl ⟨?_, wk2.stop _ H5 s5.inv.2 (Nat.le_refl _), hlt, s5.le lc2, k5, hd5⟩
      have key : ∀ u : Option V, (((((σ.set j none).set i (some x)).set j u).set j none).set i none) = (σ.set j none).set i none := fun u => by
        rw [List.set_set, List.set_comm _ _ hij, List.set_set, List.set_set]
      rcases eσ with rfl | ⟨u, rfl⟩
      · show ((((σ.set j none).set i (some x)).set j none).set i none) = (σ.set j none).set i none
        have := key none
        rw [List.set_set] at this
        exact this
      · exact key u
  · have en : n = xs.length := by omega
    subst en
    rw [List.drop_length, scG] at hd2
    refine .inl ⟨wk.stop _ H2 s2.inv.2 (Nat.le_refl _), hd2.1, fun p np => q (.ref p) (.d (.lst _)) _ (g1.trans ⟨k2.trans (Kp.new np), (Go.new (c := c) s2.inv.1 np).inv⟩) ⟨_, rfl, rp_newL s2.inv.1 np (rp_strsL _)⟩ hd2.2⟩
/-- sorted({x for a in it1 for x in it2}) -/
theorem pd_sc2 {i j : Nat} {x y : Str} {tp tp2 p spos : Pos} {elt i1 i2 : Expr} {scope : Scope} {wi1 : TI} {wi2 : Blk TI} {te : Blk TE} {di1 di2 : DI} {de : DE} (hij : i ≠ j) (hc : X.calm = true) (hN : X.N.Nodup) (hm : X.mg "sorted" = none) (hi1 : PDI X W xw (.Name x tp) i1 wi1 di1) (ok : BlkOk X.N X.env.scope scope [(x, i), (y, j)])
    (hg1 : ∀ (s : Shared) (H : Hp) (C : Addr) (cl : List (Str × Addr)) (fp : List Addr), PG (X.blk s H scope (compEnvC scope cl C X.env) fp) (.Name x tp) (gName i)) (hi2 : ∀ (s : Shared) (H : Hp) (C : Addr) (cl : List (Str × Addr)) (fp : List Addr), PDI (X.blk s H scope (compEnvC scope cl C X.env) fp) W0 xw0 (.Name y tp2) i2 (wi2 s H C cl fp) di2)
    (hg2 : ∀ (s : Shared) (H : Hp) (C : Addr) (cl : List (Str × Addr)) (fp : List Addr), PG (X.blk s H scope (compEnvC scope cl C X.env) fp) (.Name y tp2) (gName j)) (he : ∀ (s : Shared) (H : Hp) (C : Addr) (cl : List (Str × Addr)) (fp : List Addr), PD (X.blk s H scope (compEnvC scope cl C X.env) fp) W0 xw0 elt (te s H C cl fp) de)
    (hg0 : Gl X "sorted" := by rfl) (hs1 : ∀ x, foldedSetIterable i1 X.env x = pure x := by intro _; rfl) (hs2 : ∀ (env : Env) x, foldedSetIterable i2 env x = pure x := by intros; rfl)
    (na : starEach [sc2 elt (.Name x tp) i1 (.Name y tp2) i2 scope spos] X.env = (false, eval (sc2 elt (.Name x tp) i1 (.Name y tp2) i2 scope spos) X.env) :: starEach [] X.env := by rfl)
    (hti : ∀ s H C cl fp, wi2 s H C cl fp = Blk.at0 X wi2 := by intros; rfl) (hte : ∀ s H C cl fp, te s H C cl fp = Blk.at0 X te := by intros; rfl) :
    PD X W xw (.Call (.Name "sorted" p) [sc2 elt (.Name x tp) i1 (.Name y tp2) i2 scope spos] [] pos) (tSc2 wi1 (gName i) (Blk.at0 X wi2) (gName j) (Blk.at0 X te) [i, j]) (dSc2 i j di1 di2 de) :=
  ⟨fun tk => pe_sc2 (own := [(x, i), (y, j)]) hc hN hm hg0 (hi1.pi tk) ok hg1 (fun s H C cl fp => hti s H C cl fp ▸ (hi2 s H C cl fp).pi takes0) hg2 (fun s H C cl fp => hte s H C cl fp ▸ (he s H C cl fp).pe takes0) hs1 hs2 na, li_sc2 hij hi1.li (hi2 X.s_0 X.H_0 0 [] []).li (he X.s_0 X.H_0 0 [] []).li⟩
end
end Dv
set_option Elab.async false
set_option linter.all false
set_option maxRecDepth 100000
set_option maxHeartbeats 4000000
/-! Hr: {k: v for .. in it for .. in it2} where it is empty. -/
namespace Dv
open PySem PySem.Spec PyProof.Rows L2
abbrev dce2 (kx vx t1 i1 t2 i2 : Expr) (scope : Scope) (pos : Pos) : Expr := .DictComp kx vx [⟨t1, i1, [], 0⟩, ⟨t2, i2, [], 0⟩] scope pos
section
variable {prog : Program} {w : World} {A : Around} {R : Result → Shared → Prop} {s : Shared} {env : Env} {kx vx t1 i1 t2 i2 : Expr} {scope : Scope} {pos : Pos} {it acc : Value}
theorem turn_dc : compTurn (dce2 kx vx t1 i1 t2 i2 scope pos) 0 it acc env = (do
    standAt i1.pos
    match ← pyNext it with
    | none => pure (.done .next)
    | some v =>
      letOwnedTupleGo t1 it v
      assign t1 env v
      let x ← eval i2 env
      standAt i2.pos
      let x ← foldedSetIterable i2 env x
      let _ ← runOwn (.compStart (dce2 kx vx t1 i1 t2 i2 scope pos) 1 (← holding [x] (pyIter x)) acc env) env
      again (.compLoop (dce2 kx vx t1 i1 t2 i2 scope pos) 0 it acc env)) := by rfl
end
section
variable {X : Cx} {W : WX} {xw : XW} {K : PySem.W.Frag} {pos : Pos}
end
end Dv
set_option Elab.async false
set_option linter.all false
set_option maxRecDepth 100000
set_option maxHeartbeats 4000000
/-! Hs: max of a list. -/
namespace Dv
open PySem L2
section
variable {X : Cx} {K : PySem.W.Frag}
end
section
variable {X : Cx} {W : WX} {xw : XW} {pos : Pos} {a b : Expr} {ta tb : TE} {da db : DE}
end
end Dv
set_option Elab.async false
set_option linter.all false
set_option maxRecDepth 100000
set_option maxHeartbeats 4000000
/-! Np: plain facts of nets: dicts by look-up, nested parts, the ends of channels. -/
namespace Dv
open PySem PySem.Spec PyProof.Rows L2
/-! ### dicts by look-up -/
theorem nk_iff : ∀ {ds : List (Key × D)}, nodupK ds = true ↔ (ds.map fun p => p.1).Nodup
  | [] => by simp [nodupK]
  | p :: r => by
    unfold nodupK
    rw [List.map_cons, List.nodup_cons, Bool.and_eq_true, nk_iff, Bool.not_eq_true', List.any_eq_false]
    refine and_congr_left fun _ => ?_
    rw [List.mem_map]
    constructor
    · rintro h ⟨q, m, e⟩
      exact h q m (decide_eq_true e)
    · intro h q m e
      exact h ⟨q, m, of_decide_eq_true e⟩
theorem lk_mem {ds : List (Key × D)} {k : Key} {v : D} (h : lookK ds k = some v) : (k, v) ∈ ds := by
  simp only [lookK, Option.map_eq_some_iff] at h
  obtain ⟨p, e, e2⟩ := h
  have q : p.1 = k := of_decide_eq_true (by simpa using List.find?_some e)
  subst q e2
  exact List.mem_of_find?_eq_some e
theorem lk_none {ds : List (Key × D)} {k : Key} : lookK ds k = none ↔ k ∉ ds.map fun p => p.1 := by
  simp only [lookK, Option.map_eq_none_iff, List.find?_eq_none, List.mem_map, not_exists, not_and]
  constructor
  · intro h p m e
    exact h p m (decide_eq_true e)
  · intro h p m e
    exact h p m (of_decide_eq_true e)
theorem pk_new {acc : List (Key × D)} {k : Key} {v : D} (h : k ∉ acc.map fun p => p.1) : putKD acc k v = acc ++ [(k, v)] := by
  unfold putKD
  rw [if_neg]
  intro e
  obtain ⟨p, m, q⟩ := List.any_eq_true.mp e
  exact h (List.mem_map.mpr ⟨p, m, of_decide_eq_true q⟩)
theorem pk_old {acc : List (Key × D)} {k : Key} {v : D} (h : k ∈ acc.map fun p => p.1) : putKD acc k v = acc.map fun p => if p.1 = k then (p.1, v) else p := by
  unfold putKD
  rw [if_pos]
  obtain ⟨p, m, e⟩ := List.mem_map.mp h
  exact List.any_eq_true.mpr ⟨p, m, decide_eq_true e⟩
theorem pk_keys_old {acc : List (Key × D)} {k : Key} {v : D} (h : k ∈ acc.map fun p => p.1) : (putKD acc k v).map (fun p => p.1) = acc.map fun p => p.1 := by
  rw [pk_old h, List.map_map]
  refine List.map_congr_left fun p _ => ?_
  show (if p.1 = k then (p.1, v) else p).1 = p.1
  by_cases e : p.1 = k
  · rw [if_pos e]
  · rw [if_neg e]
theorem pk_keys_new {acc : List (Key × D)} {k : Key} {v : D} (h : k ∉ acc.map fun p => p.1) : (putKD acc k v).map (fun p => p.1) = (acc.map fun p => p.1) ++ [k] := by
  rw [pk_new h, List.map_append]
  rfl
theorem pk_nd {acc : List (Key × D)} {k : Key} {v : D} (h : nodupK acc = true) : nodupK (putKD acc k v) = true := by
  rw [nk_iff] at h ⊢
  by_cases m : k ∈ acc.map fun p => p.1
  · rw [pk_keys_old m]
    exact h
  · rw [pk_keys_new m]
    exact List.nodup_append.mpr ⟨h, by simp, fun x hx y hy e => m (by
      rw [List.mem_singleton.mp hy] at e
      exact e ▸ hx)⟩
theorem pk_look {acc : List (Key × D)} {k k' : Key} {v : D} : lookK (putKD acc k v) k' = if k' = k then some v else lookK acc k' := by
  by_cases m : k ∈ acc.map fun p => p.1
  · rw [pk_old m]
    unfold lookK
    rw [List.find?_map]
    have e0 : ((fun kv : Key × D => decide (kv.1 = k')) ∘ fun p : Key × D => if p.1 = k then (p.1, v) else p) = fun kv => decide (kv.1 = k') := by
      funext p
      show decide ((if p.1 = k then (p.1, v) else p).1 = k') = decide (p.1 = k')
      by_cases e : p.1 = k
      · rw [if_pos e]
      · rw [if_neg e]
    rw [e0]
    by_cases e : k' = k
    · subst e
      rw [if_pos rfl]
      obtain ⟨p, mp, e1⟩ := List.mem_map.mp m
      have hs : (acc.find? fun kv => decide (kv.1 = k')).isSome = true := List.find?_isSome.mpr ⟨p, mp, decide_eq_true e1⟩
      obtain ⟨q, eq⟩ := Option.isSome_iff_exists.mp hs
      rw [eq]
      have q1 : q.1 = k' := of_decide_eq_true (by simpa using List.find?_some eq)
      show some ((if q.1 = k' then (q.1, v) else q).2) = some v
      rw [if_pos q1]
    · rw [if_neg e]
      cases eq : acc.find? fun kv => decide (kv.1 = k') with
      | none => rfl
      | some q =>
        have q1 : q.1 = k' := of_decide_eq_true (by simpa using List.find?_some eq)
        show some ((if q.1 = k then (q.1, v) else q).2) = some q.2
        rw [if_neg (fun z => e (q1 ▸ z))]
  · rw [pk_new m]
    unfold lookK
    rw [List.find?_append]
    by_cases e : k' = k
    · subst e
      rw [if_pos rfl]
      have n : acc.find? (fun kv => decide (kv.1 = k')) = none := by
        have := lk_none.mpr m
        simpa [lookK] using this
      rw [n]
      rw [Option.none_or, List.find?_cons, decide_eq_true (rfl : k' = k')]
      rfl
    · rw [if_neg e]
      cases eq : acc.find? fun kv => decide (kv.1 = k') with
      | none =>
        show ([(k, v)].find? fun kv => decide (kv.1 = k')).map (·.2) = none
        have : ([(k, v)].find? fun kv => decide (kv.1 = k')) = none := by
          rw [List.find?_eq_none]
          intro p mp z
          rw [List.mem_singleton.mp mp] at z
          exact e (of_decide_eq_true z).symm
        rw [this]
        rfl
      | some q => rfl
/-- all keys are texts -/
def txtK (ds : List (Key × D)) : Prop := ∀ p ∈ ds, ∃ z, p.1 = Sum.inr z
def keyS : Key → Str
  | .inr z => z
  | _ => ""
def iOf : D → Int
  | .int i => i
  | _ => 0
/-! ### greatest numbers by channel -/
def getN (acc : List (Key × D)) (c : Str) : Int := iOf ((lookK acc (.inr c)).getD (.int 0))
def putM (acc : List (Key × D)) (c : Str) (k : Int) : List (Key × D) := putKD acc (.inr c) (.int (if k > getN acc c then k else getN acc c))
/-- es tells for each c the greatest i with L c i -/
structure EndsS (L : Str → Int → Prop) (es : List (Key × D)) : Prop where
  nd : nodupK es = true
  int : ∀ p ∈ es, ∃ c i, p = (Sum.inr c, D.int i)
  val : ∀ c i, lookK es (.inr c) = some (.int i) → L c i
  top : ∀ c i, L c i → ∃ j, lookK es (.inr c) = some (.int j) ∧ i ≤ j
theorem EndsS.nil : EndsS (fun _ _ => False) [] := ⟨rfl, (fun p m => nomatch m), (fun c i h => nomatch h), fun c i h => False.elim h⟩
theorem EndsS.imp {L L' : Str → Int → Prop} {es : List (Key × D)} (h : EndsS L es) (e : ∀ c i, L c i ↔ L' c i) : EndsS L' es := ⟨h.nd, h.int, fun c i q => (e c i).mp (h.val c i q), fun c i q => h.top c i ((e c i).mpr q)⟩
theorem EndsS.txt {L : Str → Int → Prop} {es : List (Key × D)} (h : EndsS L es) : txtK es := fun p m => by
  obtain ⟨c, i, rfl⟩ := h.int p m
  exact ⟨c, rfl⟩
theorem EndsS.look {L : Str → Int → Prop} {es : List (Key × D)} (h : EndsS L es) {c : Str} {v : D} (e : lookK es (.inr c) = some v) : ∃ i, v = .int i ∧ L c i := by
  obtain ⟨c', i, q⟩ := h.int _ (lk_mem e)
  injection q with q1 q2
  subst q2
  exact ⟨i, rfl, h.val c i e⟩
theorem EndsS.getN {L : Str → Int → Prop} {es : List (Key × D)} (h : EndsS L es) (c : Str) : (lookK es (.inr c)).getD (.int 0) = .int (getN es c) := by
  unfold Dv.getN
  cases e : lookK es (.inr c) with
  | none => rfl
  | some v =>
    obtain ⟨i, rfl, _⟩ := h.look e
    rfl
theorem EndsS.put {L : Str → Int → Prop} {es : List (Key × D)} (h : EndsS L es) {c : Str} {k : Int} (k1 : 0 < k) : EndsS (fun c' i => L c' i ∨ (c' = c ∧ i = k)) (putM es c k) := by
  refine ⟨pk_nd h.nd, fun p m => ?_, fun c' i e => ?_, fun c' i e => ?_⟩
  · unfold putM at m
    by_cases mc : (Sum.inr c : Key) ∈ es.map fun p => p.1
    · rw [pk_old mc] at m
      obtain ⟨q, mq, rfl⟩ := List.mem_map.mp m
      by_cases e : q.1 = Sum.inr c
      · rw [if_pos e, e]
        exact ⟨_, _, rfl⟩
      · rw [if_neg e]
        exact h.int q mq
    · rw [pk_new mc] at m
      rcases List.mem_append.mp m with m | m
      · exact h.int p m
      · rw [List.mem_singleton.mp m]
        exact ⟨_, _, rfl⟩
  · unfold putM at e
    rw [pk_look] at e
    by_cases q : (Sum.inr c' : Key) = Sum.inr c
    · rw [if_pos q] at e
      have q' : c' = c := Sum.inr.inj q
      subst q'
      injection e with e
      injection e with e
      by_cases g : k > Dv.getN es c'
      · rw [if_pos g] at e
        exact .inr ⟨rfl, e.symm⟩
      · rw [if_neg g] at e
        refine .inl (h.val c' i ?_)
        cases ev : lookK es (Sum.inr c') with
        | none =>
          have z : Dv.getN es c' = 0 := by
            unfold Dv.getN
            rw [ev]
            rfl
          omega
        | some v =>
          obtain ⟨j, rfl, _⟩ := h.look ev
          have z : Dv.getN es c' = j := by
            unfold Dv.getN
            rw [ev]
            rfl
          rw [← e, z]
    · rw [if_neg q] at e
      exact .inl (h.val c' i e)
  · unfold putM
    by_cases q : (Sum.inr c' : Key) = Sum.inr c
    · have q' : c' = c := Sum.inr.inj q
      subst q'
      refine ⟨_, by rw [pk_look, if_pos rfl], ?_⟩
      have le : i ≤ k ∨ i ≤ Dv.getN es c' := by
        rcases e with e | ⟨_, rfl⟩
        · obtain ⟨j, ej, lj⟩ := h.top c' i e
          refine .inr ?_
          unfold Dv.getN
          rw [ej]
          exact lj
        · exact .inl (Int.le_refl _)
      split <;> omega
    · rw [pk_look, if_neg q]
      rcases e with e | ⟨rfl, _⟩
      · exact h.top c' i e
      · exact absurd rfl q
/-- all of es put into acc -/
def mergeM (acc es : List (Key × D)) : List (Key × D) := es.foldl (fun acc q => putM acc (keyS q.1) (iOf q.2)) acc
theorem EndsS.merge {L : Str → Int → Prop} : ∀ {es acc : List (Key × D)}, EndsS L acc → (∀ p ∈ es, ∃ c i, p = (Sum.inr c, D.int i) ∧ 0 < i) → EndsS (fun c i => L c i ∨ (Sum.inr c, D.int i) ∈ es) (mergeM acc es)
  | [], acc, h, _ => h.imp fun c i => by simp
  | p :: r, acc, h, hp => by
    obtain ⟨c, i, rfl, i1⟩ := hp p List.mem_cons_self
    have ih := EndsS.merge (es := r) (h.put (c := c) i1) fun q m => hp q (List.mem_cons_of_mem _ m)
    refine ih.imp fun c' i' => ?_
    rw [List.mem_cons]
    constructor
    · rintro ((x | ⟨rfl, rfl⟩) | x)
      · exact .inl x
      · exact .inr (.inl rfl)
      · exact .inr (.inr x)
    · rintro (x | x | x)
      · exact .inl (.inl x)
      · injection x with x1 x2
        injection x1 with x1
        injection x2 with x2
        exact .inl (.inr ⟨x1, x2⟩)
      · exact .inr x
theorem EndsS.uniq {L : Str → Int → Prop} {es fs : List (Key × D)} (h : EndsS L es) (g : EndsS L fs) (c : Str) : lookK es (.inr c) = lookK fs (.inr c) := by
  cases e : lookK es (.inr c) with
  | none =>
    cases f : lookK fs (.inr c) with
    | none => rfl
    | some v =>
      obtain ⟨i, rfl, l⟩ := g.look f
      obtain ⟨j, ej, _⟩ := h.top c i l
      rw [e] at ej
      cases ej
  | some v =>
    obtain ⟨i, rfl, l⟩ := h.look e
    obtain ⟨j, ej, lj⟩ := g.top c i l
    obtain ⟨i2, ei, li⟩ := h.top c j (g.val c j ej)
    rw [e] at ei
    injection ei with ei
    injection ei with ei
    rw [ej]
    have : i = j := by omega
    rw [this]
/-! ### nested parts -/
abbrev Leaf := Str × Str × Int
def leafD (l : Leaf) : D := .tup [.str l.1, .str l.2.1, .int l.2.2]
def innerP : D → List D
  | .tup xs => match xs.getLast? with
    | some (.tup qs) => qs
    | _ => []
  | _ => []
def flatQ (wd : Str → Bool) (p : D) : Prop := ∃ w c i, p = leafD (w, c, i) ∧ w ∈ [("send" : Str), "take"] ∧ wd c = true ∧ 1 ≤ i ∧ i ≤ 9
def GP (wd : Str → Bool) (G : List D → Prop) (p : D) : Prop := flatQ wd p ∨ (∃ i, p = .tup [.str "work", .int i]) ∨ (∃ c qs, p = .tup [.str "loop", c, .tup qs] ∧ G qs) ∨ ∃ qs, p = .tup [.str "forever", .tup qs] ∧ G qs
theorem GP.inner {wd : Str → Bool} {G : List D → Prop} {p : D} (h : GP wd G p) (g0 : G []) : G (innerP p) := by
  rcases h with ⟨w, c, i, rfl, _⟩ | ⟨i, rfl⟩ | ⟨c, qs, rfl, g⟩ | ⟨qs, rfl, g⟩
  · exact g0
  · exact g0
  · exact g
  · exact g
def putLf (w : Str) (acc : List (Key × D)) (l : Leaf) : List (Key × D) := if l.1 = w then putM acc l.2.1 l.2.2 else acc
theorem EndsS.leaves {L : Str → Int → Prop} {w : Str} : ∀ {ls : List Leaf} {acc : List (Key × D)}, EndsS L acc → (∀ l ∈ ls, 1 ≤ l.2.2) → EndsS (fun c i => L c i ∨ (w, c, i) ∈ ls) (ls.foldl (putLf w) acc)
  | [], acc, h, _ => h.imp fun c i => by simp
  | l :: r, acc, h, hl => by
    obtain ⟨v, d, k⟩ := l
    have k1 : 0 < k := hl (v, d, k) List.mem_cons_self
    have hr : ∀ l ∈ r, 1 ≤ l.2.2 := fun q m => hl q (List.mem_cons_of_mem _ m)
    rw [List.foldl_cons]
    by_cases e : v = w
    · subst e
      have q : putLf v acc (v, d, k) = putM acc d k := if_pos rfl
      rw [q]
      refine (EndsS.leaves (w := v) (h.put (c := d) k1) hr).imp fun c i => ?_
      rw [List.mem_cons]
      constructor
      · rintro ((x | ⟨rfl, rfl⟩) | x)
        · exact .inl x
        · exact .inr (.inl rfl)
        · exact .inr (.inr x)
      · rintro (x | x | x)
        · exact .inl (.inl x)
        · injection x with x1 x2
          injection x2 with x2 x3
          exact .inl (.inr ⟨x2, x3⟩)
        · exact .inr x
    · have q : putLf w acc (v, d, k) = acc := if_neg e
      rw [q]
      refine (EndsS.leaves (w := w) h hr).imp fun c i => ?_
      rw [List.mem_cons]
      constructor
      · rintro (x | x)
        · exact .inl x
        · exact .inr (.inr x)
      · rintro (x | x | x)
        · exact .inl x
        · injection x with x1 x2
          exact absurd x1.symm e
        · exact .inr x
end Dv
set_option Elab.async false
set_option linter.all false
set_option maxRecDepth 100000
set_option maxHeartbeats 4000000
/-! Ht: {k: v for a, b in it for c in it2}. -/
namespace Dv
open PySem PySem.Spec PyProof.Rows L2
section
variable {prog : Program} {w : World} {A : Around} {R : Result → Shared → Prop} {s : Shared} {env : Env} {kx vx t1 i1 t2 i2 : Expr} {scope : Scope} {pos : Pos} {it : Value} {D : Addr}
theorem turn_dcI : compTurn (dce2 kx vx t1 i1 t2 i2 scope pos) 1 it (.ref D) env = (do
    standAt i2.pos
    match ← pyNext it with
    | none => pure (.done .next)
    | some v =>
      letOwnedTupleGo t2 it v
      assign t2 env v
      (do
        let kv ← eval kx env
        let vv ← holding [kv] (eval vx env)
        standAt { kx.pos with endLine := vx.pos.endLine, endCol := vx.pos.endCol }
        holding [kv, vv] (dictSet D kv vv))
      again (.compLoop (dce2 kx vx t1 i1 t2 i2 scope pos) 1 it (.ref D) env)) := by rfl
theorem loop_dcI (I : Nat → Shared → Prop)
    (turn : ∀ n s, I n s → wpAny (model prog w) A (pyNext it) (fun r s1 => match r with
      | none => R (.ok .next) s1
      | some v => wpAny (model prog w) A (letOwnedTupleGo t2 it v) (fun _ s2 => wpAny (model prog w) A (assign t2 env v) (fun _ s3 => wpAny (model prog w) A (eval kx env) (fun x s4 => wpAny (model prog w) A (eval vx env) (fun y s5 =>
          wpAny (model prog w) A (dictSet D x y) (fun _ s6 => ∃ m, m < n ∧ I m s6) nope s5) nope s4) nope s3) nope s2) nope s1) nope s)
    (n : Nat) (h : I n s) : codeAny (model prog w) A (.compLoop (dce2 kx vx t1 i1 t2 i2 scope pos) 1 it (.ref D) env) R s := by
  refine codeAny_loop rfl I (fun n s hI => ?_) n h
  show wpAny _ A ((compTurn (dce2 kx vx t1 i1 t2 i2 scope pos) 1 it (.ref D) env).onRaise (fun x => do noteFrame x env; theTreesLotGoes x)) _ _ s
  refine wpAny_noted ?_
  rw [turn_dcI]
  refine wpAny_bind (wpAny_standAt (wpAny_bind (thnF (turn n s hI) fun r s1 h1 => ?_)))
  cases r with
  | none => exact wpAny_pure h1
  | some v =>
    refine wpAny_bind (thnF h1 fun _ s2 h2 => wpAny_bind (thnF h2 fun _ s3 h3 => wpAny_bind (wpAny_bind (thnF h3 fun x s4 h4 => wpAny_bind (wpAny_holding (thnF h4 fun y s5 h5 => wpAny_bind (wpAny_standAt (wpAny_holding (thnF h5 fun _ s6 h6 => ?_)))))))))
    exact wpAny_pure ⟨rfl, h6⟩
theorem loop_dcO (I : Nat → Shared → Prop) (hs : ∀ x, foldedSetIterable i2 env x = pure x)
    (turn : ∀ n s, I n s → wpAny (model prog w) A (pyNext it) (fun r s1 => match r with
      | none => R (.ok .next) s1
      | some v => wpAny (model prog w) A (letOwnedTupleGo t1 it v) (fun _ s2 => wpAny (model prog w) A (assign t1 env v) (fun _ s3 => wpAny (model prog w) A (eval i2 env) (fun x s4 =>
          wpAny (model prog w) A (pyIter x) (fun j s5 => codeAny (model prog w) A (.compStart (dce2 kx vx t1 i1 t2 i2 scope pos) 1 j (.ref D) env) (fun r s6 => match r with
            | .ok _ => ∃ m, m < n ∧ I m s6
            | .error _ => False) s5) nope s4) nope s3) nope s2) nope s1) nope s)
    (n : Nat) (h : I n s) : codeAny (model prog w) A (.compLoop (dce2 kx vx t1 i1 t2 i2 scope pos) 0 it (.ref D) env) R s := by
  refine codeAny_loop rfl I (fun n s hI => ?_) n h
  show wpAny _ A ((compTurn (dce2 kx vx t1 i1 t2 i2 scope pos) 0 it (.ref D) env).onRaise (fun x => do noteFrame x env; theTreesLotGoes x)) _ _ s
  refine wpAny_noted ?_
  rw [turn_dc]
  refine wpAny_bind (wpAny_standAt (wpAny_bind (thnF (turn n s hI) fun r s1 h1 => ?_)))
  cases r with
  | none => exact wpAny_pure h1
  | some v =>
    refine wpAny_bind (thnF h1 fun _ s2 h2 => wpAny_bind (thnF h2 fun _ s3 h3 => wpAny_bind (thnF h3 fun x s4 h4 => wpAny_bind (wpAny_standAt (wpAny_bind (wpAny_of_eq (hs x) ?_))))))
    refine wpAny_bind (wpAny_holding (thnF h4 fun j s5 h5 => wpAny_bind (wpAny_runOwn (codeAny_mono h5 fun r s6 h6 => ?_))))
    cases r with
    | ok f => exact wpAny_pure ⟨rfl, h6⟩
    | error e => exact h6.elim
theorem start_dcI {acc : Value} (h0 : codeAny (model prog w) A (.compLoop (dce2 kx vx t1 i1 t2 i2 scope pos) 1 it acc env) R s)
    (h : wpAny (model prog w) A (pyIter it) (fun j s1 => codeAny (model prog w) A (.compLoop (dce2 kx vx t1 i1 t2 i2 scope pos) 1 j acc env) R s1) nope s) : codeAny (model prog w) A (.compStart (dce2 kx vx t1 i1 t2 i2 scope pos) 1 it acc env) R s := by
  refine codeAny_of_tree ?_
  show wpAny _ _ ((compStart (dce2 kx vx t1 i1 t2 i2 scope pos) 1 it acc env).onRaise (fun x => do noteFrame x env; standAt theWindowsPlace)) _ _ s
  refine wpAny_notedAt ?_
  unfold compStart
  show wpAny _ _ (ask >>= _) _ _ s
  refine wpAny_bind (wpAny_askSetting (wpAny_ite ?_))
  split
  · first
      | exact wpAny_bind (wpAny_pure (wpAny_pure (And.intro rfl h0)))
      | exact wpAny_pure (And.intro rfl h0)
  · first
      | exact wpAny_bind (wpAny_rule (wpAny_bind (wpAny_standAt (wpAny_bind (thnF h fun j s1 h1 => wpAny_pure (And.intro rfl h1))))))
      | (refine wpAny_bind (wpAny_rule ?_); show wpAny _ _ (standAt i2.pos >>= _) _ _ s; exact wpAny_bind (wpAny_standAt (wpAny_bind (thnF h fun j s1 h1 => wpAny_pure (And.intro rfl h1)))))
end
section
variable {X : Cx}
/-- {k: v for t1 in i1 for t2 in i2}: the dict is D from its birth -/
def tDc2f (wi1 : TI) (g1 : TG) (wi2 : TI) (g2 : TG) (tk tv : TE) (vs : List Nat) : TE := fun σ H Q => wi1 σ H fun J H1 => ∀ D, H1 D = none → ∃ W : Nat → Nat → Hp → Prop, (∃ m, W 0 m (upd H1 D (.dK []))) ∧ ∀ i m H, W i m H →
  (J.stop i H ∧ Q (.ref D) H) ∨
  (J.go i H ∧ ∃ Nx : Hp → Prop, (∀ H', Nx H' → ∃ m', m' < m ∧ W (i + 1) m' H') ∧ ∀ x H', J.yld i H x H' → g1 x (wipe σ vs) H' fun σ2 H2 => wi2 σ2 H2 fun J2 H3 =>
    ∃ W2 : Nat → Nat → L2.St → Hp → Prop, (∃ m2, W2 0 m2 σ2 H3) ∧ ∀ j m2 σ3 H, W2 j m2 σ3 H → (wipe σ3 vs = wipe σ vs ∧ J2.stop j H ∧ Nx H) ∨
      (J2.go j H ∧ ∃ Nx2 : L2.St → Hp → Prop, (∀ σ' H', Nx2 σ' H' → ∃ m', m' < m2 ∧ W2 (j + 1) m' σ' H') ∧ ∀ x H', J2.yld j H x H' → g2 x σ3 H' fun σ4 H4 => tk σ4 H4 fun y H5 => tv σ4 H5 fun z H6 =>
        ∃ kvs k, y = kV k ∧ H6 D = some (.dK kvs) ∧ kvs.length < sizeLine ∧ Nx2 σ4 (upd H6 D (.dK (putK kvs k z)))))
theorem pe_dc2f {kx vx t1 i1 t2 i2 : Expr} {scope : Scope} {own : List (PySem.Str × Nat)} {spos : Pos} {wi1 wi2 : TI} {g1 g2 : TG} {tk tv : TE} (hc : X.calm = true) (hN : X.N.Nodup) (hi1 : PI X t1 i1 wi1) (ok : BlkOk X.N X.env.scope scope own)
    (hg1 : ∀ (s : Shared) (H : Hp) (C : Addr) (cl : List (PySem.Str × Addr)) (fp : List Addr), PG (X.blk s H scope (compEnvC scope cl C X.env) fp) t1 g1) (hi2 : ∀ (s : Shared) (H : Hp) (C : Addr) (cl : List (PySem.Str × Addr)) (fp : List Addr), PI (X.blk s H scope (compEnvC scope cl C X.env) fp) t2 i2 wi2)
    (hg2 : ∀ (s : Shared) (H : Hp) (C : Addr) (cl : List (PySem.Str × Addr)) (fp : List Addr), PG (X.blk s H scope (compEnvC scope cl C X.env) fp) t2 g2) (hk : ∀ (s : Shared) (H : Hp) (C : Addr) (cl : List (PySem.Str × Addr)) (fp : List Addr), PE (X.blk s H scope (compEnvC scope cl C X.env) fp) kx tk)
    (he : ∀ (s : Shared) (H : Hp) (C : Addr) (cl : List (PySem.Str × Addr)) (fp : List Addr), PE (X.blk s H scope (compEnvC scope cl C X.env) fp) vx tv)
    (hs1 : ∀ x, foldedSetIterable i1 X.env x = pure x := by intro _; rfl) (hs2 : ∀ (env : Env) x, foldedSetIterable i2 env x = pure x := by intros; rfl) :
    PE X (dce2 kx vx t1 i1 t2 i2 scope spos) (tDc2f wi1 g1 wi2 g2 tk tv (own.map (·.2))) := by
  refine ⟨fun pins s σ H Q I h => ?_⟩
  rw [arm_eval_DictComp]
  have hfr : ∀ y ∈ scope.names, y.2 = .free → ∃ c, X.env.cells.lookup y.1 = some c := fun y hy e => (ok.free y hy e).elim (fun k => I.ok.has _ (.inl k)) fun k => I.ok.has _ (.inr k)
  refine wpAny_comprehension_free (use := none) rfl hs1 (closure_ok hfr) ok.kind (fun y hy e => by rw [ok.uniq y hy, e]) (thn (hi1.run pins s σ H _ I h) fun xv s1 hx => thn hx fun itv s2 h2 => ?_)
  obtain ⟨it, fp, tn, J, H2, e, I2, T, st2, f2, qq⟩ := h2
  subst e
  refine wpAny_newObj_type (newEnv_comp ?_)
  generalize eD : s2.heap.objs.size = D
  have nD : H2 D = none := I2.hok.fresh (Nat.le_of_eq eD)
  obtain ⟨W, ⟨m0, w0⟩, turn⟩ := qq D nD
  generalize e3 : ({ s2 with heap := s2.heap.push { cls := .type "dict", data := .dict #[] } } : Shared) = s3
  have h3 : s3.heap = s2.heap.push { cls := .type "dict", data := .dict #[] } := by rw [← e3]
  have I3 : Inv X pins σ (upd H2 D (.dK [])) s3 := by
    rw [← e3]
    refine I2.laid (t' := s2.toks) (fun b o e => Heap.get?_push_of_some _ e) (Nat.le_of_eq eD) ?_
    rw [← eD]
    exact dk_empty s2.heap I2.big
  have lt2 : ∀ b ∈ fp, b < s2.heap.objs.size := fun b hb => by
    obtain ⟨o, eo, _⟩ := T.obj _ _ st2 b hb
    exact Heap.lt_size eo
  have f3 : ∀ b ∈ fp, FpOk X pins (upd H2 D (.dK [])) b ∧ b < s3.heap.objs.size := fun b hb => by
    refine ⟨⟨?_, (f2 b hb).2⟩, by rw [h3, Heap.size_push]; exact Nat.lt_succ_of_lt (lt2 b hb)⟩
    rw [upd_ne (by rw [← eD]; exact Nat.ne_of_lt (lt2 b hb))]
    exact (f2 b hb).1
  have st3 : tn 0 s3.heap := T.keep _ _ _ st2 fun b _ o e => by rw [h3]; exact Heap.get?_push_of_some _ e
  have I4 := block_start (own := own) I3 ok hN f3
  have pg1 := hg1 s3 (upd H2 D (.dK [])) s3.heap.objs.size (cellsFrom (s3.heap.objs.size + 1) scope.names (cloFrom X.env.cells scope.names [])) fp
  have pi2 := hi2 s3 (upd H2 D (.dK [])) s3.heap.objs.size (cellsFrom (s3.heap.objs.size + 1) scope.names (cloFrom X.env.cells scope.names [])) fp
  have pg2 := hg2 s3 (upd H2 D (.dK [])) s3.heap.objs.size (cellsFrom (s3.heap.objs.size + 1) scope.names (cloFrom X.env.cells scope.names [])) fp
  have pk := hk s3 (upd H2 D (.dK [])) s3.heap.objs.size (cellsFrom (s3.heap.objs.size + 1) scope.names (cloFrom X.env.cells scope.names [])) fp
  have pe := he s3 (upd H2 D (.dK [])) s3.heap.objs.size (cellsFrom (s3.heap.objs.size + 1) scope.names (cloFrom X.env.cells scope.names [])) fp
  show codeAny _ _ (.compStart (dce2 kx vx t1 i1 t2 i2 scope spos) 0 (.ref it) (.ref D) (compEnvC scope (cellsFrom (s3.heap.objs.size + 1) scope.names (cloFrom X.env.cells scope.names [])) s3.heap.objs.size X.env)) (compPost (model X.prog X.w) X.A X.xe none _ (.ref D) s3.heap.objs.size) { s3 with heap := pushCells (s3.heap.push { cls := .type "dict", data := .dict #[] }) scope.names }
  generalize ece : compEnvC scope (cellsFrom (s3.heap.objs.size + 1) scope.names (cloFrom X.env.cells scope.names [])) s3.heap.objs.size X.env = ce at I4 pg1 pi2 pg2 pk pe ⊢
  have cL : ce.locals = s3.heap.objs.size := by
    subst ece
    rfl
  have nfp : ∀ b ∈ fp, (upd H2 D (.dK [])) b = none := fun b hb => (f3 b hb).1.1
  generalize hH3 : upd H2 D (.dK []) = H3 at I3 I4 pg1 pi2 pg2 pk pe w0 nfp f3
  generalize e4 : ({ s3 with heap := pushCells (s3.heap.push { cls := .type "dict", data := .dict #[] }) scope.names } : Shared) = s4 at I4 ⊢
  have st4 : tn 0 s4.heap := T.keep _ _ _ st3 fun b _ o e => by
    rw [← e4]
    exact pushCells_keeps _ _ _ _ (Heap.get?_push_of_some _ e)
  have stat : ∀ {q : List (Addr × Obj)} {σ' : L2.St} {H' : Hp} {s' : Shared} {b : Addr}, Inv (X.blk s3 H3 scope ce fp) q σ' H' s' → b ∈ fp → H' b = none → (∀ p ∈ q, p.1 ≠ b) → FpOk (X.blk s3 H3 scope ce fp) q H' b := fun {q σ' H' s' b} I' hb hn hq =>
    ⟨hn, (I'.ok.exf b hb).1, I'.ok.exfs b hb, .inl hb, fun x c e => (I'.ok.exf b hb).2 x c e, fun p hp => hq p hp⟩
  have no : ∀ {b : Addr}, ∀ p ∈ ([] : List (Addr × Obj)), p.1 ≠ b := fun p hp => nomatch hp
  have loop : codeAny (model X.prog X.w) X.A (.compLoop (dce2 kx vx t1 i1 t2 i2 scope spos) 0 (.ref it) (.ref D) ce) (compPost (model X.prog X.w) X.A X.xe none (fun v s' => ∃ x H', Inv X pins σ H' s' ∧ RelV x v ∧ Q x H') (.ref D) s3.heap.objs.size) s4 := by
    refine loop_dcO (fun n s' => ∃ i H', Inv (X.blk s3 H3 scope ce fp) [] (wipe σ (own.map (·.2))) H' s' ∧ tn i s'.heap ∧ (∀ b ∈ fp, H' b = none) ∧ W i n H') (hs2 ce) ?_ m0 ⟨0, H3, I4, st4, nfp, w0⟩
    rintro n s5 ⟨i, H5, I5, st5, n5, w5⟩
    rcases turn i n H5 w5 with ⟨stop, qe⟩ | ⟨go, Nx, hNx, step⟩
    · refine thnF (T.done (X.blk s3 H3 scope ce fp) rfl rfl rfl hc i [] s5 _ H5 nope I5 (fun b hb => stat I5 hb (n5 b hb) no) st5 stop) fun r s6 ⟨hr, I6⟩ => ?_
      subst hr
      have I7 : Inv X pins σ H5 s6 := I3.call' (ch := fp) I6.os I6.base I6.hok I6.bare fun b hb => ⟨(f3 b hb).1.2.2.2.1, (f3 b hb).1.2.1, (f3 b hb).1.2.2.2.2.1, (f3 b hb).1.2.2.2.2.2⟩
      have nC : H5 s3.heap.objs.size = none := by
        have z : H5 ce.locals = none := I6.free
        rw [cL] at z
        exact z
      obtain ⟨m, hn, _⟩ := I6.loc
      have hn : s6.heap.Ns ce.locals m := hn
      rw [cL] at hn
      obtain ⟨g0, g1', g2', g3, g4, g5⟩ := I3.fpOk (Nat.le_refl _) nC
      exact ⟨m, hn, fun h'' sb => ⟨.ref D, H5, I7.turned (t' := s6.toks) (fun b o hb e => (sb.2 b hb).trans e) g0 g1' g3 g4 g5, rfl, qe⟩⟩
    · refine thnF (T.item (X.blk s3 H3 scope ce fp) rfl rfl rfl hc i [] s5 _ H5 nope I5 (fun b hb => stat I5 hb (n5 b hb) no) st5 go) fun r s6 ⟨u, hr, h6⟩ => ?_
      subst hr
      refine thnF h6 fun _ s7 ⟨x, H7, I7, r7, y7, st7, n7⟩ => ?_
      have I7p := I7.pinned (fun b hb => stat I7 hb (n7 b hb) no) (T.obj _ _ st7)
      refine thnF (pg1.run _ s7 _ H7 x u _ I7p r7 (step x H7 y7)) fun _ s8 ⟨σ8, H8, I8, q8⟩ => ?_
      refine thnF (pi2.run _ s8 σ8 H8 _ I8 q8) fun x2 s9 h9 => thnF h9 fun j s10 h10 => ?_
      obtain ⟨it2, fp2, tn2, J2, H10, e, I10, T2, st10, f10, W2, ⟨m20, w20⟩, turn2⟩ := h10
      subst e
      have fp2ok : ∀ {H' : Hp} {b : Addr}, b ∈ fp2 → H' b = none → FpOk (X.blk s3 H3 scope ce fp) ([] ++ pinsAt fp s7.heap) H' b := fun {H' b} hb hn => by
        obtain ⟨_, z1, z2, z3, z4, z5⟩ := f10 b hb
        exact ⟨hn, z1, z2, z3, z4, z5⟩
      have inner : codeAny (model X.prog X.w) X.A (.compLoop (dce2 kx vx t1 i1 t2 i2 scope spos) 1 (.ref it2) (.ref D) ce) (fun r s' => match r with
          | .ok _ => ∃ m, m < n ∧ ∃ i H', Inv (X.blk s3 H3 scope ce fp) [] (wipe σ (own.map (·.2))) H' s' ∧ tn i s'.heap ∧ (∀ b ∈ fp, H' b = none) ∧ W i m H'
          | .error _ => False) s10 := by
        refine loop_dcI (fun n2 s' => ∃ j σ3 H', Inv (X.blk s3 H3 scope ce fp) ([] ++ pinsAt fp s7.heap) σ3 H' s' ∧ tn2 j s'.heap ∧ (∀ b ∈ fp2, H' b = none) ∧ W2 j n2 σ3 H') ?_ m20 ⟨0, σ8, H10, I10, st10, fun b hb => (f10 b hb).1, w20⟩
        rintro n2 s11 ⟨j, σ11, H11, I11, st11, n11, w11⟩
        rcases turn2 j n2 σ11 H11 w11 with ⟨hw, stop, nx⟩ | ⟨go2, Nx2, hNx2, step2⟩
        · refine thnF (T2.done (X.blk s3 H3 scope ce fp) rfl rfl rfl hc j _ s11 _ H11 nope I11 (fun b hb => fp2ok hb (n11 b hb)) st11 stop) fun r s12 ⟨hr, I12⟩ => ?_
          subst hr
          obtain ⟨m', hm', w'⟩ := hNx H11 nx
          have pin' : ∀ b ∈ fp, ∀ o, s7.heap.get? b = some o → s12.heap.get? b = some o ∧ H11 b = none := fun b hb o e =>
            let z := I12.pin (b, o) (List.mem_append_right _ (List.mem_append_right _ (mem_pinsAt hb e)))
            ⟨z.1, z.2.1⟩
          have hl : (wipe σ (own.map (·.2))).length = σ11.length := by rw [← hw, wipe_length]
          refine ⟨m', hm', i + 1, H11, (I12.unpinned (pins := [])).weak hl (fun j v e => ?_), T.keep _ _ _ st7 fun b hb o e => (pin' b hb o e).1, fun b hb => ?_, w'⟩
          · rw [← hw] at e
            exact (wipe_some e).1
          · obtain ⟨o, e, _⟩ := T.obj _ _ st7 b hb
            exact (pin' b hb o e).2
        · refine thnF (T2.item (X.blk s3 H3 scope ce fp) rfl rfl rfl hc j _ s11 _ H11 nope I11 (fun b hb => fp2ok hb (n11 b hb)) st11 go2) fun r s12 ⟨u2, hr, h12⟩ => ?_
          subst hr
          refine thnF h12 fun _ s13 ⟨y, H13, I13, r13, y13, st13, n13⟩ => ?_
          have I13p := I13.pinned (fun b hb => fp2ok hb (n13 b hb)) (T2.obj _ _ st13)
          refine thnF (pg2.run _ s13 _ H13 y u2 _ I13p r13 (step2 y H13 y13)) fun _ s14 ⟨σ14, H14, I14, q14⟩ => ?_
          refine thnF (pk.run _ s14 σ14 H14 _ I14 q14) fun kv s15 ⟨yk, H15, I15, r15, q15⟩ => ?_
          refine thnF (pe.run _ s15 σ14 H15 _ I15 q15) fun vv s16 ⟨yv, H16, I16, r16, kvs, k, ek, hD16, hz16, nx2⟩ => ?_
          subst ek
          refine d_dictSet (X := X.blk s3 H3 scope ce fp) I16 hD16 hz16 r15 r16 fun s17 I17 => ?_
          obtain ⟨m', hm', w'⟩ := hNx2 _ _ nx2
          have pin' : ∀ b ∈ fp2, ∀ o, s13.heap.get? b = some o → s17.heap.get? b = some o ∧ upd H16 D (.dK (putK kvs k yv)) b = none := fun b hb o e =>
            let z := I17.pin (b, o) (List.mem_append_right _ (List.mem_append_right _ (mem_pinsAt hb e)))
            ⟨z.1, z.2.1⟩
          refine ⟨m', hm', j + 1, σ14, _, I17.unpinned, T2.keep _ _ _ st13 fun b hb o e => (pin' b hb o e).1, fun b hb => ?_, w'⟩
          obtain ⟨o, e, _⟩ := T2.obj _ _ st13 b hb
          exact (pin' b hb o e).2
      exact start_dcI inner (T2.self X.A 0 _ _ _ st10 inner)
  exact codeAny_compStart_dict loop (T.self X.A 0 _ _ _ st4 loop)
end
/-! ### on data -/
def dcI (l : Nat) (dk dv : DE) (Γ : Gm) : List D → List (Key × D) → (List (Key × D) → Prop) → Prop
  | [], ds, k => k ds
  | y :: r, ds, k => ds.length < 1000 ∧ dk (Γ.set l (.d y)) fun s => dv (Γ.set l (.d y)) fun t => match s, t with
    | .d u, .d v => ∃ key, u = keyD key ∧ dcI l dk dv Γ r (putKD ds key v) k
    | _, _ => False
def dcO (f : D → Gm → Option Gm) (l : Nat) (di2 : DI) (dk dv : DE) (Γ : Gm) : List D → List (Key × D) → (List (Key × D) → Prop) → Prop
  | [], ds, k => k ds
  | x :: r, ds, k => onG (f x Γ) fun Γ' => di2 Γ' fun ys => dcI l dk dv Γ' ys ds fun ds' => dcO f l di2 dk dv Γ r ds' k
def dDc2f (f : D → Gm → Option Gm) (l : Nat) (di1 di2 : DI) (dk dv : DE) : DE := fun Γ k => di1 Γ fun xs => dcO f l di2 dk dv (Γ.set l .any) xs [] fun ds => k (.d (.dic ds))
theorem RpKv.len {c : Cfg} {H : Hp} : ∀ {vs : List (Key × V)} {ds : List (Key × D)}, RpKv c H vs ds → vs.length = ds.length
  | _, _, .nil => rfl
  | _, _, .cons _ b => by rw [List.length_cons, List.length_cons, RpKv.len b]
section
variable {X : Cx} {W : WX} {xw : XW} {K : PySem.W.Frag} {pos : Pos}
theorem wipe3 {σ σ' : L2.St} {i j l : Nat} (hil : i ≠ l) (hjl : j ≠ l) (ew : wipe σ' [i, j] = wipe (σ.set l none) [i, j]) : wipe σ' [i, j, l] = wipe σ [i, j, l] := by
  have e1 : ∀ τ : L2.St, wipe τ [i, j, l] = (wipe τ [i, j]).set l none := fun τ => by
    show (((τ.set l none).set j none).set i none) = ((τ.set j none).set i none).set l none
    rw [List.set_comm _ _ hjl.symm, List.set_comm _ _ hil.symm]
  have e2 : wipe (σ.set l none) [i, j] = wipe σ [i, j, l] := rfl
  rw [e1 σ', ew, e2, e1 σ, List.set_set]
theorem wipe3s {σ' : L2.St} {i j l : Nat} {u : Option V} : wipe (σ'.set l u) [i, j, l] = wipe σ' [i, j, l] := by
  show ((((σ'.set l u).set l none).set j none).set i none) = ((σ'.set l none).set j none).set i none
  rw [List.set_set]
theorem li_dc2f {i j l : Nat} {f : D → Gm → Option Gm} {g : TG} {wi1 wi2 : TI} {tk tv : TE} {di1 di2 : DI} {dk dv : DE} (hil : i ≠ l) (hjl : j ≠ l) (tg : Tgt K g [i, j] f) (h1 : LiI K W xw wi1 di1) (h2 : LiI K W0 xw0 wi2 di2) (hk : Li K W0 xw0 tk dk) (hv : Li K W0 xw0 tv dv) : Li K W xw (tLockD (tDc2f wi1 g wi2 (gName l) tk tv [i, j, l])) (dDc2f f l di1 di2 dk dv) := fun c eK hW Γ k hk0 σ H st Q q => by
  refine h1 c eK hW Γ _ hk0 σ H st _ fun J H1 xs g1 wo hxs => fun q0 nD => ?_
  obtain ⟨φ, hφ, wk⟩ := wo.own q0 nD
  have nF : ¬ c.F q0 := c.fresh g1.inv nD
  let G : Addr → Prop := fun b => c.G b ∨ b = q0
  have kD : ∀ {H : Hp} {o : HO}, Kp G H (upd H q0 o) := fun {H o} b u nb _ e => by
    rw [upd_ne (fun y => nb (.inr y))]
    exact e
  have kF : ∀ {H : Hp} {o : HO}, Kp (c.hide q0 nF).F H (upd H q0 o) := fun {H o} => kD.le fun b z => z.elim (fun z => .inl (c.GF z)) .inr
  have kG : ∀ {H H' : Hp}, Kp c.G H H' → Kp G H H' := fun k => k.le fun _ z => .inl z
  have kvgo : ∀ {H H' : Hp} {vs : List (Key × V)} {ds : List (Key × D)}, RpKv (c.hide q0 nF) H vs ds → Kp (c.hide q0 nF).F H H' → RpKv (c.hide q0 nF) H' vs ds := fun {H H' vs ds} r k => RpKv.to (c := c.hide q0 nF) (c' := c.hide q0 nF) rfl (fun _ z => z) k r
  refine ⟨fun n m H => m = xs.length - n ∧ n ≤ xs.length ∧ φ H ∧ Kp G H1 H ∧ ∃ (acc : List (Key × V)) (ds : List (Key × D)), H q0 = some (.dK acc) ∧ StOk (c.hide q0 nF) σ H Γ ∧ RpKv (c.hide q0 nF) H acc ds ∧ dcO f l di2 dk dv (Γ.set l .any) (xs.drop n) ds (fun zs => k (.d (.dic zs))), ⟨xs.length, by simp, Nat.zero_le _, (wk nF).st kF (Kz.upd (.none nD)) hφ, kD, [], [], upd_same, (st.go g1).hide nF nD (fun b o e => by rw [upd_ne (ne_of_none e nD)]; exact e) ⟨_, upd_same, rfl⟩, .nil, by simpa using hxs⟩, ?_⟩
  rintro n m H2 ⟨rfl, hn, hf, kk, acc, ds, ea, sk, ra, hd⟩
  by_cases hlt : n < xs.length
  · refine .inr ⟨(wk nF).go n H2 hf sk.inv hlt, fun H' => n + 1 ≤ xs.length ∧ φ H' ∧ Kp G H1 H' ∧ ∃ (acc : List (Key × V)) (ds : List (Key × D)), H' q0 = some (.dK acc) ∧ StOk (c.hide q0 nF) σ H' Γ ∧ RpKv (c.hide q0 nF) H' acc ds ∧ dcO f l di2 dk dv (Γ.set l .any) (xs.drop (n + 1)) ds (fun zs => k (.d (.dic zs))), fun H' z => ⟨xs.length - (n + 1), by omega, rfl, z⟩, fun x H' y => ?_⟩
    have ex : xs[n]? = some xs[n] := List.getElem?_eq_some_iff.mpr ⟨hlt, rfl⟩
    obtain ⟨g2, rx⟩ := (wk nF).yld n H2 x H' xs[n] hf sk.inv ex y
    rw [List.drop_eq_getElem_cons hlt, dcO] at hd
    obtain ⟨Γ', ef, hd⟩ := onG_some hd
    show g x (wipe (σ.set l none) [i, j]) H' _
    refine tg.go (c.hide q0 nF) eK (σ.set l none) H' (Γ.set l .any) Γ' x xs[n] _ ((sk.go g2).set (o := none) (s := .any) trivial) rx ef fun σ' ew s2 => ?_
    refine h2 (c.hide q0 nF) eK WOk.zero _ _ hd _ H' s2 _ fun J2 H3 ys g3 wo2 hys => ?_
    obtain ⟨φ2, wk2, hφ2⟩ := wo2.now
    have g23 := g2.trans g3
    refine ⟨fun p m2 σ3 H => m2 = ys.length - p ∧ p ≤ ys.length ∧ (σ3 = σ' ∨ ∃ u, σ3 = σ'.set l u) ∧ φ H ∧ φ2 H ∧ Kp G H1 H ∧ ∃ (acc : List (Key × V)) (ds : List (Key × D)), H q0 = some (.dK acc) ∧ StOk (c.hide q0 nF) σ H Γ ∧ StOk (c.hide q0 nF) σ' H Γ' ∧ RpKv (c.hide q0 nF) H acc ds ∧ dcI l dk dv Γ' (ys.drop p) ds (fun ds' => dcO f l di2 dk dv (Γ.set l .any) (xs.drop (n + 1)) ds' fun zs => k (.d (.dic zs))), ⟨ys.length, by simp, Nat.zero_le _, .inl rfl, (wk nF).st g23.kF (Kz.of g23.keep) hf, hφ2, kk.trans (kG g23.keep), acc, ds, g23.keep q0 _ (fun z => nF (c.GF z)) rfl ea, sk.go g23, s2.go g3, kvgo ra g23.kF, hys⟩, ?_⟩
    rintro p m2 σ3 H5 ⟨rfl, hp, eσ, hf5, hf52, kk5, acc5, ds5, ea5, sk5, s5, ra5, hd5⟩
    by_cases hlp : p < ys.length
    · rw [List.drop_eq_getElem_cons hlp, dcI] at hd5
      obtain ⟨hl5, hd5⟩ := hd5
      refine .inr ⟨wk2.go p H5 hf52 sk5.inv hlp, fun σ3 H => p + 1 ≤ ys.length ∧ (σ3 = σ' ∨ ∃ u, σ3 = σ'.set l u) ∧ φ H ∧ φ2 H ∧ Kp G H1 H ∧ ∃ (acc : List (Key × V)) (ds : List (Key × D)), H q0 = some (.dK acc) ∧ StOk (c.hide q0 nF) σ H Γ ∧ StOk (c.hide q0 nF) σ' H Γ' ∧ RpKv (c.hide q0 nF) H acc ds ∧ dcI l dk dv Γ' (ys.drop (p + 1)) ds (fun ds' => dcO f l di2 dk dv (Γ.set l .any) (xs.drop (n + 1)) ds' fun zs => k (.d (.dic zs))), fun σ4 H4 z => ⟨ys.length - (p + 1), by omega, rfl, z⟩, fun y2 H6 y6 => ?_⟩
      have ey : ys[p]? = some ys[p] := List.getElem?_eq_some_iff.mpr ⟨hlp, rfl⟩
      obtain ⟨g6, ry⟩ := wk2.yld p H5 y2 H6 ys[p] hf52 sk5.inv ey y6
      have eσ2 : σ3.set l (some y2) = σ'.set l (some y2) := by
        rcases eσ with rfl | ⟨u, rfl⟩
        · rfl
        · rw [List.set_set]
      show tk (σ3.set l (some y2)) H6 _
      rw [eσ2]
      have s7 : StOk (c.hide q0 nF) (σ'.set l (some y2)) H6 (Γ'.set l (.d ys[p])) := (s5.go g6).set (s := .d ys[p]) ⟨y2, rfl, ry⟩
      refine hk (c.hide q0 nF) eK WOk.zero _ _ hd5 _ H6 s7 _ fun v s H7 g7 r7 h7 => ?_
      refine hv (c.hide q0 nF) eK WOk.zero _ _ h7 _ H7 (s7.go g7) _ fun v2 s' H8 g8 r8 h8 => ?_
      have r7' := r7.go g8.keep
      have g68 := (g6.trans g7).trans g8
      cases s <;> try exact False.elim h8
      rename_i uu
      cases s' <;> try exact False.elim h8
      rename_i yy
      obtain ⟨key, eu, h8⟩ := h8
      subst eu
      obtain ⟨w, ew', rr⟩ := r7'
      cases ew'
      obtain ⟨w2, ew2, rr2⟩ := r8
      cases ew2
      have ekk := key_of rr
      have ea8 : H8 q0 = some (.dK acc5) := g68.keep q0 _ (fun z => nF (c.GF z)) rfl ea5
      have lz : acc5.length < sizeLine := by
        rw [ra5.len]
        exact Nat.lt_of_lt_of_le hl5 (by decide)
      have sk8 := sk5.go g68
      have s8 := s5.go g68
      refine ⟨acc5, key, ekk, ea8, lz, hlp, .inr ⟨_, rfl⟩, (wk nF).st kF (Kz.upd (.dK ea8)) ((wk nF).st g68.kF (Kz.of g68.keep) hf5), wk2.st kF (Kz.upd (.dK ea8)) (wk2.st g68.kF (Kz.of g68.keep) hf52), (kk5.trans (kG g68.keep)).trans kD, putK acc5 key v2, putKD ds5 key yy, upd_same, sk8.hput (.dK ea8), s8.hput (.dK ea8), ?_, h8⟩
      exact (kvgo (kvgo ra5 g68.kF) kF).put key (rr2.go kF)
    · have en : p = ys.length := by omega
      subst en
      rw [List.drop_length, dcI] at hd5
      refine .inl ⟨?_, wk2.stop _ H5 hf52 (Nat.le_refl _), hlt, hf5, kk5, acc5, ds5, ea5, sk5, ra5, hd5⟩
      rcases eσ with rfl | ⟨u, rfl⟩
      · exact wipe3 hil hjl ew
      · exact wipe3s.trans (wipe3 hil hjl ew)
  · have en : n = xs.length := by omega
    subst en
    rw [List.drop_length, dcO] at hd
    refine .inl ⟨(wk nF).stop _ H2 hf (Nat.le_refl _), q0, acc, rfl, ea, fun o => ?_⟩
    have g9 : Go c H1 (upd H2 q0 (.frz o (.dK acc))) := ⟨fun b u nb tb eb => by
      have nq : b ≠ q0 := fun y => by
        rw [y, nD] at eb
        cases eb
      rw [upd_ne nq]
      exact kk b u (fun z => z.elim nb nq) tb eb, Le.hide.I _ (sk.hput (o := .frz o (.dK acc)) (.dK ea)).inv⟩
    refine q (.ref q0) (.d (.dic ds)) _ (g1.trans g9) ⟨_, rfl, .dic nF upd_same ?_⟩ hd
    exact RpKv.to (c := c.hide q0 nF) (c' := c) rfl (fun _ z => .inl z) Kp.self (kvgo ra kF)
theorem pd_dc2f {i j l : Nat} {x y z : Str} {tp tp1 tp2 : Pos} {kt : _} {pt : Pos} {kx vx i1 i2 : Expr} {scope : Scope} {wi1 : TI} {wi2 : Blk TI} {tk tv : Blk TE} {di1 di2 : DI} {dk dv : DE} (hij : i ≠ j) (hil : i ≠ l) (hjl : j ≠ l) (hc : X.calm = true) (hN : X.N.Nodup) (hi1 : PDI X W xw (.Tuple [.Name x tp, .Name y tp1] kt pt) i1 wi1 di1) (ok : BlkOk X.N X.env.scope scope [(x, i), (y, j), (z, l)])
    (hg1 : ∀ (s : Shared) (H : Hp) (C : Addr) (cl : List (Str × Addr)) (fp : List Addr), PG (X.blk s H scope (compEnvC scope cl C X.env) fp) (.Tuple [.Name x tp, .Name y tp1] kt pt) (gTwoT X.K i j)) (hi2 : ∀ (s : Shared) (H : Hp) (C : Addr) (cl : List (Str × Addr)) (fp : List Addr), PDI (X.blk s H scope (compEnvC scope cl C X.env) fp) W0 xw0 (.Name z tp2) i2 (wi2 s H C cl fp) di2)
    (hg2 : ∀ (s : Shared) (H : Hp) (C : Addr) (cl : List (Str × Addr)) (fp : List Addr), PG (X.blk s H scope (compEnvC scope cl C X.env) fp) (.Name z tp2) (gName l)) (hk : ∀ (s : Shared) (H : Hp) (C : Addr) (cl : List (Str × Addr)) (fp : List Addr), PD (X.blk s H scope (compEnvC scope cl C X.env) fp) W0 xw0 kx (tk s H C cl fp) dk)
    (he : ∀ (s : Shared) (H : Hp) (C : Addr) (cl : List (Str × Addr)) (fp : List Addr), PD (X.blk s H scope (compEnvC scope cl C X.env) fp) W0 xw0 vx (tv s H C cl fp) dv)
    (hs1 : ∀ x, foldedSetIterable i1 X.env x = pure x := by intro _; rfl) (hs2 : ∀ (env : Env) x, foldedSetIterable i2 env x = pure x := by intros; rfl)
    (hti : ∀ s H C cl fp, wi2 s H C cl fp = Blk.at0 X wi2 := by intros; rfl) (htk : ∀ s H C cl fp, tk s H C cl fp = Blk.at0 X tk := by intros; rfl) (htv : ∀ s H C cl fp, tv s H C cl fp = Blk.at0 X tv := by intros; rfl) :
    PD X W xw (dce2 kx vx (.Tuple [.Name x tp, .Name y tp1] kt pt) i1 (.Name z tp2) i2 scope pos) (tLockD (tDc2f wi1 (gTwoT X.K i j) (Blk.at0 X wi2) (gName l) (Blk.at0 X tk) (Blk.at0 X tv) [i, j, l])) (dDc2f (fTwo i j) l di1 di2 dk dv) :=
  ⟨fun tk' => pe_lockD (pe_dc2f (own := [(x, i), (y, j), (z, l)]) hc hN (hi1.pi tk') ok hg1 (fun s H C cl fp => hti s H C cl fp ▸ (hi2 s H C cl fp).pi takes0) hg2 (fun s H C cl fp => htk s H C cl fp ▸ (hk s H C cl fp).pe takes0) (fun s H C cl fp => htv s H C cl fp ▸ (he s H C cl fp).pe takes0) hs1 hs2), li_dc2f hil hjl (tgt_two X.K hij) hi1.li (hi2 X.s_0 X.H_0 0 [] []).li (hk X.s_0 X.H_0 0 [] []).li (he X.s_0 X.H_0 0 [] []).li⟩
end
end Dv
set_option Elab.async false
set_option linter.all false
set_option maxRecDepth 100000
set_option maxHeartbeats 4000000
/-! Hu: len({x for a in it}), texts. -/
namespace Dv
open PySem PySem.Spec PyProof.Rows L2
section
variable {prog : Program} {w : World} {A : Around} {R : Result → Shared → Prop} {s : Shared} {env : Env} {elt t1 i1 : Expr} {scope : Scope} {pos : Pos} {it acc : Value}
end
section
variable {X : Cx}
end
section
variable {X : Cx} {W : WX} {xw : XW} {K : PySem.W.Frag} {pos : Pos}
end
end Dv
set_option Elab.async false
set_option linter.all false
set_option maxRecDepth 100000
set_option maxHeartbeats 4000000
/-! Hv: zip of two and of three lists or tuples, walked by targets of two and three names. -/
namespace Dv
open PySem PySem.Spec PyProof.Rows L2
/-! ### lists and tuples alike: true a list, false a tuple -/
def SqK (K : PySem.W.Frag) : Bool → Hp → Addr → List V → Prop
  | true, H, a, xs => SqL K H a xs
  | false, H, a, xs => SqT K H a xs
def ItAt : Bool → Heap → Addr → Addr → Nat → Prop
  | true, h, it, a, i => h.IsListIter it a i
  | false, h, it, a, i => h.IsTupleIter it a i
def SqAt : Bool → Heap → Addr → Array Value → Prop
  | true, h, a, xs => h.IsList a xs
  | false, h, a, xs => h.IsTuple a xs
def InK (c : Cfg) : Bool → Hp → Addr → List V → Prop
  | true, H, a, xs => InL c H a xs
  | false, H, a, xs => InT c H a xs
theorem InK.sq {c : Cfg} {k : Bool} {H : Hp} {a : Addr} {xs : List V} (h : InK c k H a xs) : SqK c.K k H a xs := by
  cases k
  · exact InT.sq h
  · exact InL.sq h
theorem InK.go {c : Cfg} {k : Bool} {H H' : Hp} {a : Addr} {xs : List V} (h : InK c k H a xs) (q : Kp c.F H H') : InK c k H' a xs := by
  cases k
  · exact InT.to (c := c) (c' := c) rfl (fun _ z => z) q h
  · exact InL.to (c := c) (c' := c) rfl (fun _ z => z) q h
theorem InK.hide {c : Cfg} {k : Bool} {H : Hp} {a b : Addr} {xs : List V} (h : InK c k H a xs) (nb : H b = none) (ha : ¬ c.F b) : InK (c.hide b ha) k H a xs := by
  cases k
  · refine h.elim (fun z => .inl ⟨fun y => y.elim z.1 fun e => ?_, z.2⟩) .inr
    subst e
    rcases z.2 with z | ⟨_, z⟩ <;> (rw [nb] at z; cases z)
  · refine h.elim (fun z => .inl ⟨fun y => y.elim z.1 fun e => ?_, z.2⟩) .inr
    subst e
    rcases z.2 with z | ⟨_, z⟩ <;> (rw [nb] at z; cases z)
section
variable {X : Cx} {pins : List (Addr × Obj)} {σ : L2.St} {H : Hp} {s : Shared} {k : Bool} {a : Addr} {xs ys : List V}
end
theorem SqAt.lt {k : Bool} {h : Heap} {a : Addr} {xs : Array Value} (p : SqAt k h a xs) : a < h.objs.size := by
  cases k
  · obtain ⟨o, e, _⟩ := p
    exact Heap.lt_size e
  · obtain ⟨o, e, _⟩ := p
    exact Heap.lt_size e
theorem ItAt.at_ {k : Bool} {h h' : Heap} {it a : Addr} {i : Nat} (p : ItAt k h it a i) (q : ∀ o, h.get? it = some o → h'.get? it = some o) : ItAt k h' it a i := by
  cases k
  · exact Heap.IsTupleIter.at p q
  · exact Heap.IsListIter.at p q
theorem ItAt.obj {k : Bool} {h : Heap} {it a : Addr} {i : Nat} (p : ItAt k h it a i) : ∃ o, h.get? it = some o ∧ ∀ v, o.data ≠ .cell v := by
  cases k
  · obtain ⟨o, e, _, d⟩ := p
    exact ⟨o, e, fun v q => by rw [d] at q; cases q⟩
  · obtain ⟨o, e, _, d⟩ := p
    exact ⟨o, e, fun v q => by rw [d] at q; cases q⟩
theorem drawsK {prog : Program} {w : World} {A : Around} (hh : A.handled = none) (k : Bool) (it a : Addr) (ne : a ≠ it) (items : Array Value) :
    Draws prog w A it [it, a] items.size (fun i v => items[i]? = some v) (fun i h => ItAt k h it a i ∧ SqAt k h a items) := by
  cases k
  · exact Draws.tuple hh it a ne items
  · exact Draws.list hh it a ne items
/-! ### two -/
section
variable {X : Cx} {W : WX} {xw : XW} {K : PySem.W.Frag} {pos : Pos}
end
/-! ### three -/
/-! ### targets of three names -/
section
variable {X : Cx} {W : WX} {xw : XW} {K : PySem.W.Frag} {pos : Pos}
end
end Dv
set_option Elab.async false
set_option linter.all false
set_option maxRecDepth 100000
set_option maxHeartbeats 4000000
/-! Hw: clauses with and without a name; d[k], d[l] = e; dict(e) as data. -/
namespace L2
open PySem PySem.Spec PyProof.Rows
inductive AsOkM (X : Cx) (n : Str) : List ExceptHandler → List (Bool × Value × (Addr → Value → Option Addr → TS)) → Prop
  | nil : AsOkM X n [] []
  | named {x : Str} {c : Value} {ts : Addr → Value → Option Addr → TS} {b : Stmt} {bs : List Stmt} {p q : Pos} {hs : List ExceptHandler} {l : List (Bool × Value × (Addr → Value → Option Addr → TS))} (nm : Names X x c)
      (su : ∀ (a : Addr) (oe : Obj) (cls : Value) (d : Option Addr) (pn : List (Addr × Obj)), Zc cls d oe → (∃ vs, oe.data = .fields vs) → PSs (X.suite a ((a, oe) :: pn)) (b :: bs) (ts a cls d)) (r : AsOkM X n hs l) :
      AsOkM X n (.ExceptHandler (some (.Name x p)) (some n) (b :: bs) q :: hs) ((true, c, ts) :: l)
  | plain {x : Str} {c : Value} {ts : Addr → Value → Option Addr → TS} {b : Stmt} {bs : List Stmt} {p q : Pos} {hs : List ExceptHandler} {l : List (Bool × Value × (Addr → Value → Option Addr → TS))} (nm : Names X x c)
      (su : ∀ (a : Addr) (oe : Obj) (cls : Value) (d : Option Addr) (pn : List (Addr × Obj)), Zc cls d oe → (∃ vs, oe.data = .fields vs) → PSs (X.suite a ((a, oe) :: pn)) (b :: bs) (ts a cls d)) (r : AsOkM X n hs l) :
      AsOkM X n (.ExceptHandler (some (.Name x p)) none (b :: bs) q :: hs) ((false, c, ts) :: l)
section
variable {X : Cx} {n : Str} {i : Nat} {body : List Stmt} {h1 : ExceptHandler} {hs : List ExceptHandler} {l : List (Bool × Value × (Addr → Value → Option Addr → TS))} {pos : Pos} {tb : WX → TS} {Wo : WX}
end
end L2
namespace Dv
open PySem PySem.Spec PyProof.Rows L2
/-! ### the clauses on data -/
inductive AsLM (K : PySem.W.Frag) : List (Bool × Value × (Addr → Value → Option Addr → TS)) → List (Bool × Value × (Addr → Value → Option Addr → DS)) → Prop
  | nil : AsLM K [] []
  | cons {y : Bool} {c : Value} {ts : Addr → Value → Option Addr → TS} {ds : Addr → Value → Option Addr → DS} {l : List (Bool × Value × (Addr → Value → Option Addr → TS))} {m : List (Bool × Value × (Addr → Value → Option Addr → DS))} (su : ∀ a A d, LiS K W0 xw0 (ts a (.ref A) d) (ds a (.ref A) d)) (r : AsLM K l m) : AsLM K ((y, c, ts) :: l) ((y, c, ds) :: m)
inductive AsDM (X : Cx) (n : Str) : List ExceptHandler → List (Bool × Value × (Addr → Value → Option Addr → TS)) → List (Bool × Value × (Addr → Value → Option Addr → DS)) → Prop
  | nil : AsDM X n [] [] []
  | named {x : Str} {c : Value} {ts : Addr → Obj → Value → Option Addr → List (Addr × Obj) → TS} {ds : Addr → Value → Option Addr → DS} {b : Stmt} {bs : List Stmt} {p q : Pos} {hs : List ExceptHandler} {l : List (Bool × Value × (Addr → Value → Option Addr → TS))} {m : List (Bool × Value × (Addr → Value → Option Addr → DS))} (nm : Names X x c)
      (su : ∀ (a : Addr) (oe : Obj) (cls : Value) (d : Option Addr) (pn : List (Addr × Obj)), Zc cls d oe → (∃ vs, oe.data = .fields vs) → PDSs (X.suite a ((a, oe) :: pn)) W0 xw0 (b :: bs) (ts a oe cls d pn) (ds a cls d)) (r : AsDM X n hs l m)
      (ht : ∀ a oe cls d pn, ts a oe cls d pn = ts a (oe0 cls d) cls d [] := by intros; rfl) : AsDM X n (.ExceptHandler (some (.Name x p)) (some n) (b :: bs) q :: hs) ((true, c, fun a cls d => ts a (oe0 cls d) cls d []) :: l) ((true, c, ds) :: m)
  | plain {x : Str} {c : Value} {ts : Addr → Obj → Value → Option Addr → List (Addr × Obj) → TS} {ds : Addr → Value → Option Addr → DS} {b : Stmt} {bs : List Stmt} {p q : Pos} {hs : List ExceptHandler} {l : List (Bool × Value × (Addr → Value → Option Addr → TS))} {m : List (Bool × Value × (Addr → Value → Option Addr → DS))} (nm : Names X x c)
      (su : ∀ (a : Addr) (oe : Obj) (cls : Value) (d : Option Addr) (pn : List (Addr × Obj)), Zc cls d oe → (∃ vs, oe.data = .fields vs) → PDSs (X.suite a ((a, oe) :: pn)) W0 xw0 (b :: bs) (ts a oe cls d pn) (ds a cls d)) (r : AsDM X n hs l m)
      (ht : ∀ a oe cls d pn, ts a oe cls d pn = ts a (oe0 cls d) cls d [] := by intros; rfl) : AsDM X n (.ExceptHandler (some (.Name x p)) none (b :: bs) q :: hs) ((false, c, fun a cls d => ts a (oe0 cls d) cls d []) :: l) ((false, c, ds) :: m)
theorem AsDM.ok {X : Cx} {n : Str} {hs : List ExceptHandler} {l : List (Bool × Value × (Addr → Value → Option Addr → TS))} {m : List (Bool × Value × (Addr → Value → Option Addr → DS))} (h : AsDM X n hs l m) : AsOkM X n hs l := by
  induction h with
  | nil => exact .nil
  | named nm su r ht ih => exact .named nm (fun a oe cls d pn z f => ht a oe cls d pn ▸ (su a oe cls d pn z f).ps takes0) ih
  | plain nm su r ht ih => exact .plain nm (fun a oe cls d pn z f => ht a oe cls d pn ▸ (su a oe cls d pn z f).ps takes0) ih
theorem AsDM.li {X : Cx} {n : Str} {hs : List ExceptHandler} {l : List (Bool × Value × (Addr → Value → Option Addr → TS))} {m : List (Bool × Value × (Addr → Value → Option Addr → DS))} (h : AsDM X n hs l m) : AsLM X.K l m := by
  induction h with
  | nil => exact .nil
  | named nm su r ht ih => exact .cons (fun a A d => (su a (oe0 (.ref A) d) (.ref A) d [] ⟨rfl, rfl⟩ ⟨_, rfl⟩).li) ih
  | plain nm su r ht ih => exact .cons (fun a A d => (su a (oe0 (.ref A) d) (.ref A) d [] ⟨rfl, rfl⟩ ⟨_, rfl⟩).li) ih
section
variable {X : Cx} {W : WX} {xw : XW} {K : PySem.W.Frag} {pos : Pos}
/-! ### d[k], d[l] = e -/
/-! ### dict(e), data -/
/-! ### min of a list -/
end
end Dv
set_option Elab.async false
set_option linter.all false
set_option maxRecDepth 100000
set_option maxHeartbeats 4000000
/-! Hy: list(zip(a, b)), each a list or a tuple. -/
namespace Dv
open PySem PySem.Spec PyProof.Rows L2
theorem SqAt.at_ {k : Bool} {h h' : Heap} {a : Addr} {xs : Array Value} (p : SqAt k h a xs) (q : ∀ o, h.get? a = some o → h'.get? a = some o) : SqAt k h' a xs := by
  cases k
  · exact Heap.IsTuple.at p q
  · exact Heap.IsList.at p q
end Dv
namespace ZkX
open PySem PySem.Spec PyProof.Rows Dv
section
variable {prog : Program} {w : World} {A : Around} {E : Value → Shared → Prop} {s : Shared} {z TI TO i1 i2 l1 l2 S : Addr} {xs ys : Array Value} {k1 k2 : Bool}
/-- a zip behind i items -/
def At (k1 k2 : Bool) (h : Heap) (z TI TO i1 i2 l1 l2 S : Addr) (xs ys : Array Value) (i : Nat) : Prop :=
  IsPair h TI (.ref i1) (.ref i2) ∧ ItAt k1 h i1 l1 i ∧ ItAt k2 h i2 l2 i ∧ SqAt k1 h l1 xs ∧ SqAt k2 h l2 ys ∧
    ((IsZip h z TI TO .none ∧ ∃ a b, IsPair h TO a b) ∨ ∃ T f oT, IsZipHeld h z TI TO T f ∧ h.get? T = some oT ∧ T ≠ z ∧ T ≠ i1 ∧ T ≠ i2 ∧ T ≠ S)
theorem At.put {h h' : Heap} {i : Nat} (x : At k1 k2 h z TI TO i1 i2 l1 l2 S xs ys i) (o : ZlX.Off z TI TO i1 i2 l1 l2 S) (hk : ∀ b q, b ≠ S → h.get? b = some q → h'.get? b = some q) : At k1 k2 h' z TI TO i1 i2 l1 l2 S xs ys i := by
  obtain ⟨a1, a2, a3, a4, a5, a6⟩ := x
  refine ⟨hk _ _ o.TI a1, a2.at_ fun q e => hk _ q o.i1 e, a3.at_ fun q e => hk _ q o.i2 e, a4.at_ fun q e => hk _ q o.l1 e, a5.at_ fun q e => hk _ q o.l2 e, ?_⟩
  rcases a6 with ⟨b1, u, v, b2⟩ | ⟨T, f, oT, b1, b2, b3, b4, b5, b6⟩
  · exact .inl ⟨hk _ _ o.z b1, u, v, hk _ _ o.TO b2⟩
  · exact .inr ⟨T, f, oT, hk _ _ o.z b1, hk _ _ b6 b2, b3, b4, b5, b6⟩
/-- a zip whose last pair is kept elsewhere makes a new one -/
theorem held_item {fp1 fp2 : List Addr} {n1 n2 i : Nat} {P1 P2 : Nat → Value → Prop} {St1 St2 : Nat → Heap → Prop} {T : Addr} {f : Bool} {oT : Obj} {Q : Option Value → Shared → Prop} (S : ZipSep2 z TI TO i1 i2 fp1 fp2) (D1 : Draws prog w A.in1 i1 fp1 n1 P1 St1) (D2 : Draws prog w A.in1 i2 fp2 n2 P2 St2)
    (hz : IsZipHeld s.heap z TI TO T f) (hT : s.heap.get? T = some oT) (hTI : IsPair s.heap TI (.ref i1) (.ref i2)) (st1 : St1 i s.heap) (st2 : St2 i s.heap) (lt1 : i < n1) (lt2 : i < n2)
    (hQ : ∀ x y h' tk, P1 i x → P2 i y → IsZipHeld h' z TI TO T true → St1 (i + 1) h' → St2 (i + 1) h' → IsPair h' s.heap.objs.size x y →
      (∀ c o, c ≠ z → c ≠ i1 → c ≠ i2 → s.heap.get? c = some o → h'.get? c = some o) → Q (some (.ref s.heap.objs.size)) { s with heap := h', toks := tk }) :
    wpAny (model prog w) A (pyNext (.ref z)) Q E s := by
  have hTy : s.TypeIs (.ref z) "zip" := ⟨_, hz, rfl⟩
  unfold pyNext
  refine wpAny_bind (wpAny_attempt (wpAny_callSpecial?_slot (name := Str.ofString "__next__") hTy F.slot_zip_next (wpAny_call_entry F.slot_zip_next hTy F.entry_zip_next ?_ (F.args_zip_next_1 _))))
  show wpAny _ _ (field (.ref z) 2 >>= _) _ _ _
  refine wpAny_bind (wpAny_field hz rfl (x := .bool false) rfl ?_)
  show wpAny _ _ (field (.ref z) 3 >>= _) _ _ _
  refine wpAny_bind (wpAny_field hz rfl (x := .ref TI) rfl ?_)
  refine wpAny_bind (wpAny_seqItems hTI rfl ?_)
  show wpAny _ _ (Builtin.SmallTypes.ownedTupleIsFree (.ref z) >>= _) _ _ _
  refine wpAny_bind (wpAny_tupleHeld_zip hz hT fun g1 z1 b1 => ?_)
  simp only [Bool.false_eq_true, if_false]
  refine wpAny_bind ?_
  rw [← Array.forIn_toList]
  simp only [List.forIn_cons, List.forIn_nil]
  refine wpAny_bind (wpAny_bind (wpAny_holding ?_))
  show wpAny _ _ (Builtin.SmallTypes.nextOf (.ref i1) >>= _) _ _ _
  refine wpAny_bind (D1.item i { s with heap := g1 } _ _ lt1 (D1.over st1 b1 S.zf1) fun x g2 t2 px s1 b2 => wpAny_pure ?_)
  refine wpAny_pure ?_
  refine wpAny_bind (wpAny_bind (wpAny_holding ?_))
  show wpAny _ _ (Builtin.SmallTypes.nextOf (.ref i2) >>= _) _ _ _
  refine wpAny_bind (D2.item i { s with heap := g2, toks := t2 } _ _ lt2 (D2.over (D2.over st2 b1 S.zf2) b2 S.sep1_2) fun y g3 t3 py s2 b3 => wpAny_pure ?_)
  refine wpAny_pure (wpAny_pure ?_)
  show wpAny _ _ (newTuple [x, y] >>= _) _ _ _
  refine wpAny_bind (wpAny_newTuple ?_)
  replace b2 : Heap.SameBut i1 g1 g2 := b2
  replace b3 : Heap.SameBut i2 g2 g3 := b3
  have hsz : g3.objs.size = s.heap.objs.size := by rw [b3.1, b2.1, b1.1]
  have z3 : IsZipHeld g3 z TI TO T true := b3.extBut _ _ S.zi2 (b2.extBut _ _ S.zi1 z1)
  have hk : ∀ c o, c ≠ z → c ≠ i1 → c ≠ i2 → s.heap.get? c = some o → g3.get? c = some o := fun c o c1 c2 c3 e => b3.extBut _ _ c3 (b2.extBut _ _ c2 (b1.extBut _ _ c1 e))
  have s1' := D1.over s1 b3 S.sep2_1
  refine wpAny_pure ⟨_, rfl, wpAny_pure ?_⟩
  show Q (some (.ref g3.objs.size)) _
  have hp : IsPair (g3.push { cls := .type "tuple", data := .seq #[x, y] }) g3.objs.size x y := Heap.get?_push_size _ rfl
  rw [hsz] at hp ⊢
  exact hQ x y _ t3 px py (Heap.get?_push_of_some _ z3) (D1.frame _ _ _ s1' fun b _ o e => Heap.get?_push_of_some _ e) (D2.frame _ _ _ s2 fun b _ o e => Heap.get?_push_of_some _ e) hp fun c o c1 c2 c3 e => Heap.get?_push_of_some _ (hk c o c1 c2 c3 e)
/-- .. and ends where the first one ends -/
theorem held_end {fp1 fp2 : List Addr} {n1 : Nat} {P1 : Nat → Value → Prop} {St1 : Nat → Heap → Prop} {T : Addr} {f : Bool} {oT : Obj} {Q : Option Value → Shared → Prop} (S : ZipSep2 z TI TO i1 i2 fp1 fp2) (D1 : Draws prog w A.in1 i1 fp1 n1 P1 St1)
    (hz : IsZipHeld s.heap z TI TO T f) (hT : s.heap.get? T = some oT) (hTI : IsPair s.heap TI (.ref i1) (.ref i2)) (st1 : St1 n1 s.heap)
    (hQ : ∀ h', (∀ c o, c ≠ z → c ≠ i1 → s.heap.get? c = some o → h'.get? c = some o) → Q none { s with heap := h' }) :
    wpAny (model prog w) A (pyNext (.ref z)) Q E s := by
  have hTy : s.TypeIs (.ref z) "zip" := ⟨_, hz, rfl⟩
  unfold pyNext
  refine wpAny_bind (wpAny_attempt (wpAny_callSpecial?_slot (name := Str.ofString "__next__") hTy F.slot_zip_next (wpAny_call_entry F.slot_zip_next hTy F.entry_zip_next ?_ (F.args_zip_next_1 _))))
  show wpAny _ _ (field (.ref z) 2 >>= _) _ _ _
  refine wpAny_bind (wpAny_field hz rfl (x := .bool false) rfl ?_)
  show wpAny _ _ (field (.ref z) 3 >>= _) _ _ _
  refine wpAny_bind (wpAny_field hz rfl (x := .ref TI) rfl ?_)
  refine wpAny_bind (wpAny_seqItems hTI rfl ?_)
  show wpAny _ _ (Builtin.SmallTypes.ownedTupleIsFree (.ref z) >>= _) _ _ _
  refine wpAny_bind (wpAny_tupleHeld_zip hz hT fun g1 z1 b1 => ?_)
  simp only [Bool.false_eq_true, if_false]
  refine wpAny_bind ?_
  rw [← Array.forIn_toList]
  simp only [List.forIn_cons, List.forIn_nil]
  refine wpAny_bind (wpAny_bind (wpAny_holding ?_))
  show wpAny _ _ (Builtin.SmallTypes.nextOf (.ref i1) >>= _) _ _ _
  refine wpAny_bind (D1.done { s with heap := g1 } _ _ (D1.over st1 b1 S.zf1) fun g2 e b2 he => ?_)
  obtain ⟨o, ho, hc⟩ := he
  refine wpAny_bind (wpAny_isInstance (T := "StopIteration") (b := true) ⟨o, ho, hc⟩ isSubtype_stop ?_)
  exact wpAny_pure (hQ _ fun c o c1 c2 x => b2 _ _ c2 (b1.extBut _ _ c1 x))
theorem At.next {i : Nat} {x y : Value} {Q : Option Value → Shared → Prop} (n1 : l1 ≠ i1) (n2 : l2 ≠ i2) (hh : A.handled = none) (D : ZipSep2 z TI TO i1 i2 [i1, l1] [i2, l2]) (st : At k1 k2 s.heap z TI TO i1 i2 l1 l2 S xs ys i) (hS : S < s.heap.objs.size) (ex : xs[i]? = some x) (ey : ys[i]? = some y)
    (q : ∀ h' tk, At k1 k2 h' z TI TO i1 i2 l1 l2 S xs ys (i + 1) → IsPair h' s.heap.objs.size x y → (∀ b o, ¬ ZlX.Wr z TO i1 i2 b → s.heap.get? b = some o → h'.get? b = some o) → Q (some (.ref s.heap.objs.size)) { s with heap := h', toks := tk }) :
    wpAny (model prog w) A (pyNext (.ref z)) Q E s := by
  obtain ⟨a1, a2, a3, a4, a5, a6⟩ := st
  have far : ∀ {b o}, s.heap.get? b = some o → s.heap.objs.size ≠ b := fun e => Nat.ne_of_gt (Heap.lt_size e)
  have f1 : s.heap.objs.size ≠ i1 := by
    obtain ⟨_, e, _⟩ := a2.obj
    exact far e
  have f2 : s.heap.objs.size ≠ i2 := by
    obtain ⟨_, e, _⟩ := a3.obj
    exact far e
  have m1 : i < xs.size := (Array.getElem?_eq_some_iff.mp ex).1
  have m2 : i < ys.size := (Array.getElem?_eq_some_iff.mp ey).1
  have D1 := drawsK (prog := prog) (w := w) (A := A.in1) hh k1 i1 l1 n1 xs
  have D2 := drawsK (prog := prog) (w := w) (A := A.in1) hh k2 i2 l2 n2 ys
  rcases a6 with ⟨b1, u, v, b2⟩ | ⟨T, f, oT, b1, b2, b3, b4, b5, b6⟩
  · refine wpAny_pyNext_zipD2_item D D1 D2 b1 a1 b2 ⟨a2, a4⟩ ⟨a3, a5⟩ m1 m2 fun x' y' h' tk px py c1 c2 c3 c4 c5 c6 k => ?_
    have px' : xs[i]? = some x' := px
    have py' : ys[i]? = some y' := py
    rw [ex] at px'
    rw [ey] at py'
    cases px'
    cases py'
    exact q h' tk ⟨k _ _ D.TIz D.TITO D.TIi1 D.TIi2 a1, c3.1, c4.1, c3.2, c4.2, .inr ⟨_, false, _, c1, c5, far b1, f1, f2, Nat.ne_of_gt hS⟩⟩ c5 fun b o nb e =>
      k b o (fun y => nb (.inl y)) (fun y => nb (.inr (.inl y))) (fun y => nb (.inr (.inr (.inl y)))) (fun y => nb (.inr (.inr (.inr y)))) e
  · refine held_item D D1 D2 b1 b2 a1 ⟨a2, a4⟩ ⟨a3, a5⟩ m1 m2 fun x' y' h' tk px py c1 c3 c4 c5 k => ?_
    have px' : xs[i]? = some x' := px
    have py' : ys[i]? = some y' := py
    rw [ex] at px'
    rw [ey] at py'
    cases px'
    cases py'
    exact q h' tk ⟨k _ _ D.TIz D.TIi1 D.TIi2 a1, c3.1, c4.1, c3.2, c4.2, .inr ⟨T, true, oT, c1, k _ _ b3 b4 b5 b2, b3, b4, b5, b6⟩⟩ c5 fun b o nb e =>
      k b o (fun y => nb (.inl y)) (fun y => nb (.inr (.inr (.inl y)))) (fun y => nb (.inr (.inr (.inr y)))) e
theorem At.stop {i : Nat} {Q : Option Value → Shared → Prop} (hh : A.handled = none) (D : ZipSep2 z TI TO i1 i2 [i1, l1] [i2, l2]) (st : At k1 k2 s.heap z TI TO i1 i2 l1 l2 S xs ys i) (n1 : l1 ≠ i1) (n2 : l2 ≠ i2) (hx : i = xs.size) (hy : i = ys.size)
    (q : ∀ h' tk, (∀ b o, ¬ ZlX.Wr z TO i1 i2 b → s.heap.get? b = some o → h'.get? b = some o) → Q none { s with heap := h', toks := tk }) : wpAny (model prog w) A (pyNext (.ref z)) Q E s := by
  obtain ⟨a1, a2, a3, a4, a5, a6⟩ := st
  have D1 := drawsK (prog := prog) (w := w) (A := A.in1) hh k1 i1 l1 n1 xs
  have D2 := drawsK (prog := prog) (w := w) (A := A.in1) hh k2 i2 l2 n2 ys
  rcases a6 with ⟨b1, u, v, b2⟩ | ⟨T, f, oT, b1, b2, b3, b4, b5, b6⟩
  · exact wpAny_pyNext_zipD2_end D D1 D2 b1 a1 b2 ⟨a2, a4⟩ ⟨a3, a5⟩ (Nat.le_of_eq hx) (Nat.le_of_eq hy) (.inl hx) fun h' tk k => q h' tk fun b o nb e => k b o (fun y => nb (.inl y)) (fun y => nb (.inr (.inl y))) (fun y => nb (.inr (.inr (.inl y)))) (fun y => nb (.inr (.inr (.inr y)))) e
  · subst hx
    exact held_end D D1 b1 b2 a1 ⟨a2, a4⟩ fun h' k => q h' s.toks fun b o nb e => k b o (fun y => nb (.inl y)) (fun y => nb (.inr (.inr (.inl y)))) e
theorem loop {R : Result → Shared → Prop} {n : Nat} {lo : Addr} (hh : A.handled = none) (D : ZipSep2 z TI TO i1 i2 [i1, l1] [i2, l2]) (O : ZlX.Off z TI TO i1 i2 l1 l2 S) (N1 : l1 ≠ i1) (N2 : l2 ≠ i2) (hx : xs.size = n) (hy : ys.size = n) (hn : n ≤ sizeLine) (res : Value) {h0 : Heap} (hlo : lo < h0.objs.size)
    (hwr : ∀ b, ZlX.Wr z TO i1 i2 b → b < h0.objs.size) (hS0 : S < h0.objs.size)
    (q : ∀ h' tk c acc as, (∀ b o, b ≠ S → ¬ ZlX.Wr z TO i1 i2 b → h0.get? b = some o → h'.get? b = some o) → h'.get? S = some { cls := .type "list", dict := none, data := .seq acc c, slots := #[] } → acc.toList = as.map Value.ref → as.length = n → ZlX.Got xs ys lo h' as → (∀ a ∈ as, h0.objs.size ≤ a) →
      R (.ok (.ret res)) { s with heap := h', toks := tk }) :
    ∀ (k i : Nat) (h : Heap) (tk : Nat) (c : Nat) (acc : Array Value) (as : List Addr), n - i = k → i ≤ n → At k1 k2 h z TI TO i1 i2 l1 l2 S xs ys i → (∀ b o, b ≠ S → ¬ ZlX.Wr z TO i1 i2 b → h0.get? b = some o → h.get? b = some o) → h.get? S = some { cls := .type "list", dict := none, data := .seq acc c, slots := #[] } →
      acc.toList = as.map Value.ref → as.length = i → ZlX.Got xs ys lo h as → (∀ a ∈ as, h0.objs.size ≤ a) → h0.objs.size ≤ h.objs.size →
      codeAny (model prog w) A (.builtin "list.extend.loop" ⟨[.ref S, .ref z, res], []⟩) R { s with heap := h, toks := tk } := by
  have nS : ¬ ZlX.Wr z TO i1 i2 S := fun y => by
    rcases y with y | y | y | y
    · exact O.z y.symm
    · exact O.TO y.symm
    · exact O.i1 y.symm
    · exact O.i2 y.symm
  intro k
  induction k with
  | zero =>
    intro i h tk c acc as hk hi st kp hS hacc hl g ha hsz
    refine codeAny_builtin PySem.F.entry_extend_loop ?_
    rw [Around.under_plainId PySem.F.plain_extend_loop _]
    show wpAny _ A.in1 (pyNext (.ref z) >>= _) _ _ _
    have ei : i = n := by omega
    refine wpAny_bind (At.stop (s := { s with heap := h, toks := tk }) (A := A.in1) hh D st N1 N2 (by omega) (by omega) fun h' tk2 he => wpAny_pure ?_)
    exact q h' tk2 c acc as (fun b o b1 b2 e => he b o b2 (kp b o b1 b2 e)) (he S _ nS hS) hacc (by omega) (g.keep fun a o m e => he a o (fun y => absurd (hwr a y) (Nat.not_lt.mpr (ha a m))) e) ha
  | succ k ih =>
    intro i h tk c acc as hk hi st kp hS hacc hl g ha hsz
    have hlt : i < n := by omega
    have ex : xs[i]? = some xs[i] := Array.getElem?_eq_getElem (by omega)
    have ey : ys[i]? = some ys[i] := Array.getElem?_eq_getElem (by omega)
    refine codeAny_builtin PySem.F.entry_extend_loop ?_
    rw [Around.under_plainId PySem.F.plain_extend_loop _]
    show wpAny _ A.in1 (pyNext (.ref z) >>= _) _ _ _
    refine wpAny_bind (At.next (s := { s with heap := h, toks := tk }) (A := A.in1) (S := S) N1 N2 hh D st (Heap.lt_size hS) ex ey fun h' tk2 st' ep kq => ?_)
    dsimp only at ep kq ⊢
    have hS' := kq S _ nS hS
    have upd1 : ∀ b o, b ≠ S → h'.get? b = some o → (h'.update S (Obj.mapSeq (·.push (Value.ref h.objs.size)))).get? b = some o := fun b o hb e => (Heap.get?_update_other _ _ (Ne.symm hb)).trans e
    have pS : h.objs.size ≠ S := Nat.ne_of_gt (Heap.lt_size hS)
    have la : acc.size = i := by rw [← Array.length_toList, hacc, List.length_map, hl]
    have ea : ∀ a ∈ as, a < h.objs.size := fun a m => g.lt m
    have nwa : ∀ a ∈ as, ¬ ZlX.Wr z TO i1 i2 a := fun a m y => absurd (hwr a y) (Nat.not_lt.mpr (ha a m))
    have neS : ∀ a ∈ as, a ≠ S := fun a m y => absurd (y ▸ ha a m) (Nat.not_le.mpr hS0)
    show wpAny _ A.in1 (updateSeq S (·.push (Value.ref h.objs.size)) >>= _) _ _ _
    refine wpAny_bind ?_
    refine wpAny_updateSeq hS' rfl (wpAny_pure ⟨plainId_quiet PySem.F.plain_extend_loop _, ih (i + 1) _ _ _ (acc.push (Value.ref h.objs.size)) (as ++ [h.objs.size]) (by omega) hlt (st'.put O upd1) (fun b o b1 b2 e => upd1 b o b1 (kq b o b2 (kp b o b1 b2 e))) (Heap.get?_update_self _ hS' rfl) (by rw [Array.toList_push, hacc, List.map_append]; rfl) (by rw [List.length_append, hl]; rfl) ?_ ?_ ?_⟩) (by rw [la]; omega) (by show (acc.push (Value.ref h.objs.size)).size ≤ sizeLine + 1; rw [Array.size_push, la]; omega)
    · refine (g.keep fun a o m e => upd1 a o (neS a m) (kq a o (nwa a m) e)).more ?_ ea (by rw [hl]; exact ex) (by rw [hl]; exact ey) (upd1 _ _ pS ep)
      exact Nat.lt_of_lt_of_le hlo hsz
    · intro a m
      rcases List.mem_append.mp m with m | m
      · exact ha a m
      · cases List.mem_singleton.mp m
        exact hsz
    · have e8 : (h'.update S (Obj.mapSeq (·.push (Value.ref h.objs.size)))).get? h.objs.size = _ := upd1 _ _ pS ep
      exact Nat.le_of_lt (Nat.lt_of_le_of_lt hsz (Heap.lt_size e8))
/-- what all of a zip's cells are at the beginning -/
def Zip0 (k1 k2 : Bool) (h : Heap) (z TI TO i1 i2 l1 l2 : Addr) (xs ys : Array Value) : Prop := IsZip h z TI TO .none ∧ IsPair h TI (.ref i1) (.ref i2) ∧ (∃ a b, IsPair h TO a b) ∧ ItAt k1 h i1 l1 0 ∧ ItAt k2 h i2 l2 0 ∧ SqAt k1 h l1 xs ∧ SqAt k2 h l2 ys
theorem Zip0.keep {h h' : Heap} (x : Zip0 k1 k2 h z TI TO i1 i2 l1 l2 xs ys) (k : ∀ b o, b ∈ [z, TI, TO, i1, i2, l1, l2] → h.get? b = some o → h'.get? b = some o) : Zip0 k1 k2 h' z TI TO i1 i2 l1 l2 xs ys := by
  obtain ⟨a1, a2, ⟨u, v, a3⟩, a4, a5, a6, a7⟩ := x
  exact ⟨k _ _ (by simp) a1, k _ _ (by simp) a2, ⟨u, v, k _ _ (by simp) a3⟩, a4.at_ fun o e => k _ o (by simp) e, a5.at_ fun o e => k _ o (by simp) e, a6.at_ fun o e => k _ o (by simp) e, a7.at_ fun o e => k _ o (by simp) e⟩
theorem Zip0.lt {h : Heap} (x : Zip0 k1 k2 h z TI TO i1 i2 l1 l2 xs ys) : ∀ b ∈ [z, TI, TO, i1, i2, l1, l2], b < h.objs.size := by
  obtain ⟨a1, a2, ⟨u, v, a3⟩, a4, a5, a6, a7⟩ := x
  obtain ⟨_, a4, _⟩ := a4.obj
  obtain ⟨_, a5, _⟩ := a5.obj
  intro b m
  simp only [List.mem_cons, List.not_mem_nil, or_false] at m
  rcases m with rfl | rfl | rfl | rfl | rfl | rfl | rfl
  · exact Heap.lt_size a1
  · exact Heap.lt_size a2
  · exact Heap.lt_size a3
  · exact Heap.lt_size a4
  · exact Heap.lt_size a5
  · exact a6.lt
  · exact a7.lt
theorem off_of (h : ∀ b ∈ [z, TI, TO, i1, i2, l1, l2], b ≠ S) : ZlX.Off z TI TO i1 i2 l1 l2 S := ⟨h _ (by simp), h _ (by simp), h _ (by simp), h _ (by simp), h _ (by simp), h _ (by simp), h _ (by simp)⟩
theorem filled {R : Result → Shared → Prop} {n : Nat} (hh : A.handled = none) (D : ZipSep2 z TI TO i1 i2 [i1, l1] [i2, l2]) (N1 : l1 ≠ i1) (N2 : l2 ≠ i2) (x : Zip0 k1 k2 s.heap z TI TO i1 i2 l1 l2 xs ys) (hx : xs.size = n) (hy : ys.size = n) (hn : n ≤ sizeLine) (ne : ∀ b ∈ [z, TI, TO, i1, i2, l1, l2], b ≠ S) (hS : s.heap.get? S = some { cls := .type "list", data := .seq #[] })
    (q : ∀ h' tk c acc as, (∀ b o, b ≠ S → ¬ ZlX.Wr z TO i1 i2 b → s.heap.get? b = some o → h'.get? b = some o) → h'.get? S = some { cls := .type "list", dict := none, data := .seq acc c, slots := #[] } → acc.toList = as.map Value.ref → as.length = n → ZlX.Got xs ys S h' as → R (.ok (.ret .none)) { s with heap := h', toks := tk }) :
    wpAny (model prog w) A.in1 (Builtin.«list.__init__» ⟨[.ref S, .ref z], []⟩)
      (fun fin s' => match fin with | .done f => R (.ok f) s' | .again c' => c'.quiet = true ∧ codeAny (model prog w) A c' R s') (fun e s' => R (.error e) s') s := by
  show wpAny _ _ (do let gone ← Builtin.List.listItems (.ref S); Builtin.List.listUpdate (.ref S) (fun _ => #[]); letGo gone.toList.reverse; Builtin.List.listExtendWith (.ref S) (.ref z) .none) _ _ s
  refine wpAny_bind ?_
  unfold Builtin.List.listItems
  refine wpAny_bind (wpAny_seqItems hS rfl (wpAny_pure ?_))
  show wpAny _ _ (updateSeq S (fun _ => #[]) >>= fun _ => letGo (#[] : Array Value).toList.reverse >>= fun _ => Builtin.List.listExtendWith (.ref S) (.ref z) .none) _ _ _
  refine wpAny_bind (wpAny_updateSeq hS rfl ?_)
  have hS2 := Heap.get?_update_self (Obj.mapSeq (fun _ => (#[] : Array Value))) hS rfl
  have oth : ∀ b o, b ≠ S → s.heap.get? b = some o → (s.heap.update S (Obj.mapSeq (fun _ => (#[] : Array Value)))).get? b = some o := fun b o nb e => (Heap.get?_update_other _ _ (Ne.symm nb)).trans e
  have x2 := x.keep (h' := s.heap.update S (Obj.mapSeq (fun _ => (#[] : Array Value)))) fun b o m e => oth b o (ne b m) e
  refine wpAny_bind (wpAny_letGo ?_)
  unfold Builtin.List.listExtendWith
  refine wpAny_bind (wpAny_typeOf (T := "zip") ⟨_, x2.1, rfl⟩ ?_)
  have e1 : Builtin.List.listSameRef (.ref S) (.ref z) = false := by simp [Builtin.List.listSameRef, Ne.symm (ne z (by simp))]
  have e2 : (Value.type "zip" == Value.type "list") = false := by decide
  have e3 : (Value.type "zip" == Value.type "tuple") = false := by decide
  simp only [e1, e2, e3, Bool.or_false, Bool.false_eq_true, if_false]
  refine wpAny_bind (wpAny_pyIter_zip x2.1 ?_)
  refine wpAny_bind (wpAny_holding (ZlX.hint ⟨_, x2.1, rfl⟩ ?_))
  have fin : ∀ (h9 : Heap) (c : Nat), (∀ b o, b ≠ S → s.heap.get? b = some o → h9.get? b = some o) → h9.get? S = some { cls := .type "list", data := .seq #[] c } → codeAny (model prog w) A (.builtin "list.extend.loop" ⟨[.ref S, .ref z, .none], []⟩) R { s with heap := h9 } := fun h9 c k9 e9 => by
    have x9 := x.keep (h' := h9) fun b o m e => k9 b o (ne b m) e
    refine loop (s := s) (lo := S) (n := n) (xs := xs) (ys := ys) (h0 := h9) hh D (off_of ne) N1 N2 hx hy hn .none (Heap.lt_size e9) (fun b y => ?_) (Heap.lt_size e9) (fun h' tk c' acc as k' e' ea el g _ => q h' tk c' acc as (fun b o b1 b2 e => k' b o b1 b2 (k9 b o b1 e)) e' ea el g) n 0 h9 s.toks c #[] [] (by omega) (Nat.zero_le _)
      ⟨x9.2.1, x9.2.2.2.1, x9.2.2.2.2.1, x9.2.2.2.2.2.1, x9.2.2.2.2.2.2, .inl ⟨x9.1, x9.2.2.1⟩⟩ (fun b o _ _ e => e) e9 rfl rfl ⟨List.Pairwise.nil, (fun _ m => nomatch m), fun j a m => by simp at m⟩ (fun _ m => nomatch m) (Nat.le_refl _)
    refine x9.lt b ?_
    rcases y with y | y | y | y <;> simp [y]
  refine wpAny_ite_split (fun _ => ?_) (fun h => absurd rfl h)
  refine wpAny_bind (wpAny_rule ?_)
  refine wpAny_bind ?_
  show wpAny _ _ (updateSeq S (·.push .none) >>= fun _ => updateSeq S (·.pop)) _ _ _
  refine wpAny_bind (wpAny_updateSeq hS2 rfl ?_)
  have hS3 := Heap.get?_update_self (Obj.mapSeq (·.push Value.none)) hS2 rfl
  refine wpAny_updateSeq (hz := by seq_fits) hS3 rfl ?_
  have hS4 := Heap.get?_update_self (Obj.mapSeq (·.pop)) hS3 rfl
  exact wpAny_pure ⟨plainId_quiet PySem.F.plain_extend_loop _, fin _ _ (fun b o nb e => (Heap.get?_update_other _ _ (Ne.symm nb)).trans ((Heap.get?_update_other _ _ (Ne.symm nb)).trans (oth b o nb e))) hS4⟩
theorem call {n : Nat} {Q : Value → Shared → Prop} (hh : A.handled = none) (D : ZipSep2 z TI TO i1 i2 [i1, l1] [i2, l2]) (N1 : l1 ≠ i1) (N2 : l2 ≠ i2) (x : Zip0 k1 k2 s.heap z TI TO i1 i2 l1 l2 xs ys) (hx : xs.size = n) (hy : ys.size = n) (hn : n ≤ sizeLine)
    (q : ∀ h' tk c acc as, (∀ b o, ¬ ZlX.Wr z TO i1 i2 b → s.heap.get? b = some o → h'.get? b = some o) → h'.get? s.heap.objs.size = some { cls := .type "list", dict := none, data := .seq acc c, slots := #[] } → acc.toList = as.map Value.ref → as.length = n → ZlX.Got xs ys s.heap.objs.size h' as →
      Q (.ref s.heap.objs.size) { s with heap := h', toks := tk }) : wpAny (model prog w) A (PySem.call (.type "list") [.ref z]) Q E s := by
  refine callType_codes (Q₁ := fun ob s1 => ob = .ref s.heap.objs.size ∧ s1 = { s with heap := s.heap.push { cls := .type "list", data := .seq #[] } }) PySem.F.called_list (PySem.F.typeCall_list_1 _) PySem.F.entry_list_init (code_list_new _ ⟨rfl, rfl⟩) fun ob s1 h1 => ?_
  obtain ⟨rfl, rfl⟩ := h1
  have hS : (s.heap.push { cls := .type "list", data := .seq #[] }).get? s.heap.objs.size = some { cls := .type "list", data := .seq #[] } := Heap.get?_push_size _ rfl
  have lt := x.lt
  refine ⟨⟨_, hS, rfl⟩, PySem.F.args_list_init_2 _ _, filled (A := A.in1) hh D N1 N2 (x.keep fun b o _ e => Heap.get?_push_of_some _ e) hx hy hn (fun b m => Nat.ne_of_lt (lt b m)) hS fun h' tk c acc as k e ea el g => ?_⟩
  exact ⟨rfl, q h' tk c acc as (fun b o nb e => k b o (Nat.ne_of_lt (Heap.lt_size e)) nb (Heap.get?_push_of_some _ e)) e ea el g⟩
end
end ZkX
namespace Dv
open PySem PySem.Spec PyProof.Rows L2 LiI
section
variable {X : Cx}
end
/-! ### on data -/
section
variable {X : Cx} {W : WX} {xw : XW} {K : PySem.W.Frag} {pos : Pos}
end
end Dv
set_option Elab.async false
set_option linter.all false
set_option maxRecDepth 100000
set_option maxHeartbeats 4000000
/-! Ia: return [e, x, y], x and y dicts of one's own. -/
namespace Dv
open PySem PySem.Spec PyProof.Rows L2
section
variable {X : Cx} {W : WX} {xw : XW} {K : PySem.W.Frag} {pos : Pos}
end
end Dv
set_option Elab.async false
set_option linter.all false
set_option maxRecDepth 100000
set_option maxHeartbeats 4000000
/-! Ib: dicts of one's own in assignments of more names. -/
namespace Dv
open PySem L2
section
variable {X : Cx} {W : WX} {xw : XW} {K : PySem.W.Frag} {pos : Pos}
/-! ### x, y = {}, e -/
/-! ### x, y, z = {}, e, f -/
/-! ### x, y = {}, [] and x, y = {}, {} -/
end
end Dv
set_option Elab.async false
set_option linter.all false
set_option maxRecDepth 100000
set_option maxHeartbeats 4000000
/-! Ic: == of the same data of any kind; sorted of a dict of one's own. -/
namespace Dv
open PySem PySem.Spec PyProof.Rows L2
section
variable {X : Cx} {K : PySem.W.Frag}
/-! ### sorted(x), x a dict of one's own -/
section
variable {W : WX} {xw : XW} {pos : Pos} {a b : Expr} {ta tb : TE} {da db : DE}
end
end
end Dv
set_option Elab.async false
set_option linter.all false
set_option maxRecDepth 100000
set_option maxHeartbeats 4000000
/-! Ie: == and != of the same data, own instances deep in tuples and lists; statements that are not reached. -/
namespace GN
open PySem PySem.SeqAt
open AutoSeq1 (wpAny_loadPart')
open MeetsSeq MeetsSeq2 MeetsSeq3 SeqRoads2
section
variable {prog : Program} {w : World} {A : Around} {R : Result → Shared → Prop}
theorem tupleN (l b : Addr) (xs ys : Array Value) (n n2 : Nat) (dd dd2 : Option Addr) (sl sl2 : Array (Option Value)) (hsz : xs.size = ys.size) (J : Nat → Shared → Prop)
    (turn : ∀ i (h1 : i < xs.size) (h2 : i < ys.size) s, J i s → wpAny (model prog w) A.in1 (eqBool xs[i] ys[i]) (fun r s' => r = true ∧ J (i + 1) s') (fun e s' => R (.error e) s') s)
    (fin : ∀ s, J xs.size s → R (.ok (.ret (.bool false))) s) {s : Shared} (hl1 : s.heap.get? l = some { cls := .type "tuple", dict := dd, data := .seq xs n, slots := sl }) (hb1 : s.heap.get? b = some { cls := .type "tuple", dict := dd2, data := .seq ys n2, slots := sl2 }) (h : J 0 s) :
    wpAny (model prog w) A.in1 (Builtin.«tuple.__ne__» ⟨[.ref l, .ref b], []⟩) (GQ.FinOf prog w A R) (fun e s' => R (.error e) s') s := by
  have f2 := AutoSeq1.sub_tuple_tuple
  have hZ : (xs.toList.zip ys.toList).length = xs.size := by simp [hsz]
  have h0 := h
  obtain ⟨hp, g, d, tk, os⟩ := s
  wp_walk using wpAny_loadPart' hl1, wpAny_loadPart' hb1, wpAny_forIn_list _ (fun rest b s' => b.1 = none ∧ ∃ i, rest = (xs.toList.zip ys.toList).drop i ∧ i ≤ xs.size ∧ J i s') _
  case turn =>
    rintro ⟨y, x⟩ rest b s' ⟨hb', i, hz, hi, hI⟩
    have hlt : i < (xs.toList.zip ys.toList).length := by
      rcases Nat.lt_or_ge i (xs.toList.zip ys.toList).length with h' | h'
      · exact h'
      · rw [List.drop_of_length_le h'] at hz
        cases hz
    have h1 : i < xs.size := hZ ▸ hlt
    have h2 : i < ys.size := hsz ▸ h1
    rw [List.drop_eq_getElem_cons hlt] at hz
    injection hz with hyx hrest
    have hy : y = xs[i] := by
      have := congrArg Prod.fst hyx
      simpa using this
    have hx : x = ys[i] := by
      have := congrArg Prod.snd hyx
      simpa using this
    subst hy hx
    refine wpAny_bind (wpAny_mono (turn i h1 h2 s' hI) (fun r s2 q2 => ?_) fun _ _ x => x)
    obtain ⟨hr, q2⟩ := q2
    subst hr
    wp_walk
    exact ⟨rfl, i + 1, hrest, h1, q2⟩
  case fin =>
    rintro ⟨b1, b2⟩ s' ⟨hb', i, hz, hi, hI⟩
    simp only at hb'
    subst hb'
    have hge : xs.size ≤ i := by
      rcases Nat.lt_or_ge i (xs.toList.zip ys.toList).length with h' | h'
      · rw [List.drop_eq_getElem_cons h'] at hz
        cases hz
      · exact hZ ▸ h'
    have ei : i = xs.size := by omega
    have hR : R (.ok (.ret (.bool false))) s' := fin s' (ei ▸ hI)
    wp_walk
    simpa [Builtin.Tuple.tupleCompareSizes, hsz] using hR
  case h =>
    exact ⟨rfl, 0, rfl, Nat.zero_le _, h0⟩
end
section
variable {prog : Program} {w : World} {A : Around} {E : Value → Shared → Prop} {s : Shared}
theorem rc_tupN {l b : Addr} {xs ys : Array Value} {Q : Value → Shared → Prop} (hsz : xs.size = ys.size) (hu : A.units < cLine) (J : Nat → Shared → Prop)
    (hl : s.heap.IsTuple l xs) (hb : s.heap.IsTuple b ys)
    (turn : ∀ i (h1 : i < xs.size) (h2 : i < ys.size) s, J i s → wpAny (model prog w) A.in1 (eqBool xs[i] ys[i]) (fun r s' => r = true ∧ J (i + 1) s') E s)
    (fin : ∀ s, J xs.size s → Q (.bool false) s) (h : J 0 s) : wpAny (model prog w) A (richCompare .NotEq (.ref l) (.ref b)) Q E s := by
  obtain ⟨⟨cls, dd, data, sl⟩, ho, hc, n, hd⟩ := id hl
  obtain ⟨⟨cls2, dd2, data2, sl2⟩, ho2, hc2, n2, hd2⟩ := id hb
  simp only at hc hd hc2 hd2
  subst hc hd hc2 hd2
  refine wpAny_richCompare_same_room (op := .NotEq) ⟨_, ho, rfl⟩ ⟨_, ho2, rfl⟩ F.slot_tuple_ne (GQ.call_here F.slot_tuple_ne ⟨_, ho, rfl⟩ F.entry_tuple_ne (F.args_tuple_ne_2 _ _) ?_) hu
  exact tupleN (R := wants (fun v s' => v ≠ .notImplemented ∧ Q v s') E) l b xs ys n n2 dd dd2 sl sl2 hsz J turn (fun s' q => ⟨(fun x => nomatch x), fin s' q⟩) ho ho2 h
end
end GN
namespace Dv
open PySem L2
section
variable {X : Cx} {n : Nat} {okO : D → Prop}
/-- data of which == may be asked: own instances (okO) at most d deep in lists and tuples -/
def okB (okO : D → Prop) : Nat → D → Prop
  | 0, x => okS 40 x = true ∨ okO x
  | d + 1, x => (okS 40 x = true ∨ okO x) ∨ ∃ xs, (x = .lst xs ∨ x = .tup xs) ∧ ∀ y ∈ xs, okB okO d y
theorem okB_up : ∀ {d e : Nat} {x : D}, d ≤ e → okB okO d x → okB okO e x
  | 0, 0, _, _, h => h
  | 0, e + 1, _, _, h => .inl h
  | d + 1, 0, _, l, _ => absurd l (by omega)
  | d + 1, e + 1, _, l, h => by
    rcases h with h | ⟨xs, e1, h⟩
    · exact .inl h
    · exact .inr ⟨xs, e1, fun y m => okB_up (by omega) (h y m)⟩
theorem okB_s {d : Nat} {x : D} (h : okS 40 x = true) : okB okO d x := okB_up (Nat.zero_le d) (.inl h)
theorem okB_o {d : Nat} {x : D} (h : okO x) : okB okO d x := okB_up (Nat.zero_le d) (.inr h)
theorem okB_t {d : Nat} {xs : List D} (h : ∀ y ∈ xs, okB okO d y) : okB okO (d + 1) (.tup xs) := .inr ⟨xs, .inr rfl, h⟩
theorem okB_l {d : Nat} {xs : List D} (h : ∀ y ∈ xs, okB okO d y) : okB okO (d + 1) (.lst xs) := .inr ⟨xs, .inl rfl, h⟩
theorem turnA {m : Nat} {A : Around} (sb : Sub X (m + 1) A) {c : Cfg} (eK : c.K = X.K) {pins : List (Addr × Obj)} {σ : St} {H : Hp} {vs us : List V} {xs : List D} (ra : RpAll c H vs xs) (rb : RpAll c H us xs) (ok : ∀ x ∈ xs, EqQ X m x)
    {its its2 : List Value} (r : Vals vs its) (r2 : Vals us its2) (i : Nat) (h1 : i < its.toArray.size) (h2 : i < its2.toArray.size) (s' : Shared) (l : ∃ H1, Inv X pins σ H1 s' ∧ Go c H H1) :
    wpAny (model X.prog X.w) A.in1 (eqBool its.toArray[i] its2.toArray[i]) (fun r s2 => r = true ∧ ∃ H1, Inv X pins σ H1 s2 ∧ Go c H H1) X.xe s' := by
  obtain ⟨H1, I1, g1⟩ := l
  have k1 : i < vs.length := by rw [r.length]; simpa using h1
  have k2 : i < us.length := by rw [r2.length]; simpa using h2
  have k3 : i < xs.length := by rw [← ra.length]; exact k1
  have e1 : its[i]? = some its.toArray[i] := by
    have h1' : i < its.length := by simpa using h1
    rw [List.getElem?_eq_getElem h1'] <;> simp
  have e2 : its2[i]? = some its2.toArray[i] := by
    have h2' : i < its2.length := by simpa using h2
    rw [List.getElem?_eq_getElem h2'] <;> simp
  obtain ⟨u, hu, ru⟩ := r.get (List.getElem?_eq_getElem k1)
  obtain ⟨v, hv, rv⟩ := r2.get (List.getElem?_eq_getElem k2)
  rw [e1] at hu
  rw [e2] at hv
  rw [Option.some.inj hu, Option.some.inj hv]
  have p1 : Rp c H1 vs[i] xs[i] := by
    obtain ⟨v0, e0, r0⟩ := ra.get (List.getElem?_eq_getElem k3)
    rw [List.getElem?_eq_getElem k1] at e0
    cases e0
    exact r0.go g1.kF
  have p2 : Rp c H1 us[i] xs[i] := by
    obtain ⟨v0, e0, r0⟩ := rb.get (List.getElem?_eq_getElem k3)
    rw [List.getElem?_eq_getElem k2] at e0
    cases e0
    exact r0.go g1.kF
  refine wpAny_mono (ok xs[i] (List.getElem_mem k3) c A.in1 pins s' σ H1 _ _ u v eK sb.in1 I1 g1.inv p1 p2 ru rv) (fun r s2 q => ?_) fun _ _ x => x
  obtain ⟨hr', H2, I2, g2⟩ := q
  exact ⟨hr', H2, I2, g1.trans g2⟩
/-- richCompare of two tuples or lists of the same data -/
theorem rcB {m : Nat} {A : Around} (sb : Sub X (m + 1) A) {c : Cfg} (eK : c.K = X.K) {pins : List (Addr × Obj)} {s : Shared} {σ : St} {H : Hp} (I : Inv X pins σ H s) (hi : c.I H) {x : D} {xs : List D} (ex : x = .lst xs ∨ x = .tup xs) (ok : ∀ y ∈ xs, EqQ X m y) {a b : Addr} (r : Rp c H (.ref a) x) (r2 : Rp c H (.ref b) x) (eq : Bool) {Q : Value → Shared → Prop} (q : ∀ s', (∃ H1, Inv X pins σ H1 s' ∧ Go c H H1) → Q (.bool eq) s') :
    wpAny (model X.prog X.w) A (richCompare (if eq then .Eq else .NotEq) (.ref a) (.ref b)) Q X.xe s := by
  rcases ex with rfl | rfl
  · cases r with
    | lst n1 h1 ra =>
      cases r2 with
      | lst n2 h2 rb =>
        cases eq with
        | true =>
          refine GQ.rc_listG (N := xs.length) sb.room.units0 (fun _ s' => ∃ H1, Inv X pins σ H1 s' ∧ Go c H H1) (fun i s' z => ?_) (fun s' z => q s' z) ⟨H, I, Go.self hi⟩
          obtain ⟨H1, I1, g1⟩ := id z
          obtain ⟨z1, its, k, r, e⟩ := I1.hok _ _ (g1.keep _ _ (fun z => n1 (c.GF z)) rfl h1)
          obtain ⟨z2, its2, k2, r2, e2⟩ := I1.hok _ _ (g1.keep _ _ (fun z => n2 (c.GF z)) rfl h2)
          exact ⟨its.toArray, its2.toArray, k, k2, e, e2, by rw [List.size_toArray, ← r.length, ra.length], by rw [List.size_toArray, ← r2.length, rb.length], fun h1 h2 => turnA sb eK ra rb ok r r2 i h1 h2 s' z⟩
        | false =>
          refine GN.rc_listN (N := xs.length) sb.room.units0 (fun _ s' => ∃ H1, Inv X pins σ H1 s' ∧ Go c H H1) (fun i s' z => ?_) (fun s' z => q s' z) ⟨H, I, Go.self hi⟩
          obtain ⟨H1, I1, g1⟩ := id z
          obtain ⟨z1, its, k, r, e⟩ := I1.hok _ _ (g1.keep _ _ (fun z => n1 (c.GF z)) rfl h1)
          obtain ⟨z2, its2, k2, r2, e2⟩ := I1.hok _ _ (g1.keep _ _ (fun z => n2 (c.GF z)) rfl h2)
          exact ⟨its.toArray, its2.toArray, k, k2, _, _, _, _, e, e2, by rw [List.size_toArray, ← r.length, ra.length], by rw [List.size_toArray, ← r2.length, rb.length], fun h1 h2 => turnA sb eK ra rb ok r r2 i h1 h2 s' z⟩
  · cases r with
    | tup n1 ra =>
      cases r2 with
      | tup n2 rb =>
        obtain ⟨us, r1, p1, _⟩ := I.tuple (eK ▸ n1.sq)
        obtain ⟨ws, r2, p2, _⟩ := I.tuple (eK ▸ n2.sq)
        have hsz : us.toArray.size = ws.toArray.size := by
          rw [List.size_toArray, List.size_toArray, ← r1.length, ← r2.length, ra.length, rb.length]
        cases eq with
        | true => exact GQ.rc_tupG hsz sb.room.units0 (fun _ s' => ∃ H1, Inv X pins σ H1 s' ∧ Go c H H1) p1 p2 (fun i h1 h2 s' z => turnA sb eK ra rb ok r1 r2 i h1 h2 s' z) (fun s' z => q s' z) ⟨H, I, Go.self hi⟩
        | false => exact GN.rc_tupN hsz sb.room.units0 (fun _ s' => ∃ H1, Inv X pins σ H1 s' ∧ Go c H H1) p1 p2 (fun i h1 h2 s' z => turnA sb eK ra rb ok r1 r2 i h1 h2 s' z) (fun s' z => q s' z) ⟨H, I, Go.self hi⟩
theorem EqQ.up {m : Nat} {x : D} (h : EqQ X n x) (l : n ≤ m) : EqQ X m x := fun c A pins s σ H v u v' u' eK sb I hi r r2 rv ru => h c A pins s σ H v u v' u' eK (sb.mono l) I hi r r2 rv ru
theorem eqQ_deep (hO : ∀ x, okO x → EqQ X n x) : ∀ (d : Nat) (x : D), okB okO d x → EqQ X (n + d) x
  | 0, x, h => h.elim eqQ_ok (hO x)
  | d + 1, x, h => by
    rcases h with h | ⟨xs, ex, h⟩
    · exact h.elim eqQ_ok fun h => (hO x h).up (by omega)
    · intro c A pins s σ H v u v' u' eK sb I hi r r2 rv ru
      have sb' : Sub X (n + d + 1) A := sb
      have ref : ∀ p q : Addr, v = .ref p → u = .ref q → wpAny (model X.prog X.w) A (eqBool v' u') (fun r s' => r = true ∧ ∃ H', Inv X pins σ H' s' ∧ Go c H H') X.xe s := fun p q e1 e2 => by
        subst e1 e2
        cases (show v' = Value.ref p from rv)
        cases (show u' = Value.ref q from ru)
        by_cases e : p = q
        · subst e
          exact SeqAt.EqAt.same (A := A) (s := s) (.ref p) X.prog X.w X.xe _ ⟨rfl, H, I, Go.self hi⟩
        · exact GQ.eqBool_refG e (rcB sb' eK I hi ex (fun y m => eqQ_deep hO d y (h y m)) r r2 true fun s' z => ⟨true, rfl, rfl, z⟩)
      rcases ex with rfl | rfl
      · cases id r with
        | lst _ _ _ => cases id r2 with
          | lst _ _ _ => exact ref _ _ rfl rfl
      · cases id r with
        | tup _ _ => cases id r2 with
          | tup _ _ => exact ref _ _ rfl rfl
/-! ### x == y, x != y -/
def rSamB (K : PySem.W.Frag) (okO : D → Prop) (d : Nat) (res : Bool) : R2 := fun v u H Q => ∃ (c : Cfg) (x : D) (xs : List D), c.K = K ∧ c.I H ∧ Rp c H v x ∧ Rp c H u x ∧ (x = .lst xs ∨ x = .tup xs) ∧ (∀ y ∈ xs, okB okO d y) ∧ ∀ H', Go c H H' → Q (.bl res) H'
theorem refs_of {c : Cfg} {H : Hp} {v u : V} {x : D} {xs : List D} (r : Rp c H v x) (r2 : Rp c H u x) (ex : x = .lst xs ∨ x = .tup xs) : ∃ a b, v = .ref a ∧ u = .ref b := by
  rcases ex with rfl | rfl
  · cases r with
    | lst _ _ _ => cases r2 with
      | lst _ _ _ => exact ⟨_, _, rfl, rfl⟩
  · cases r with
    | tup _ _ => cases r2 with
      | tup _ _ => exact ⟨_, _, rfl, rfl⟩
theorem op_samBN {d : Nat} (hO : ∀ x, okO x → EqQ X n x) (hr : Room (n + d + 1) X.A) : OpR X (compareOp .NotEq) (rSamB X.K okO d false) := by
  intro pins s σ H x y v u Q I rx ry hq
  obtain ⟨c, z, xs, eK, hi, r1, r2, ex, ok, q⟩ := hq
  obtain ⟨a, b, e1, e2⟩ := refs_of r1 r2 ex
  subst e1 e2
  cases rx
  cases ry
  refine PySem.W.cmp_ofNotEq ?_
  exact rcB ⟨hr, rfl⟩ eK I hi ex (fun y m => eqQ_deep hO d y (ok y m)) r1 r2 false fun s' z => by
    obtain ⟨H1, I1, g1⟩ := z
    exact ⟨.bl false, H1, I1, rfl, q H1 g1⟩
def seqB (okO : D → Prop) (d : Nat) (x : D) : Prop := ∃ xs, (x = .lst xs ∨ x = .tup xs) ∧ ∀ y ∈ xs, okB okO d y
/-- == (res true) or != (res false) of the same data; gp for all other -/
def gSamB (okO : D → Prop) (d : Nat) (res : Bool) (gp : Sl → Sl → DK → Prop) : Sl → Sl → DK → Prop := fun s t k => (∃ x, s = .d x ∧ t = .d x ∧ seqB okO d x ∧ k (.d (.bl res))) ∨ gp s t k
theorem o2_samB {K : PySem.W.Frag} {okO : D → Prop} {d : Nat} {res : Bool} {rp : R2} {gp : Sl → Sl → DK → Prop} (o : O2 K rp gp) : O2 K (rOr (rSamB K okO d res) rp) (gSamB okO d res gp) := fun c H x y s t k Q eK hi rs rt h q => by
  rcases h with ⟨z, e1, e2, ⟨xs, ex, ok⟩, hk⟩ | h
  · subst e1 e2
    obtain ⟨_, ew, r1⟩ := rs
    cases ew
    obtain ⟨_, ew, r2⟩ := rt
    cases ew
    exact .inl ⟨c, z, xs, eK, hi, r1, r2, ex, ok, fun H' g => q _ (.d (.bl res)) H' g ⟨_, rfl, .bl _⟩ hk⟩
  · exact .inr (o c H x y s t k Q eK hi rs rt h q)
end
section
variable {X : Cx} {n : Nat} {okO : D → Prop} {W : WX} {xw : XW} {pos : Pos} {a b : Expr} {ta tb : TE} {da db : DE}
theorem pdt_samB {d : Nat} (hO : ∀ x, okO x → EqQ X n x) (hr : Room (n + d + 1) X.A) (x : PD X W xw a ta da) (y : PD X W xw b tb db) : PDT X W xw (.Compare a [.NotEq] [b] pos) (tTest (tOp (rSamB X.K okO d false) ta tb)) (dB (dOp (gSamB okO d false fun _ _ _ => False) da db)) := pdt_cmp (op_samBN hO hr) (fun c H x y s t k Q eK hi rs rt h q => (o2_samB (rp := fun _ _ _ _ => False) (fun _ _ _ _ _ _ _ _ _ _ _ _ h _ => h.elim) c H x y s t k Q eK hi rs rt h q).elim id False.elim) x y (nomark _)
/-! ### statements that are not reached -/
def dDead : DS := fun _ _ => False
theorem pdss_dead {st : List Stmt} : PDSs X W xw st (fun _ _ _ => False) dDead := ⟨fun _ => ⟨fun _ _ _ _ _ _ h => h.elim⟩, fun _ _ _ _ _ _ _ _ _ _ h => h.elim⟩
end
end Dv
set_option Elab.async false
set_option linter.all false
set_option maxRecDepth 100000
set_option maxHeartbeats 4000000
/-! Hz: what the top has written, looked at once by the kernel: no object of the heap is printed. -/
namespace Hz
open PySem PySem.Spec PyProof.Rows L2 Dv He
/-! ### where -/
/-! ### a def's text -/
section
variable {K : PySem.W.Frag} {f : Addr} {x q : Str} {st : Stmt} {d : Dk} {h : Heap} {mg : Str → Option Value} {ps : List Str}
theorem core (e : fnC K f = fnV x q st) (c : fB K f q d = true) : ∃ (oc : Value) (od : Option Addr) (sl : Array (Option Value)) (dV kV dc pm : Value) (an : Option Addr) (cd ct : Value),
    fdAt K f = PySem.W.fnOf x q (defArgs st) (defBody st) (defScope st) dV kV dc pm an cd ct ∧ K.lookup f = some ⟨oc, od, .func (PySem.W.fnOf x q (defArgs st) (defBody st) (defScope st) dV kV dc pm an cd ct), sl⟩ ∧ PySem.W.codeIn K cd q = true ∧ dkB K dV d = true ∧ PySem.W.keepIn K (.ref f) = true := by
  obtain ⟨kp, c2⟩ := ba c
  unfold fnC at e
  unfold fdAt
  cases y : K.lookup f with
  | none =>
    rw [y] at c2
    cases c2
  | some o =>
    obtain ⟨oc, od, dt, sl⟩ := o
    rw [y] at c2 e
    cases dt with
    | func fd =>
      obtain ⟨a1, a2, a3, a4, a5, a6, a7, a8, a9, a10, a11, a12, a13, a14, a15⟩ := fd
      have e2 : (some (a1, a2, a3, a4, a5, a6, a7.map (·.1), a15) : FnC) = some (x, q, defArgs st, .stmts (defBody st), defScope st, mainGlobals, [], builtinsNs) := e
      simp only [Option.some.injEq, Prod.mk.injEq, List.map_eq_nil_iff] at e2
      obtain ⟨h1, h2, h3, h4, h5, h6, h7, h8⟩ := e2
      subst h1 h2 h3 h4 h5 h6 h7 h8
      obtain ⟨k1, k2⟩ := ba (show (PySem.W.codeIn K a13 a2 && dkB K a8 d) = true from c2)
      exact ⟨oc, od, sl, a8, a9, a10, a11, a12, a13, a14, rfl, rfl, k1, k2, kp⟩
    | _ => cases c2
theorem dk_no {v : Value} (h : dkB K v .no = true) : v = .none := by
  unfold dkB at h
  cases v with
  | none => rfl
  | _ => cases h
theorem fun_of (e : fnC K f = fnV x q st) (c : fB K f q .no = true) : Fun K x q st f (fdAt K f) := by
  obtain ⟨oc, od, sl, dV, kV, dc, pm, an, cd, ct, e1, l, c1, c2, kp⟩ := core e c
  cases dk_no c2
  rw [e1]
  exact fun_mk l c1 kp
abbrev Bnd (x q : Str) (st : Stmt) (ps : List Str) : Prop := ∀ (kV doc pm : Value) (an : Option Addr) (cdv ct : Value) (us : List Value), us.length = ps.length → bindArgs (PySem.W.fnOf x q (defArgs st) (defBody st) (defScope st) .none kV doc pm an cdv ct) ⟨us, []⟩ = pure (ps.zip us)
abbrev BndN (x q : Str) (st : Stmt) (ps : List Str) (n m k : Nat) : Prop := ∀ (T : Addr) (kV doc pm : Value) (an : Option Addr) (cdv ct : Value) (us its : List Value), us.length = n → its.length = m →
      ∃ k0, bindArgs (PySem.W.fnOf x q (defArgs st) (defBody st) (defScope st) (.ref T) kV doc pm an cdv ct) ⟨us, []⟩ = seqItems? (.ref T) >>= k0 ∧ k0 (some its.toArray) = pure (ps.zip (us ++ its.drop k))
theorem met_of (e : fnC K f = fnV x q st) (c : fB K f q .no = true) (b : Bnd x q st ps) : MetAt K x q st ps f (fdAt K f) := met_mk (fun_of e c) ((fun_of e c).binds b)
/-- a def of the module -/
theorem fn_at (X : K.In h) (G : h.Ns mainGlobals mg) (e : fnC K (ga K x) = fnV x x st) (c : defB K x .no = true) (b : Bnd x x st ps) : FnAt K mg x x st ps (ga K x) (fdAt K (ga K x)) := by
  obtain ⟨c1, c2⟩ := ba c
  exact ⟨fun_of e c2, glo_ok X G c1, (fun_of e c2).binds b⟩
theorem dk_int {v : Value} {i : Int} (h : dkB K v (.int i) = true) : ∃ T oc od u n sl, v = .ref T ∧ K.lookup T = some ⟨oc, od, .seq #[u] n, sl⟩ ∧ RelV (.int i) u := by
  cases v with
  | ref T =>
    unfold dkB at h
    dsimp only at h
    cases y : K.lookup T with
    | none =>
      rw [y] at h
      cases h
    | some o =>
      obtain ⟨oc, od, dt, sl⟩ := o
      rw [y] at h
      cases dt with
      | seq its n =>
        dsimp only at h
        split at h
        · rename_i j t e
          have e2 : its = #[Value.int j t] := by rw [← Array.toArray_toList (xs := its), e]
          subst e2
          exact ⟨T, oc, od, _, n, sl, rfl, y, t, by rw [of_decide_eq_true h]⟩
        · cases h
      | _ => cases h
  | _ => cases h
theorem dk_non2 {v : Value} (h : dkB K v .non2 = true) : ∃ T oc od n sl, v = .ref T ∧ K.lookup T = some ⟨oc, od, .seq #[.none, .none] n, sl⟩ := by
  cases v with
  | ref T =>
    unfold dkB at h
    dsimp only at h
    cases y : K.lookup T with
    | none =>
      rw [y] at h
      cases h
    | some o =>
      obtain ⟨oc, od, dt, sl⟩ := o
      rw [y] at h
      cases dt with
      | seq its n =>
        dsimp only at h
        split at h
        · rename_i e
          have e2 : its = #[Value.none, Value.none] := by rw [← Array.toArray_toList (xs := its), e]
          subst e2
          exact ⟨T, oc, od, n, sl, rfl, y⟩
        · cases h
      | _ => cases h
  | _ => cases h
theorem dk_unit {v : Value} (h : dkB K v .unit = true) : ∃ T oc od n sl t od2 n2 sl2, v = .ref T ∧ K.lookup T = some ⟨oc, od, .seq #[.ref t] n, sl⟩ ∧ K.lookup t = some ⟨.type "tuple", od2, .seq #[] n2, sl2⟩ := by
  cases v with
  | ref T =>
    unfold dkB at h
    dsimp only at h
    cases y : K.lookup T with
    | none =>
      rw [y] at h
      cases h
    | some o =>
      obtain ⟨oc, od, dt, sl⟩ := o
      rw [y] at h
      cases dt with
      | seq its n =>
        dsimp only at h
        split at h
        · rename_i t e
          have e2 : its = #[Value.ref t] := by rw [← Array.toArray_toList (xs := its), e]
          subst e2
          split at h
          · rename_i c od2 js n2 sl2 y2
            obtain ⟨h1, h2⟩ := ba h
            have e1 : c = "tuple" := of_decide_eq_true h1
            have e2 : js = #[] := Array.isEmpty_iff.mp h2
            subst e1 e2
            exact ⟨T, oc, od, n, sl, t, od2, n2, sl2, rfl, y, y2⟩
          · cases h
        · cases h
      | _ => cases h
  | _ => cases h
theorem met1_of {i : Int} {n : Nat} (e : fnC K f = fnV x q st) (c : fB K f q (.int i) = true) (hn : n + 1 = ps.length) (h0 : BndN x q st ps (n + 1) 1 1) (h1 : BndN x q st ps n 1 0) : MetAt1 K x q st ps i f (fdAt K f) := by
  obtain ⟨oc, od, sl, dV, kV, dc, pm, an, cd, ct, e1, l, c1, c2, kp⟩ := core e c
  obtain ⟨T, o2, d2, u, m, s2, rfl, lT, ru⟩ := dk_int c2
  rw [e1]
  exact met_mk1 l c1 kp lT ru hn h0 h1
theorem metN_of {n : Nat} (e : fnC K f = fnV x q st) (c : fB K f q .non2 = true) (hn : n + 1 = ps.length) (h0 : BndN x q st ps (n + 1) 2 2) (h1 : BndN x q st ps n 2 1) : MetAtN K x q st ps f (fdAt K f) := by
  obtain ⟨oc, od, sl, dV, kV, dc, pm, an, cd, ct, e1, l, c1, c2, kp⟩ := core e c
  obtain ⟨T, o2, d2, m, s2, rfl, lT⟩ := dk_non2 c2
  rw [e1]
  exact met_mkN l c1 kp lT hn h0 h1
theorem met0_of {n : Nat} (e : fnC K f = fnV x q st) (c : fB K f q .unit = true) (hn : n + 1 = ps.length) (h0 : BndN x q st ps (n + 1) 1 1) (h1 : BndN x q st ps n 1 0) : MetAt0 K x q st ps f (fdAt K f) := by
  obtain ⟨oc, od, sl, dV, kV, dc, pm, an, cd, ct, e1, l, c1, c2, kp⟩ := core e c
  obtain ⟨T, o2, d2, m, s2, t, d3, m2, s3, rfl, lT, lt⟩ := dk_unit c2
  rw [e1]
  exact met_mk0 l c1 kp lT lt hn h0 h1
end
/-! ### names -/
section
variable {K : PySem.W.Frag} {h : Heap} {mg : Str → Option Value}
theorem int_at (X : K.In h) (G : h.Ns mainGlobals mg) {x : Str} {i : Int} (c : (Fa.int x i).ok K = true) : mg x = some (.int i (tkAt K x)) := by
  have c2 : (match PySem.W.nsIn K mainGlobals x with
    | some (some (.int j _)) => decide (j = i)
    | _ => false) = true := c
  unfold tkAt
  split at c2
  · rename_i j t e
    rw [e]
    rw [of_decide_eq_true c2] at e
    exact PySem.W.mg_of X G e
  · cases c2
theorem str_at (X : K.In h) (G : h.Ns mainGlobals mg) {x z : Str} (c : (Fa.str x z).ok K = true) : mg x = some (.str z (tkAt K x)) := by
  have c2 : (match PySem.W.nsIn K mainGlobals x with
    | some (some (.str j _)) => decide (j = z)
    | _ => false) = true := c
  unfold tkAt
  split at c2
  · rename_i j t e
    rw [e]
    rw [of_decide_eq_true c2] at e
    exact PySem.W.mg_of X G e
  · cases c2
end
/-! ### classes -/
section
variable {K : PySem.W.Frag} {h : Heap} {mg : Str → Option Value} {x m : Str} {C g p : Addr}
theorem cls_at (X : K.In h) (G : h.Ns mainGlobals mg) (c : clsB K x = true) : ClsAt K mg x (ga K x) := by
  obtain ⟨c1, c⟩ := ba c
  obtain ⟨c2, c⟩ := ba c
  obtain ⟨c3, c⟩ := ba c
  obtain ⟨c4, c⟩ := ba c
  obtain ⟨c5, c⟩ := ba c
  obtain ⟨c6, c⟩ := ba c
  obtain ⟨c7, c⟩ := ba c
  obtain ⟨c8, c9⟩ := ba c
  have cl := cls_ok c2
  exact ⟨glo_ok X G c1, cl, ⟨cl, eqO_ok c3, eqO_ok c4, of_decide_eq_true c5, of_decide_eq_true c6, of_decide_eq_true c7⟩, c8, of_decide_eq_true c9⟩
theorem eq_of {C g : Addr} (c : eqB K C g = true) : L2.OwnEqC K C g := by
  obtain ⟨c1, c⟩ := ba c
  obtain ⟨c2, c⟩ := ba c
  obtain ⟨c3, c4⟩ := ba c
  exact ⟨eqO_ok c1, eqO_ok c2, c3, of_decide_eq_true c4⟩
theorem subF_ok {a b : Addr} (c : subF K a b = true) : PySem.W.subIn K (.ref a) (.ref b) = some false := of_decide_eq_true c
end
/-! ### exceptions -/
section
variable {P : Program} {K : PySem.W.Frag} {h : Heap} {mg : Str → Option Value} {f D : Addr} {q : Str} {A : Arguments} {b : List Stmt} {sc : Scope}
theorem ini_core (X : K.In h) (G : h.Ns mainGlobals mg) (e : fnC K f = iniV q A b sc) (c : iniB P K f D q = true) : (∃ (oc : Value) (od : Option Addr) (doc pm : Value) (an : Option Addr) (cda cc : Addr) (ct : Value) (osl : Array (Option Value)),
    K.lookup f = some ⟨oc, od, .func (PySem.W.ksFn "__init__" q A b sc .none .none doc pm an (.ref cda) ct cc), osl⟩ ∧ PySem.W.codeIn K (.ref cda) q = true ∧
    (∃ ccl cdd vs ccs file tf, K.lookup cda = some ⟨ccl, cdd, .fields vs, ccs⟩ ∧ vs[2]? = some (.str file tf) ∧ ((P.main.file : Str) == file) = true) ∧ (∃ cl cld csl, K.lookup cc = some ⟨cl, cld, .cell (some (.ref D)), csl⟩)) ∧
    (∃ cd, PySem.W.clsIn K D = some cd) ∧ mg "super" = none ∧ (P.main.scope.names.lookup ("super" : Str)).isSome = false ∧ PySem.W.nsIn K cStatics "thirdparty.any" = some none := by
  obtain ⟨c1, c⟩ := ba c
  obtain ⟨c2, c⟩ := ba c
  obtain ⟨c3, c⟩ := ba c
  obtain ⟨c4, c5⟩ := ba c
  refine ⟨?_, Option.isSome_iff_exists.mp c2, PySem.W.mg_none_of X G (eqO_ok c3), by simpa using c4, eqO_ok c5⟩
  unfold fnC at e
  cases y : K.lookup f with
  | none =>
    rw [y] at c1
    cases c1
  | some o =>
    obtain ⟨oc, od, dt, sl⟩ := o
    rw [y] at c1 e
    cases dt with
    | func fd =>
      obtain ⟨a1, a2, a3, a4, a5, a6, a7, a8, a9, a10, a11, a12, a13, a14, a15⟩ := fd
      have e2 : (some (a1, a2, a3, a4, a5, a6, a7.map (·.1), a15) : FnC) = iniV q A b sc := e
      simp only [Option.some.injEq, Prod.mk.injEq] at e2
      obtain ⟨h1, h2, h3, h4, h5, h6, h7, h8⟩ := e2
      subst h1 h2 h3 h4 h5 h6 h8
      dsimp only at c1
      split at c1
      · rename_i cda nm cc
        have e7 : nm = "__class__" := by simpa using h7
        subst e7
        obtain ⟨d1, c1⟩ := ba c1
        obtain ⟨d2, d3⟩ := ba c1
        refine ⟨oc, od, a10, a11, a12, cda, cc, a14, sl, rfl, d1, ?_, ?_⟩
        · split at d2
          · rename_i ccl cdd vs ccs y2
            split at d2
            · rename_i file tf y3
              exact ⟨ccl, cdd, vs, ccs, file, tf, y2, y3, d2⟩
            · cases d2
          · cases d2
        · split at d3
          · rename_i cl cld D' csl y2
            rw [eq_of_beq d3] at y2
            exact ⟨cl, cld, csl, y2⟩
          · cases d3
      · cases c1
    | _ => cases c1
theorem room_of {p1 p2 q1 q2 q3 q4 q5 q6 r1 r2 r3 r4 : Pos} (X : K.In h) (G : h.Ns mainGlobals mg) (e : fnC K f = iniV "RoomError.__init__" (PySem.RoomX.iA p1 p2) (PySem.RoomX.iB q1 q2 q3 q4 q5 q6 r1 r2 r3 r4) PySem.RoomX.iS) (c : iniB P K f D "RoomError.__init__" = true) (l : (q3.endLine == q5.line) = true) : PySem.RoomX.RoomTxt P K mg D f := by
  obtain ⟨⟨oc, od, doc, pm, an, cda, cc, ct, sl, k1, k2, k3, k4⟩, h2, h3, h4, h5⟩ := ini_core X G e c
  exact ⟨⟨oc, od, doc, pm, an, cda, cc, ct, sl, p1, p2, q1, q2, q3, q4, q5, q6, r1, r2, r3, r4, k1, k2, l, k3, k4⟩, h2, h3, h4, h5⟩
end
/-- a class of errors over RoomError -/
theorem exObjV_of {K : PySem.W.Frag} {C : Addr} (q : exObjV K C = true) : ∃ nm q N bs bm sn sub ab col dd k0 k1 k2 k3 k5, K.lookup C = some (excClassObj nm q C N bs bm true sn sub ab col dd k0 k1 k2 k3 k5 "ValueError.__new__") ∧ PySem.HandSPX.refsVE bm = true := by
  unfold exObjV at q
  split at q
  · rename_i dd cd sl ho
    split at q
    · rename_i C' bm k0 k1 k2 k3 n k5 hm hs
      simp only [Bool.and_eq_true, beq_iff_eq, Bool.not_eq_true'] at q
      obtain ⟨⟨⟨⟨rfl, rfl⟩, hdel⟩, hdict⟩, hr⟩ := q
      obtain ⟨nm, bs, mro, ns, qn, hd, sn, sub, ab, col, del⟩ := cd
      dsimp only at hm hdel hdict
      subst hm hdel hdict
      have hsl : sl = #[k0, k1, k2, k3, some (.builtin "ValueError.__new__"), k5] := by
        rw [← hs]
      subst hsl
      exact ⟨nm, qn, ns, bs, bm, sn, sub, ab, col, dd, k0, k1, k2, k3, k5, ho, hr⟩
    · cases q
  · cases q
section
variable {K : PySem.W.Frag} {h : Heap} {mg : Str → Option Value} {x : Str} {D f : Addr}
theorem err_of (X : K.In h) (G : h.Ns mainGlobals mg) (c : errB K x D f = true) : PySem.RoomX.RoomCls K mg x (ga K x) D f := by
  obtain ⟨c1, c⟩ := ba c
  obtain ⟨c2, c⟩ := ba c
  obtain ⟨c3, c⟩ := ba c
  obtain ⟨c4, c⟩ := ba c
  obtain ⟨c5, c⟩ := ba c
  obtain ⟨c6, c⟩ := ba c
  obtain ⟨c7, c⟩ := ba c
  obtain ⟨c8, c⟩ := ba c
  obtain ⟨c9, c⟩ := ba c
  obtain ⟨c10, c⟩ := ba c
  obtain ⟨c11, c⟩ := ba c
  obtain ⟨c12, c⟩ := ba c
  obtain ⟨c13, c⟩ := ba c
  obtain ⟨c14, c⟩ := ba c
  obtain ⟨c15, c⟩ := ba c
  obtain ⟨c16, c17⟩ := ba c
  exact ⟨glo_ok X G c1, exObjV_of c2, eqO_ok c3, eqO_ok c4, eqO_ok c5, eqO_ok c6, eqO_ok c7, of_decide_eq_true c8, c9, of_decide_eq_true c10, of_decide_eq_true c11, of_decide_eq_true c12, c13, c14, of_decide_eq_true c15, eqO_ok c16, of_decide_eq_true c17⟩
theorem errI_of {C : Addr} (c : errI K C = true) : L2.RoomIs K C := by
  obtain ⟨c1, c⟩ := ba c
  obtain ⟨c2, c⟩ := ba c
  obtain ⟨c3, c4⟩ := ba c
  exact ⟨eqO_ok c1, eqO_ok c2, of_decide_eq_true c3, of_decide_eq_true c4⟩
theorem tailK_eq (tl l : List Value) : tailK tl l = PySem.EvX.refsT tl l := by
  induction l with
  | nil => rfl
  | cons v r ih => cases v <;> first | rfl | exact ih
theorem exObjK_of {K : PySem.W.Frag} {C : Addr} {nw : String} {tl : List Value} (q : exObjK K C nw tl = true) : ∃ nm q N bs bm sn sub ab col dd k0 k1 k2 k3 k5, K.lookup C = some (excClassObj nm q C N bs bm true sn sub ab col dd k0 k1 k2 k3 k5 nw) ∧ PySem.EvX.refsT tl bm = true := by
  refine PySem.EvX.exObjB_of (K := K) (C := C) (nw := nw) (tl := tl) ?_
  have e : tailK tl = PySem.EvX.refsT tl := funext (tailK_eq tl)
  have e2 : exObjK K C nw tl = PySem.EvX.exObjB K C nw tl := by
    unfold exObjK PySem.EvX.exObjB
    rw [e] <;> rfl
  rw [← e2]
  exact q
theorem key_of (X : K.In h) (G : h.Ns mainGlobals mg) (c : keyG K x D f = true) : PySem.EvX.KeyCls K mg x (ga K x) D f := by
  obtain ⟨c1, c⟩ := ba c
  obtain ⟨e, c⟩ := ba c
  obtain ⟨d1, c⟩ := ba c
  obtain ⟨d2, c⟩ := ba c
  obtain ⟨d3, c⟩ := ba c
  obtain ⟨d4, c⟩ := ba c
  obtain ⟨d5, d6⟩ := ba c
  obtain ⟨e1, e⟩ := ba e
  obtain ⟨e2, e⟩ := ba e
  obtain ⟨e3, e⟩ := ba e
  obtain ⟨e4, e⟩ := ba e
  obtain ⟨e5, e⟩ := ba e
  obtain ⟨e6, e⟩ := ba e
  obtain ⟨e7, e⟩ := ba e
  obtain ⟨e8, e⟩ := ba e
  obtain ⟨e9, e10⟩ := ba e
  exact ⟨⟨glo_ok X G c1, exObjK_of e1, eqO_ok e2, eqO_ok e3, eqO_ok e4, eqO_ok e5, of_decide_eq_true e6, e7, of_decide_eq_true e8, eqO_ok e9, of_decide_eq_true e10⟩, eqO_ok d1, eqO_ok d2, of_decide_eq_true d3, of_decide_eq_true d4, d5, of_decide_eq_true d6⟩
end
/-! ### the look -/
section
variable {d : HD} {w : World} {K : PySem.W.Frag}
theorem Says.f (c : Says d w K) (i j : Nat) {l : List ((PySem.W.Frag → Addr) × FnC)} {p : PySem.W.Frag → Addr} {v : FnC} (h : d.fs[i]? = some l := by rfl) (h2 : l[j]? = some (p, v) := by rfl) : fnC K (p K) = v := by
  have e : (d.fs.map fun l => l.map fun f => fnC K (f.1 K)) = d.fs.map fun l => l.map (·.2) := congrArg (fun z : AlY => z.1) c
  have e2 : (d.fs.map fun l => l.map fun f => fnC K (f.1 K))[i]? = (d.fs.map fun l => l.map (·.2))[i]? := by rw [e]
  rw [List.getElem?_map, List.getElem?_map, h] at e2
  have e4 : (l.map fun f => fnC K (f.1 K)) = l.map (·.2) := Option.some.inj e2
  have e3 : (l.map fun f => fnC K (f.1 K))[j]? = (l.map (·.2))[j]? := by rw [e4]
  rw [List.getElem?_map, List.getElem?_map, h2] at e3
  exact Option.some.inj e3
theorem Says.x (c : Says d w K) (i j : Nat) {l : List Bool} {b : Bool} (h : (d.ex K)[i]? = some l := by rfl) (h2 : l[j]? = some b := by rfl) : b = true := by
  have e : ((d.ex K).all fun l => l.all id) = true := congrArg (fun z : AlY => z.2.2) c
  exact List.all_eq_true.mp (List.all_eq_true.mp e l (List.mem_of_getElem? h)) b (List.mem_of_getElem? h2)
theorem Says.tab (c : Says d w K) (i : Nat) {p : PySem.W.Frag → Addr} {ks : List Str} (h : d.ts[i]? = some (p, ks) := by rfl) : dicW K (p K) = some (keysIn w.params ks) := by
  have e : (d.ts.map fun t => dicW K (t.1 K)) = d.ts.map fun t => some (keysIn w.params t.2) := congrArg (fun z : AlY => z.2.1) c
  have e2 : (d.ts.map fun t => dicW K (t.1 K))[i]? = (d.ts.map fun t => some (keysIn w.params t.2))[i]? := by rw [e]
  rw [List.getElem?_map, List.getElem?_map, h] at e2
  exact Option.some.inj e2
end
/-! ### the law -/
theorem walk_ofH {l : PySem.W.OpenLaw} {n k : Nat} {q : Program} {loose : List Str} {XP : (Str → Option Value) → Heap → Prop} {YP : World → Heap → Prop} {d : DefRec} {CX : World → CXT} {x : Str}
    (mo : l.most = some n) (le : n ≤ sizeLine) (df : d.params.defaults = []) (rm : Room k callerA)
    (F : ∀ (w : World) (mg : Str → Option Value) (fa : Addr) (h : Heap), YP w h → h.Ns mainGlobals mg → mg d.name = some (.ref fa) →
      ∃ (K : PySem.W.Frag) (fd : FuncData) (sp : Sp), K.In h ∧ (∀ (s : Shared) (u : Value), BindsTo s fd ⟨[u], []⟩ [(x, u)]) ∧
        (∀ (H : Hp) (a : Addr) (ns : List Int), ns.length ≤ n → Only H → SqL K H a (ns.map V.int) → sp [.ref a] H (fun v _ => v = .bl true) fun _ _ _ => False) ∧
        ∀ base : Heap, K.In base → base.Ns mainGlobals mg → FnOk l.prog w K mg base (CX w) k fa fd [x] sp)
    (cx : ∀ (w : World) (H : Hp) (s : Shared) (e : Value) (s' : Shared), CX w [] H s (fun _ _ _ => False) e s' → False) : PySem.W.WalkO q loose XP YP l.row.toRowW d [] (fun f vs => PySem.call f vs) := by
  refine Att.attach_call mo df fun w s0 s1 mg mb fa o pm cd doc a vs ns G Y h1 h2 h3 hm ho hi hle hge => ?_
  obtain ⟨K, fd, sp, KX, bb, sq, ff⟩ := F w mg fa _ Y G.T.g hm
  exact law_call KX G.T.g G.T.b G.T.builtins G.T.nolimit hge ho hi (Nat.le_trans hle le) rm ff bb (fun H z y => sq H a ns hle z y) fun H e s' => cx w H s1 e s'
/-- the law's def binds its one argument -/
theorem binds_one {K : PySem.W.Frag} {x : Str} {st : Stmt} {f : Addr} {p : Str} (e : fnC K f = fnV x x st) (c : fB K f x .no = true) (h : ∀ (kV doc pm : Value) (an : Option Addr) (cdv ct u : Value), bindArgs (PySem.W.fnOf x x (defArgs st) (defBody st) (defScope st) .none kV doc pm an cdv ct) ⟨[u], []⟩ = pure [(p, u)]) (s : Shared) (u : Value) : BindsTo s (fdAt K f) ⟨[u], []⟩ [(p, u)] := by
  obtain ⟨oc, od, sl, dV, kV, dc, pm, an, cd, ct, e1, l, c1, c2, kp⟩ := core e c
  cases dk_no c2
  rw [e1]
  exact .of_eq (h kV dc pm an cd ct u)
end Hz
set_option Elab.async false
set_option linter.all false
set_option maxRecDepth 100000
set_option maxHeartbeats 4000000
/-! Ja: more of what the top has written: two defaults left out, instances that are called, dicts with text keys. -/
namespace Hz
open PySem PySem.Spec PyProof.Rows L2 Dv He
/-- a method whose last two parameters are None by default, both left out -/
def BothN (K : PySem.W.Frag) (ps : List Str) (fd : FuncData) : Prop := ∃ ds, Vals [V.non, V.non] ds ∧ Binds K fd ps ds
section
variable {K : PySem.W.Frag} {f : Addr} {x q : Str} {st : Stmt} {ps : List Str} {C g : Addr}
theorem bothN_of {n : Nat} (e : fnC K f = fnV x q st) (c : fB K f q .non2 = true) (hn : n + 2 = ps.length) (h2 : BndN x q st ps n 2 0) : BothN K ps (fdAt K f) := by
  obtain ⟨oc, od, sl, dV, kV, dc, pm, an, cd, ct, e1, l, c1, c2, kp⟩ := core e c
  obtain ⟨T, o2, d2, m, s2, rfl, lT⟩ := dk_non2 c2
  rw [e1]
  have F : L2.FunD K x q (defArgs st) (defBody st) (defScope st) [V.non, V.non] [] f (PySem.W.fnOf x q (defArgs st) (defBody st) (defScope st) (.ref T) kV dc pm an cd ct) :=
    ⟨⟨_, _, _, _, _, _, _, _, _, _, rfl, l, c1, .inr ⟨by simp, T, _, [.none, .none], m, rfl, lT, rfl, .cons rfl (.cons rfl .nil)⟩, .inl rfl⟩, kp⟩
  exact F.binds1 (ps := ps) n 0 (by simp) (by simpa using hn) h2
theorem call_of (c : callB K C g = true) : StX.CallO K C g := ⟨eqO_ok (ba c).1, (ba (ba c).2).1, (ba (ba c).2).2⟩
end
/-! ### a dict of the module, text keys, numbers -/
end Hz
namespace Dv
open PySem L2
section
variable {X : Cx} {W : WX} {xw : XW} {pos : Pos} {f : Addr} {fd : FuncData} {ps : List Str} {k : Nat} {x : Str} {p : Pos} {e : Expr} {es : List Expr} {ta : TA} {da : DA}
/-- C(..), the last two parameters by their default None -/
theorem pd_newNN {CI : CtrI} {Cl : Addr} (M : Mk X.K Cl f) (F : FnOk X.prog X.w X.K X.mg X.base (L2.CX X.prog X.w) k f fd ps (CI.sp X.K Cl)) (hr : Room (k + 1) X.A) (hm : X.mg x = some (.ref Cl)) (hb : Hz.BothN X.K ps fd) (a : PDA X W xw (e :: es) ta da) (hg : Gl X x := by rfl)
    (hdb : (x == ("__debug__" : Str)) = false := by decide) (he : starEach (e :: es) X.env = (false, eval e X.env) :: starEach es X.env := by rfl) (hpl : (backTo pos (starEach es X.env)).any (·.1) = false := by rfl) :
    PD X W xw (.Call (.Name x p) (e :: es) [] pos) (tMakeS Cl (CI.sp X.K Cl) [V.non, V.non] (WE W) ta) (dNew CI Cl [.non, .non] xw da) := by
  obtain ⟨ds, v, b⟩ := hb
  exact pd_new M F hr hm b v (fun _ _ => .cons .non (.cons .non .nil)) a hg hdb he hpl
end
end Dv
set_option Elab.async false
set_option linter.all false
set_option maxRecDepth 100000
set_option maxHeartbeats 4000000
/-! Jb: == of the same data within an except suite, own instances deep in it (their __eq__ is called there and lets nothing out). -/
namespace Dv
open PySem PySem.Spec PyProof.Rows L2 L2H
theorem roomIn1 {k : Nat} {A : Around} (r : RoomH (k + 1) A) : RoomH k A.in1 :=
  ⟨by have := r.dp; show A.depth + 3 * k + 5 < _; omega, by have := r.un; show A.units + 1 + 16 * k + 200 < _; omega⟩
theorem _root_.L2H.RoomH.units {k : Nat} {A : Around} (r : RoomH k A) : A.units + 64 < cLine := by have := r.un; omega
theorem roomS {X : Cx} {k : Nat} {a : Addr} {pn : List (Addr × Obj)} (r : Room k X.A) : RoomH k (X.suite a pn).A := ⟨r.dp, by
  have := r.un
  show (X.A.mark (some (.ref a))).units + 16 * k + 200 < _
  rw [Around.mark_units]
  exact this⟩
structure SubS (X : Cx) (n : Nat) (A : Around) : Prop where
  room : RoomH n A
  fr : A.frames = X.A.frames
theorem SubS.in1 {X : Cx} {n : Nat} {A : Around} (s : SubS X (n + 1) A) : SubS X n A.in1 := ⟨roomIn1 s.room, s.fr⟩
theorem SubS.mono {X : Cx} {n m : Nat} {A : Around} (s : SubS X n A) (h : m ≤ n) : SubS X m A := ⟨s.room.mono h, s.fr⟩
/-- what a def promises there, if something lies apart in the state -/
structure FnS (P : Program) (w : World) (K : PySem.W.Frag) (mg : Str → Option Value) (base : Heap) (CX : CXT) (k : Nat) (f : Addr) (fd : FuncData) (ps : List Str) (sp : Sp) : Prop where
  len : ∀ vs H Q E, sp vs H Q E → vs.length = ps.length
  run : ∀ (A : Around) (outer : List Env) (s : Shared) (H : Hp) (args : Args) (us : List Value) (vs : List V) (Q : VK) (E : XK) (p : Addr × Obj), RoomH k A → PinOk outer H s p → Env0 P w K mg base A outer s H → BindsTo s fd args (ps.zip us) → Vals vs us → sp vs H Q E →
    codeAny (model P w) A (.call (.ref f) args) (CR CX outer P w H s Q E) s
theorem FnS.mono {P : Program} {w : World} {K : PySem.W.Frag} {mg : Str → Option Value} {base : Heap} {CX : CXT} {j k : Nat} {f : Addr} {fd : FuncData} {ps : List Str} {sp : Sp} (F : FnS P w K mg base CX j f fd ps sp) (h : j ≤ k) :
    FnS P w K mg base CX k f fd ps sp := ⟨F.len, fun A outer s H args us vs Q E p hr => F.run A outer s H args us vs Q E p (hr.mono h)⟩
section
variable {P : Program} {w : World} {K : PySem.W.Frag} {mg : Str → Option Value} {base : Heap}
theorem fn_ofS {CX : CXT} {k : Nat} {f : Addr} {name qual : Str} {params : Arguments} {body : List Stmt} {scope : Scope} {dV kV doc pm cdv ct oc : Value} {an od : Option Addr}
    {osl : Array (Option Value)} {N ps : List Str} {sp : Sp} (lk : K.lookup f = some ⟨oc, od, .func (PySem.W.fnOf name qual params body scope dV kV doc pm an cdv ct), osl⟩) (hcd : PySem.W.codeIn K cdv qual = true) (S : FnScope N ps scope)
    (len : ∀ vs H Q E, sp vs H Q E → vs.length = ps.length)
    (hbody : ∀ (A : Around) (outer : List Env) (s : Shared) (H : Hp) (vs : List V) (Q : VK) (E : XK) (p : Addr × Obj), RoomH k (A.deeper (envOfC qual scope s.heap.objs.size f cdv)) → sp vs H Q E →
      ∃ t, PSs (cxH CX P w K mg base N qual scope f cdv A outer s H E p) body t ∧ t { nx := fun _ H' => Q .non H', rt := Q } (L2.start N vs) H) :
    FnS P w K mg base CX (k + 1) f (PySem.W.fnOf name qual params body scope dV kV doc pm an cdv ct) ps sp := by
  refine ⟨len, fun A outer s H args us vs Q E p hr hpin e0 hb r hsp => ?_⟩
  have KX : K.In s.heap := e0.mod.kin.keeps fun b o e => (e0.bs b o e).1
  have lim : s.heap.NoLimit := e0.mod.nolimit.keeps fun b o e => (e0.bs b o e).1
  have hkind : ∀ y ∈ ps.zip us, scope.names.lookup y.1 = some .local ∨ (scope.names.lookup y.1 = some .cell ∧ ((cellsFrom (s.heap.objs.size + 1) scope.names []).lookup y.1).isSome = true) := fun ⟨n, v⟩ hy => by
    rcases S.par n (List.of_mem_zip hy).1 with q | q
    · exact .inl q
    · exact .inr ⟨q, PySem.W.cellsFrom_some _ _ _ (.inl q)⟩
  refine codeAny_call_function hr.depth (KX _ _ lk) rfl S.co S.gen rfl (PySem.W.codeRec_of KX hcd) (hb _ _ _ _ ?_)
  refine wpAny_newFunctionEnv_cells S.kind hkind fun env he s1 x => ?_
  subst he
  refine ⟨lim.keeps x.toInCall.keep, codeAny_func ?_⟩
  obtain ⟨t, ht, hq⟩ := hbody A outer s H vs Q E p (hr.deeper _) hsp
  have I : Inv (cxH CX P w K mg base N qual scope f cdv A outer s H E p) [] (L2.start N vs) H s1 := inv_startH S hpin e0 (len _ _ _ _ hsp) r x
  refine wpAny_mono (ht.run [] s1 (L2.start N vs) H _ I hq) (fun fl s' hs => ?_) fun e s' hs => hs
  have fin : ∀ {σ' : L2.St} {H' : Hp} {v : V} {u : Value}, Inv (cxH CX P w K mg base N qual scope f cdv A outer s H E p) [] σ' H' s' → RelV v u → Q v H' → CE outer P w H s Q u s' :=
    fun {σ' H' v u} J rv q => ⟨v, H', J.os, J.bare, J.base, J.hok, rv, q⟩
  cases fl with
  | ret u =>
    obtain ⟨v, σ', H', J, rv, q⟩ := hs
    exact fin J rv q
  | next =>
    obtain ⟨σ', H', J, q⟩ := hs
    exact fin (v := V.non) (u := Value.none) J rfl q
  | brk =>
    obtain ⟨_, _, _, q⟩ := hs
    exact False.elim q
  | cont =>
    obtain ⟨_, _, _, q⟩ := hs
    exact False.elim q
theorem fn_okS {x qual : Str} {st : Stmt} {f : Addr} {fd : FuncData} {N ps : List Str} {k : Nat} (C : Ctr) (F : FunD K x qual st f fd) (S : FnScope N ps (defScope st)) (hn : ps.length = C.n)
    (body : ∀ (cdv : Value) (A : Around) (outer : List Env) (s : Shared) (H : Hp) (E : XK) (p : Addr × Obj) (xw : XW), RoomH k (A.deeper (PyProof.Rows.envOfC qual (defScope st) s.heap.objs.size f cdv)) →
      ∃ ts ds, PDSs (cxH (L2.CX P w) P w K mg base N qual (defScope st) f cdv A outer s H E p) (fun cls d _ H => E cls d H) xw (defBody st) ts ds ∧
        ∀ ss kk xx, ss.length = C.n → C.f ss kk xx → (xw = fun A p _ => xx A p) → ds { nx := fun _ => kk (.d .non), rt := kk } (startD N ss)) : FnS P w K mg base (L2.CX P w) (k + 1) f fd ps (C.sp K) := by
  obtain ⟨oc, od, dV, kV, doc, pm, an, cdv, ct, osl, e, lk, hcd⟩ := F.ex
  subst e
  refine fn_ofS lk hcd S (fun vs H Q E h => ?_) (fun A outer s H vs Q E p hr h => ?_)
  · obtain ⟨c, ss, _, _, r, hl, _⟩ := h
    rw [paired_len r, hl, hn]
  · obtain ⟨c, ss, eK, hi, r, hl, hf⟩ := h
    obtain ⟨ts, ds, pd, hd⟩ := body cdv A outer s H E p (fun A p _ => ∀ d H', Go c H H' → XOk c H' d p → E (.ref A) d H') hr
    refine ⟨ts, pd.ps (takes_of rfl rfl rfl rfl), ?_⟩
    have q := hd ss _ _ hl hf rfl
    let c' := c.sub.wth (Kp c.G H) (fun {H1 H2} k _ h => h.trans k)
    have lc : Le c c' := ⟨rfl, fun _ z => z, fun _ h => h.1, fun _ z => z, fun _ _ e => (nomatch e), fun _ z => ⟨z.1, fun y => y⟩, rfl, fun _ z => z⟩
    have s0 : StOk c' (L2.start N vs) H (startD N ss) := (start_ok (c := c.sub) hi (paired_sub r (C.no hf))).wth Kp.self
    refine pd.li c' eK ?_ _ _ ⟨?_, ?_, ?_, ?_, ?_, ?_⟩ _ _ _ s0 q
    · exact fun σ H' Γ A d p st x z => z d H' ⟨st.inv.2, st.inv.1⟩ (x.le lc)
    · exact fun Γ σ H' st z => z .non H' ⟨st.inv.2, st.inv.1⟩ ⟨_, rfl, .non⟩
    · exact fun v s H' i r z => z v H' ⟨i.2, i.1⟩ (r.le lc)
    · exact fun _ _ _ _ z => z.elim
    · exact fun _ _ _ _ z => z.elim
    · exact fun v x H' i r z => z v H' ⟨i.2, i.1⟩ ⟨v, rfl, Rp.to (c := c'.rel) (c' := c) rfl (fun _ z => ⟨z, fun y => y⟩) Kp.self r⟩
    · exact fun _ _ _ _ _ _ _ z => z.elim
end
section
variable {X : Cx} {n : Nat} {okO : D → Prop}
def EqS (X : Cx) (n : Nat) (x : D) : Prop := ∀ (c : Cfg) (A : Around) (pins : List (Addr × Obj)) (s : Shared) (σ : L2.St) (H : Hp) (v u : V) (v' u' : Value), c.K = X.K → SubS X n A → Inv X pins σ H s → c.I H → Rp c H v x → Rp c H u x → RelV v v' → RelV u u' →
  wpAny (model X.prog X.w) A (eqBool v' u') (fun r s' => r = true ∧ ∃ H', Inv X pins σ H' s' ∧ Go c H H') X.xe s
theorem EqS.up {m : Nat} {x : D} (h : EqS X n x) (l : n ≤ m) : EqS X m x := fun c A pins s σ H v u v' u' eK sb I hi r r2 rv ru => h c A pins s σ H v u v' u' eK (sb.mono l) I hi r r2 rv ru
theorem eqS_ok {x : D} (ok : okS 40 x = true) : EqS X n x := fun c A pins s σ H v u v' u' eK sb I hi r r2 rv ru =>
  sameP I eK 40 A (by have := sb.room.units; omega) x ok v u v' u' r r2 rv ru X.xe _ ⟨rfl, H, I, Go.self hi⟩
theorem eqS_obj {Ct : Ctr} {Cl g : Addr} {fd : FuncData} {ps : List Str} {fs : List (Str × D)} (hpn : ∃ p, p ∈ X.pn) (cc : OwnEqC X.K Cl g) (F : FnS X.prog X.w X.K X.mg X.base (L2.CX X.prog X.w) n g fd ps (Ct.sp X.K)) (hb : Binds X.K fd ps []) (hn : Ct.n = 2)
    (hf : Ct.f [.d (.obj Cl fs), .d (.obj Cl fs)] (fun s => s = .d (.bl true)) (fun _ _ => False)) : EqS X n (.obj Cl fs) := fun c A pins s σ H v u v' u' eK sb I hi r r2 rv ru => by
  have pr : Paired (fun v s => SlOk c H (some v) s) [v, u] [.d (.obj Cl fs), .d (.obj Cl fs)] := .cons ⟨_, rfl, r⟩ (.cons ⟨_, rfl, r2⟩ .nil)
  cases r with
  | @obj a _ dx fv _ n1 ha rf =>
    cases r2 with
    | @obj b _ dy gv _ n2 hb' rg =>
      cases (show v' = Value.ref a from rv)
      cases (show u' = Value.ref b from ru)
      by_cases e : a = b
      · subst e
        exact SeqAt.EqAt.same (A := A) (s := s) (.ref a) X.prog X.w X.xe _ ⟨rfl, H, I, Go.self hi⟩
      · refine GQ.eqBool_refG e ?_
        obtain ⟨mA, J, _⟩ := ins_get I.hok ha
        obtain ⟨mB, J', _⟩ := ins_get I.hok hb'
        obtain ⟨od, J, _⟩ := J.look
        obtain ⟨od', J', _⟩ := J'.look
        obtain ⟨m, hF⟩ := I.fr
        refine PySem.W.cmp_K (op := .Eq) (tb := .ref Cl) (by have := sb.room.units; omega) hF I.ok.mod.kin J J'.type (by simp [PySem.W.notFirst]) cc.eq cc.fn ?_
        have hsp : Ct.sp X.K [.ref a, .ref b] H (fun v H' => v = .bl true ∧ Go c H H') E0 := ⟨c, _, eK, hi, pr, hn.symm, Ct.mono (fun s es v H' g r => by
          subst es
          exact ⟨sl_bl r, g⟩) (fun _ _ z => z.elim) hf⟩
        have e0 : Env0 X.prog X.w X.K X.mg X.base A X.stack s H := by
          have e := I.env0
          exact ⟨by rw [sb.fr]; exact e.frames, e.mod, e.bs, e.bsz, e.funs, e.frf, e.hok, e.bare⟩
        have hl := F.len _ _ _ _ hsp
        have r2 : Vals [V.ref a, V.ref b] [Value.ref a, Value.ref b] := .cons rfl (.cons rfl .nil)
        obtain ⟨p, hp⟩ := hpn
        have P1 := I.pin p (List.mem_append_left _ hp)
        have hpin : PinOk X.stack H s p := ⟨P1.1, P1.2.1, fun hm => (List.mem_cons.mp (I.stkSub p.1 hm)).elim P1.2.2.1 P1.2.2.2.1, P1.2.2.2.2⟩
        refine wpAny_call (codeAny_mono (F.run A X.stack s H ⟨[.ref a, .ref b], []⟩ [.ref a, .ref b] [.ref a, .ref b] _ E0 p sb.room hpin e0 (by
          have := hb s [.ref a, .ref b] I.kIn (by simpa using hl)
          simpa using this) r2 hsp) fun r s' hq => ?_)
        cases r with
        | error e => exact passL pins σ H s e s' I hq
        | ok fl =>
          cases fl with
          | ret w =>
            obtain ⟨z, H', I', rz, ez, ex⟩ := I.after hq
            subst ez
            cases rz
            exact ⟨true, rfl, rfl, H', I', ex⟩
          | next => exact False.elim hq
          | brk => exact False.elim hq
          | cont => exact False.elim hq
theorem turnS {m : Nat} {A : Around} (sb : SubS X (m + 1) A) {c : Cfg} (eK : c.K = X.K) {pins : List (Addr × Obj)} {σ : L2.St} {H : Hp} {vs us : List V} {xs : List D} (ra : RpAll c H vs xs) (rb : RpAll c H us xs) (ok : ∀ x ∈ xs, EqS X m x)
    {its its2 : List Value} (r : Vals vs its) (r2 : Vals us its2) (i : Nat) (h1 : i < its.toArray.size) (h2 : i < its2.toArray.size) (s' : Shared) (l : ∃ H1, Inv X pins σ H1 s' ∧ Go c H H1) :
    wpAny (model X.prog X.w) A.in1 (eqBool its.toArray[i] its2.toArray[i]) (fun r s2 => r = true ∧ ∃ H1, Inv X pins σ H1 s2 ∧ Go c H H1) X.xe s' := by
  obtain ⟨H1, I1, g1⟩ := l
  have k1 : i < vs.length := by rw [r.length]; simpa using h1
  have k2 : i < us.length := by rw [r2.length]; simpa using h2
  have k3 : i < xs.length := by rw [← ra.length]; exact k1
  have e1 : its[i]? = some its.toArray[i] := by
    have h1' : i < its.length := by simpa using h1
    rw [List.getElem?_eq_getElem h1'] <;> simp
  have e2 : its2[i]? = some its2.toArray[i] := by
    have h2' : i < its2.length := by simpa using h2
    rw [List.getElem?_eq_getElem h2'] <;> simp
  obtain ⟨u, hu, ru⟩ := r.get (List.getElem?_eq_getElem k1)
  obtain ⟨v, hv, rv⟩ := r2.get (List.getElem?_eq_getElem k2)
  rw [e1] at hu
  rw [e2] at hv
  rw [Option.some.inj hu, Option.some.inj hv]
  have p1 : Rp c H1 vs[i] xs[i] := by
    obtain ⟨v0, e0, r0⟩ := ra.get (List.getElem?_eq_getElem k3)
    rw [List.getElem?_eq_getElem k1] at e0
    cases e0
    exact r0.go g1.kF
  have p2 : Rp c H1 us[i] xs[i] := by
    obtain ⟨v0, e0, r0⟩ := rb.get (List.getElem?_eq_getElem k3)
    rw [List.getElem?_eq_getElem k2] at e0
    cases e0
    exact r0.go g1.kF
  refine wpAny_mono (ok xs[i] (List.getElem_mem k3) c A.in1 pins s' σ H1 _ _ u v eK sb.in1 I1 g1.inv p1 p2 ru rv) (fun r s2 q => ?_) fun _ _ x => x
  obtain ⟨hr', H2, I2, g2⟩ := q
  exact ⟨hr', H2, I2, g1.trans g2⟩
/-- richCompare of two tuples or lists of the same data -/
theorem rcS {m : Nat} {A : Around} (sb : SubS X (m + 1) A) {c : Cfg} (eK : c.K = X.K) {pins : List (Addr × Obj)} {s : Shared} {σ : L2.St} {H : Hp} (I : Inv X pins σ H s) (hi : c.I H) {x : D} {xs : List D} (ex : x = .lst xs ∨ x = .tup xs) (ok : ∀ y ∈ xs, EqS X m y) {a b : Addr} (r : Rp c H (.ref a) x) (r2 : Rp c H (.ref b) x) (eq : Bool) {Q : Value → Shared → Prop} (q : ∀ s', (∃ H1, Inv X pins σ H1 s' ∧ Go c H H1) → Q (.bool eq) s') :
    wpAny (model X.prog X.w) A (richCompare (if eq then .Eq else .NotEq) (.ref a) (.ref b)) Q X.xe s := by
  rcases ex with rfl | rfl
  · cases r with
    | lst n1 h1 ra =>
      cases r2 with
      | lst n2 h2 rb =>
        cases eq with
        | true =>
          refine GQ.rc_listG (N := xs.length) (by have := sb.room.units; omega) (fun _ s' => ∃ H1, Inv X pins σ H1 s' ∧ Go c H H1) (fun i s' z => ?_) (fun s' z => q s' z) ⟨H, I, Go.self hi⟩
          obtain ⟨H1, I1, g1⟩ := id z
          obtain ⟨z1, its, k, r, e⟩ := I1.hok _ _ (g1.keep _ _ (fun z => n1 (c.GF z)) rfl h1)
          obtain ⟨z2, its2, k2, r2, e2⟩ := I1.hok _ _ (g1.keep _ _ (fun z => n2 (c.GF z)) rfl h2)
          exact ⟨its.toArray, its2.toArray, k, k2, e, e2, by rw [List.size_toArray, ← r.length, ra.length], by rw [List.size_toArray, ← r2.length, rb.length], fun h1 h2 => turnS sb eK ra rb ok r r2 i h1 h2 s' z⟩
        | false =>
          refine GN.rc_listN (N := xs.length) (by have := sb.room.units; omega) (fun _ s' => ∃ H1, Inv X pins σ H1 s' ∧ Go c H H1) (fun i s' z => ?_) (fun s' z => q s' z) ⟨H, I, Go.self hi⟩
          obtain ⟨H1, I1, g1⟩ := id z
          obtain ⟨z1, its, k, r, e⟩ := I1.hok _ _ (g1.keep _ _ (fun z => n1 (c.GF z)) rfl h1)
          obtain ⟨z2, its2, k2, r2, e2⟩ := I1.hok _ _ (g1.keep _ _ (fun z => n2 (c.GF z)) rfl h2)
          exact ⟨its.toArray, its2.toArray, k, k2, _, _, _, _, e, e2, by rw [List.size_toArray, ← r.length, ra.length], by rw [List.size_toArray, ← r2.length, rb.length], fun h1 h2 => turnS sb eK ra rb ok r r2 i h1 h2 s' z⟩
  · cases r with
    | tup n1 ra =>
      cases r2 with
      | tup n2 rb =>
        obtain ⟨us, r1, p1, _⟩ := I.tuple (eK ▸ n1.sq)
        obtain ⟨ws, r2, p2, _⟩ := I.tuple (eK ▸ n2.sq)
        have hsz : us.toArray.size = ws.toArray.size := by
          rw [List.size_toArray, List.size_toArray, ← r1.length, ← r2.length, ra.length, rb.length]
        cases eq with
        | true => exact GQ.rc_tupG hsz (by have := sb.room.units; omega) (fun _ s' => ∃ H1, Inv X pins σ H1 s' ∧ Go c H H1) p1 p2 (fun i h1 h2 s' z => turnS sb eK ra rb ok r1 r2 i h1 h2 s' z) (fun s' z => q s' z) ⟨H, I, Go.self hi⟩
        | false => exact GN.rc_tupN hsz (by have := sb.room.units; omega) (fun _ s' => ∃ H1, Inv X pins σ H1 s' ∧ Go c H H1) p1 p2 (fun i h1 h2 s' z => turnS sb eK ra rb ok r1 r2 i h1 h2 s' z) (fun s' z => q s' z) ⟨H, I, Go.self hi⟩
theorem eqS_deep (hO : ∀ x, okO x → EqS X n x) : ∀ (d : Nat) (x : D), okB okO d x → EqS X (n + d) x
  | 0, x, h => h.elim eqS_ok (hO x)
  | d + 1, x, h => by
    rcases h with h | ⟨xs, ex, h⟩
    · exact h.elim eqS_ok fun h => (hO x h).up (by omega)
    · intro c A pins s σ H v u v' u' eK sb I hi r r2 rv ru
      have sb' : SubS X (n + d + 1) A := sb
      have ref : ∀ p q : Addr, v = .ref p → u = .ref q → wpAny (model X.prog X.w) A (eqBool v' u') (fun r s' => r = true ∧ ∃ H', Inv X pins σ H' s' ∧ Go c H H') X.xe s := fun p q e1 e2 => by
        subst e1 e2
        cases (show v' = Value.ref p from rv)
        cases (show u' = Value.ref q from ru)
        by_cases e : p = q
        · subst e
          exact SeqAt.EqAt.same (A := A) (s := s) (.ref p) X.prog X.w X.xe _ ⟨rfl, H, I, Go.self hi⟩
        · exact GQ.eqBool_refG e (rcS sb' eK I hi ex (fun y m => eqS_deep hO d y (h y m)) r r2 true fun s' z => ⟨true, rfl, rfl, z⟩)
      rcases ex with rfl | rfl
      · cases id r with
        | lst _ _ _ => cases id r2 with
          | lst _ _ _ => exact ref _ _ rfl rfl
      · cases id r with
        | tup _ _ => cases id r2 with
          | tup _ _ => exact ref _ _ rfl rfl
theorem op_samSE {d : Nat} (hO : ∀ x, okO x → EqS X n x) (hr : RoomH (n + d + 1) X.A) : OpR X (compareOp .Eq) (rSamB X.K okO d true) := by
  intro pins s σ H x y v u Q I rx ry hq
  obtain ⟨c, z, xs, eK, hi, r1, r2, ex, ok, q⟩ := hq
  obtain ⟨a, b, e1, e2⟩ := refs_of r1 r2 ex
  subst e1 e2
  cases rx
  cases ry
  show wpAny (model X.prog X.w) X.A (richCompare .Eq _ _) (EP X pins σ Q) X.xe s
  exact rcS ⟨hr, rfl⟩ eK I hi ex (fun y m => eqS_deep hO d y (ok y m)) r1 r2 true fun s' z => by
    obtain ⟨H1, I1, g1⟩ := z
    exact ⟨.bl true, H1, I1, rfl, q H1 g1⟩
end
section
variable {X : Cx} {n : Nat} {okO : D → Prop} {W : WX} {xw : XW} {pos : Pos} {a b : Expr} {ta tb : TE} {da db : DE}
theorem pd_samSu {d : Nat} (hO : ∀ x, okO x → EqS X n x) (hr : RoomH (n + d + 1) X.A) (x : PD X W xw a ta da) (y : PD X W xw b tb db) : PD X W xw (.Compare a [.Eq] [b] pos) (tOp (rOr (rSamB X.K okO d true) (rEqD X.K)) ta tb) (dOp (gSamB okO d true gEq) da db) := ⟨fun tk => pe_cmpR (op_or (op_samSE hO hr) (op_eqD hr.units)) (x.pe tk) (y.pe tk) (nomark _), li_op (o2_samB o2_eq) x.li y.li⟩
end
end Dv
set_option Elab.async false
set_option linter.all false
set_option maxRecDepth 100000
set_option maxHeartbeats 4000000
namespace G
/- facts that are wanted: T.f_is_integer T.f_is_between T.f_is_word T.f_check_number T.f_parts_many T.f_part_many T.f_check_row T.f_part_text T.f_parts_text T.f_inner_parts T.f_channels_in_parts T.f_channels_of T.f_ends_in T.f_are_programs T.f_ends_of_channels T.f_are_first T.f_are_stores T.f_check_net T.f_is_marked T.f_check_line_number T.f_line_text T.f_are_lines T.f_lined_many T.f_is_lined_form T.f_value_at T.f_items_at T.f_paper_at T.f_check_first_step T.f_is_lined T.f__law_pool T.f__law_take T.f__law_line T.f__law_items T.f__law_made_line T.f__law_at T.f__law_built T.f__law_told T.f__law_wrong T.f__law_deep T.f_law T.m_Line___init__ T.m_Line___call__ T.m_Line___eq__ T.eq_Line T.call_Line T.mm_Net___init__ T.c_BadLine T.c_BadNumber T.c_BadPaper T.c_BadRow T.c_BadNet T.x_BadNumber_BadPaper T.x_BadPaper_BadNumber T.na_Row_parts T.na_Row_text T.na_Row_size T.na_Line_at_zero T.na_Line_slope T.na_Line_text T.na_Net_programs T.na_Net_senders T.na_Net_takers T.na_Net_first_ones T.na_Net_homes T.na_Net_tale T.g_LETTERS T.g_MOST_WORD T.g_MOST_NUMBER T.g_MOST_LINE T.g_MOST_PARTS T.g_MOST_PROCESSES T.g_MOST_CHANNELS T.g_MOST_STEP T.g_MOST_DEEP_lines T.g_MOST_ITEMS_lines T.n_all T.n_any T.n_bool T.n_dict T.n_enumerate T.n_int T.n_isinstance T.n_len T.n_list T.n_max T.n_min T.n_range T.n_set T.n_sorted T.n_str T.n_tuple T.n_sum -/
open TX
open PySem L2 Dv
theorem sc_is_integer : FnScope ["thing"] ["thing"] (defScope s_is_integer) := ⟨rfl, rfl, rfl, by decide +kernel, rfl, by decide +kernel, by decide +kernel⟩
theorem sc_is_word : FnScope ["thing", "sign"] ["thing"] (defScope s_is_word) := ⟨rfl, rfl, rfl, by decide +kernel, rfl, by decide +kernel, by decide +kernel⟩
theorem sc_is_between : FnScope ["thing", "least", "most"] ["thing", "least", "most"] (defScope s_is_between) := ⟨rfl, rfl, rfl, by decide +kernel, rfl, by decide +kernel, by decide +kernel⟩
theorem sc_check_number : FnScope ["n"] ["n"] (defScope s_check_number) := ⟨rfl, rfl, rfl, by decide +kernel, rfl, by decide +kernel, by decide +kernel⟩
theorem sc_parts_many : FnScope ["parts", "deep", "is_outer", "many", "index", "part", "inner"] ["parts", "deep", "is_outer"] (defScope s_parts_many) := ⟨rfl, rfl, rfl, by decide +kernel, rfl, by decide +kernel, by decide +kernel⟩
theorem sc_check_row : FnScope ["row"] ["row"] (defScope s_check_row) := ⟨rfl, rfl, rfl, by decide +kernel, rfl, by decide +kernel, by decide +kernel⟩
theorem sc_parts_text : FnScope ["parts", "part"] ["parts"] (defScope s_parts_text) := ⟨rfl, rfl, rfl, by decide +kernel, rfl, by decide +kernel, by decide +kernel⟩
theorem sc_channels_in_parts : FnScope ["parts", "found", "part"] ["parts"] (defScope s_channels_in_parts) := ⟨rfl, rfl, rfl, by decide +kernel, rfl, by decide +kernel, by decide +kernel⟩
theorem sc_channels_of : FnScope ["row"] ["row"] (defScope s_channels_of) := ⟨rfl, rfl, rfl, by decide +kernel, rfl, by decide +kernel, by decide +kernel⟩
theorem sc_ends_in : FnScope ["parts", "word", "found", "part", "channel", "k"] ["parts", "word"] (defScope s_ends_in) := ⟨rfl, rfl, rfl, by decide +kernel, rfl, by decide +kernel, by decide +kernel⟩
theorem sc_are_programs : FnScope ["thing", "name", "row"] ["thing"] (defScope s_are_programs) := ⟨rfl, rfl, rfl, by decide +kernel, rfl, by decide +kernel, by decide +kernel⟩
theorem sc_ends_of_channels : FnScope ["programs", "word", "found", "name", "channel"] ["programs", "word"] (defScope s_ends_of_channels) := ⟨rfl, rfl, rfl, by decide +kernel, rfl, by decide +kernel, by decide +kernel⟩
theorem sc_check_net : FnScope ["net"] ["net"] (defScope s_check_net) := ⟨rfl, rfl, rfl, by decide +kernel, rfl, by decide +kernel, by decide +kernel⟩
theorem sc_is_marked : FnScope ["thing", "word", "size"] ["thing", "word", "size"] (defScope s_is_marked) := ⟨rfl, rfl, rfl, by decide +kernel, rfl, by decide +kernel, by decide +kernel⟩
theorem sc_check_line_number : FnScope ["number"] ["number"] (defScope s_check_line_number) := ⟨rfl, rfl, rfl, by decide +kernel, rfl, by decide +kernel, by decide +kernel⟩
theorem sc_line_text : FnScope ["at_zero", "slope", "head"] ["at_zero", "slope"] (defScope s_line_text) := ⟨rfl, rfl, rfl, by decide +kernel, rfl, by decide +kernel, by decide +kernel⟩
theorem sc_are_lines : FnScope ["thing", "one"] ["thing"] (defScope s_are_lines) := ⟨rfl, rfl, rfl, by decide +kernel, rfl, by decide +kernel, by decide +kernel⟩
theorem sc_lined_many : FnScope ["items", "deep", "many", "item", "inner"] ["items", "deep"] (defScope s_lined_many) := ⟨rfl, rfl, rfl, by decide +kernel, rfl, by decide +kernel, by decide +kernel⟩
theorem sc_is_lined_form : FnScope ["thing"] ["thing"] (defScope s_is_lined_form) := ⟨rfl, rfl, rfl, by decide +kernel, rfl, by decide +kernel, by decide +kernel⟩
theorem sc_value_at : FnScope ["line", "m"] ["line", "m"] (defScope s_value_at) := ⟨rfl, rfl, rfl, by decide +kernel, rfl, by decide +kernel, by decide +kernel⟩
theorem sc_items_at : FnScope ["items", "m", "item"] ["items", "m"] (defScope s_items_at) := ⟨rfl, rfl, rfl, by decide +kernel, rfl, by decide +kernel, by decide +kernel⟩
theorem sc_paper_at : FnScope ["paper", "m", "line"] ["paper", "m"] (defScope s_paper_at) := ⟨rfl, rfl, rfl, by decide +kernel, rfl, by decide +kernel, by decide +kernel⟩
theorem sc_check_first_step : FnScope ["first", "step"] ["first", "step"] (defScope s_check_first_step) := ⟨rfl, rfl, rfl, by decide +kernel, rfl, by decide +kernel, by decide +kernel⟩
theorem sc_is_lined : FnScope ["net", "first", "step", "thing", "last", "far", "low", "high", "is_right", "one", "other", "place"] ["net", "first", "step", "thing"] (defScope s_is_lined) := ⟨rfl, rfl, rfl, by decide +kernel, rfl, by decide +kernel, by decide +kernel⟩
theorem sc__law_pool : FnScope ["_law_script", "_law_k", "_law_cell", "_law_seed"] ["_law_script", "_law_k"] (defScope s__law_pool) := ⟨rfl, rfl, rfl, by decide +kernel, rfl, by decide +kernel, by decide +kernel⟩
theorem sc__law_take : FnScope ["_law_pool_here", "_law_many", "_law_found"] ["_law_pool_here", "_law_many"] (defScope s__law_take) := ⟨rfl, rfl, rfl, by decide +kernel, rfl, by decide +kernel, by decide +kernel⟩
theorem sc__law_line : FnScope ["_law_pool_here"] ["_law_pool_here"] (defScope s__law_line) := ⟨rfl, rfl, rfl, by decide +kernel, rfl, by decide +kernel, by decide +kernel⟩
theorem sc__law_items : FnScope ["_law_pool_here", "_law_deep_here", "_law_found", "_law_turn"] ["_law_pool_here", "_law_deep_here"] (defScope s__law_items) := ⟨rfl, rfl, rfl, by decide +kernel, rfl, by decide +kernel, by decide +kernel⟩
theorem sc__law_made_line : FnScope ["_law_pair"] ["_law_pair"] (defScope s__law_made_line) := ⟨rfl, rfl, rfl, by decide +kernel, rfl, by decide +kernel, by decide +kernel⟩
theorem sc__law_at : FnScope ["_law_pair", "_law_m"] ["_law_pair", "_law_m"] (defScope s__law_at) := ⟨rfl, rfl, rfl, by decide +kernel, rfl, by decide +kernel, by decide +kernel⟩
theorem sc__law_built : FnScope ["_law_items_here", "_law_m", "_law_found", "_law_item"] ["_law_items_here", "_law_m"] (defScope s__law_built) := ⟨rfl, rfl, rfl, by decide +kernel, rfl, by decide +kernel, by decide +kernel⟩
theorem sc__law_told : FnScope ["_law_paper", "_law_m", "_law_kept", "e"] ["_law_paper", "_law_m"] (defScope s__law_told) := ⟨rfl, rfl, rfl, by decide +kernel, rfl, by decide +kernel, by decide +kernel⟩
theorem sc__law_wrong : FnScope ["_law_pool_here", "_law_paper", "_law_odd", "_law_deep_here", "_law_found", "_law_bad"] ["_law_pool_here", "_law_paper"] (defScope s__law_wrong) := ⟨rfl, rfl, rfl, by decide +kernel, rfl, by decide +kernel, by decide +kernel⟩
theorem sc__law_deep : FnScope ["_law_many", "_law_items_here", "_law_turn"] ["_law_many"] (defScope s__law_deep) := ⟨rfl, rfl, rfl, by decide +kernel, rfl, by decide +kernel, by decide +kernel⟩
theorem sc_law : FnScope ["_law_script", "_law_net", "_law_k", "_law_pool_here", "_law_knot", "_law_paper", "_law_m", "_law_thing", "_law_vector", "_law_items_here", "_law_tail", "_law_word", "_law_due", "_law_turn", "_law_pair"] ["_law_script"] (defScope s_law) := ⟨rfl, rfl, rfl, by decide +kernel, rfl, by decide +kernel, by decide +kernel⟩
theorem sc_Row___init__ : FnScope ["self", "parts"] ["self", "parts"] (defScope s_Row___init__) := ⟨rfl, rfl, rfl, by decide +kernel, rfl, by decide +kernel, by decide +kernel⟩
theorem sc_Net___init__ : FnScope ["self", "programs", "first", "stores", "channels", "groups", "shared", "senders", "takers", "name", "channel", "store", "group"] ["self", "programs", "first", "stores"] (defScope s_Net___init__) := ⟨rfl, rfl, rfl, by decide +kernel, rfl, by decide +kernel, by decide +kernel⟩
theorem sc_Line___init__ : FnScope ["self", "at_zero", "slope"] ["self", "at_zero", "slope"] (defScope s_Line___init__) := ⟨rfl, rfl, rfl, by decide +kernel, rfl, by decide +kernel, by decide +kernel⟩
theorem sc_Line___call__ : FnScope ["self", "m"] ["self", "m"] (defScope s_Line___call__) := ⟨rfl, rfl, rfl, by decide +kernel, rfl, by decide +kernel, by decide +kernel⟩
theorem sc_Line___eq__ : FnScope ["self", "other"] ["self", "other"] (defScope s_Line___eq__) := ⟨rfl, rfl, rfl, by decide +kernel, rfl, by decide +kernel, by decide +kernel⟩
structure Ad where
  f_is_integer : Addr
  d_is_integer : FuncData
  f_is_word : Addr
  d_is_word : FuncData
  f_is_between : Addr
  d_is_between : FuncData
  f_check_number : Addr
  d_check_number : FuncData
  f_parts_many : Addr
  d_parts_many : FuncData
  f_part_many : Addr
  d_part_many : FuncData
  f_check_row : Addr
  d_check_row : FuncData
  f_part_text : Addr
  d_part_text : FuncData
  f_parts_text : Addr
  d_parts_text : FuncData
  f_inner_parts : Addr
  d_inner_parts : FuncData
  f_channels_in_parts : Addr
  d_channels_in_parts : FuncData
  f_channels_of : Addr
  d_channels_of : FuncData
  f_ends_in : Addr
  d_ends_in : FuncData
  f_are_programs : Addr
  d_are_programs : FuncData
  f_ends_of_channels : Addr
  d_ends_of_channels : FuncData
  f_are_first : Addr
  d_are_first : FuncData
  f_are_stores : Addr
  d_are_stores : FuncData
  f_check_net : Addr
  d_check_net : FuncData
  f_is_marked : Addr
  d_is_marked : FuncData
  f_check_line_number : Addr
  d_check_line_number : FuncData
  f_line_text : Addr
  d_line_text : FuncData
  f_are_lines : Addr
  d_are_lines : FuncData
  f_lined_many : Addr
  d_lined_many : FuncData
  f_is_lined_form : Addr
  d_is_lined_form : FuncData
  f_value_at : Addr
  d_value_at : FuncData
  f_items_at : Addr
  d_items_at : FuncData
  f_paper_at : Addr
  d_paper_at : FuncData
  f_check_first_step : Addr
  d_check_first_step : FuncData
  f_is_lined : Addr
  d_is_lined : FuncData
  f__law_pool : Addr
  d__law_pool : FuncData
  f__law_take : Addr
  d__law_take : FuncData
  f__law_line : Addr
  d__law_line : FuncData
  f__law_items : Addr
  d__law_items : FuncData
  f__law_made_line : Addr
  d__law_made_line : FuncData
  f__law_at : Addr
  d__law_at : FuncData
  f__law_built : Addr
  d__law_built : FuncData
  f__law_told : Addr
  d__law_told : FuncData
  f__law_wrong : Addr
  d__law_wrong : FuncData
  f__law_deep : Addr
  d__law_deep : FuncData
  f_law : Addr
  d_law : FuncData
  t_MOST_WORD : Tok
  t_MOST_NUMBER : Tok
  t_MOST_PARTS : Tok
  t_MOST_PROCESSES : Tok
  t_MOST_CHANNELS : Tok
  t_MOST_LINE : Tok
  t_MOST_STEP : Tok
  t_MOST_DEEP_lines : Tok
  t_MOST_ITEMS_lines : Tok
  t_LETTERS : Tok
  D : Addr
  fI : Addr
  C_BadRow : Addr
  C_BadNumber : Addr
  C_BadNet : Addr
  C_BadLine : Addr
  C_BadPaper : Addr
  C_Row : Addr
  C_Net : Addr
  C_Rooms : Addr
  C_Moment : Addr
  C_Course : Addr
  C_Walk : Addr
  C_Line : Addr
  m_Row___init__ : Addr
  e_Row___init__ : FuncData
  m_Net___init__ : Addr
  e_Net___init__ : FuncData
  m_Rooms___init__ : Addr
  e_Rooms___init__ : FuncData
  m_Moment___init__ : Addr
  e_Moment___init__ : FuncData
  m_Course___init__ : Addr
  e_Course___init__ : FuncData
  m_Walk___init__ : Addr
  e_Walk___init__ : FuncData
  m_Line___init__ : Addr
  e_Line___init__ : FuncData
  m_Line___call__ : Addr
  e_Line___call__ : FuncData
  m_Line___eq__ : Addr
  e_Line___eq__ : FuncData
structure Txt (P : Program) (K : PySem.W.Frag) (mg : Str → Option Value) (a : Ad) : Prop where
  f_is_integer : FnAt K mg "is_integer" "is_integer" s_is_integer ["thing"] a.f_is_integer a.d_is_integer
  f_is_word : FnAt K mg "is_word" "is_word" s_is_word ["thing"] a.f_is_word a.d_is_word
  f_is_between : FnAt K mg "is_between" "is_between" s_is_between ["thing", "least", "most"] a.f_is_between a.d_is_between
  f_check_number : FnAt K mg "check_number" "check_number" s_check_number ["n"] a.f_check_number a.d_check_number
  f_parts_many : FnAt K mg "parts_many" "parts_many" s_parts_many ["parts", "deep", "is_outer"] a.f_parts_many a.d_parts_many
  f_part_many : FnAt K mg "part_many" "part_many" s_part_many ["part", "deep", "may_end"] a.f_part_many a.d_part_many
  f_check_row : FnAt K mg "check_row" "check_row" s_check_row ["row"] a.f_check_row a.d_check_row
  f_part_text : FnAt K mg "part_text" "part_text" s_part_text ["part"] a.f_part_text a.d_part_text
  f_parts_text : FnAt K mg "parts_text" "parts_text" s_parts_text ["parts"] a.f_parts_text a.d_parts_text
  f_inner_parts : FnAt K mg "inner_parts" "inner_parts" s_inner_parts ["part"] a.f_inner_parts a.d_inner_parts
  f_channels_in_parts : FnAt K mg "channels_in_parts" "channels_in_parts" s_channels_in_parts ["parts"] a.f_channels_in_parts a.d_channels_in_parts
  f_channels_of : FnAt K mg "channels_of" "channels_of" s_channels_of ["row"] a.f_channels_of a.d_channels_of
  f_ends_in : FnAt K mg "ends_in" "ends_in" s_ends_in ["parts", "word"] a.f_ends_in a.d_ends_in
  f_are_programs : FnAt K mg "are_programs" "are_programs" s_are_programs ["thing"] a.f_are_programs a.d_are_programs
  f_ends_of_channels : FnAt K mg "ends_of_channels" "ends_of_channels" s_ends_of_channels ["programs", "word"] a.f_ends_of_channels a.d_ends_of_channels
  f_are_first : FnAt K mg "are_first" "are_first" s_are_first ["thing", "channels"] a.f_are_first a.d_are_first
  f_are_stores : FnAt K mg "are_stores" "are_stores" s_are_stores ["thing", "channels", "senders"] a.f_are_stores a.d_are_stores
  f_check_net : FnAt K mg "check_net" "check_net" s_check_net ["net"] a.f_check_net a.d_check_net
  f_is_marked : FnAt K mg "is_marked" "is_marked" s_is_marked ["thing", "word", "size"] a.f_is_marked a.d_is_marked
  f_check_line_number : FnAt K mg "check_line_number" "check_line_number" s_check_line_number ["number"] a.f_check_line_number a.d_check_line_number
  f_line_text : FnAt K mg "line_text" "line_text" s_line_text ["at_zero", "slope"] a.f_line_text a.d_line_text
  f_are_lines : FnAt K mg "are_lines" "are_lines" s_are_lines ["thing"] a.f_are_lines a.d_are_lines
  f_lined_many : FnAt K mg "lined_many" "lined_many" s_lined_many ["items", "deep"] a.f_lined_many a.d_lined_many
  f_is_lined_form : FnAt K mg "is_lined_form" "is_lined_form" s_is_lined_form ["thing"] a.f_is_lined_form a.d_is_lined_form
  f_value_at : FnAt K mg "value_at" "value_at" s_value_at ["line", "m"] a.f_value_at a.d_value_at
  f_items_at : FnAt K mg "items_at" "items_at" s_items_at ["items", "m"] a.f_items_at a.d_items_at
  f_paper_at : FnAt K mg "paper_at" "paper_at" s_paper_at ["paper", "m"] a.f_paper_at a.d_paper_at
  f_check_first_step : FnAt K mg "check_first_step" "check_first_step" s_check_first_step ["first", "step"] a.f_check_first_step a.d_check_first_step
  f_is_lined : FnAt K mg "is_lined" "is_lined" s_is_lined ["net", "first", "step", "thing"] a.f_is_lined a.d_is_lined
  f__law_pool : FnAt K mg "_law_pool" "_law_pool" s__law_pool ["_law_script", "_law_k"] a.f__law_pool a.d__law_pool
  f__law_take : FnAt K mg "_law_take" "_law_take" s__law_take ["_law_pool_here", "_law_many"] a.f__law_take a.d__law_take
  f__law_line : FnAt K mg "_law_line" "_law_line" s__law_line ["_law_pool_here"] a.f__law_line a.d__law_line
  f__law_items : FnAt K mg "_law_items" "_law_items" s__law_items ["_law_pool_here", "_law_deep_here"] a.f__law_items a.d__law_items
  f__law_made_line : FnAt K mg "_law_made_line" "_law_made_line" s__law_made_line ["_law_pair"] a.f__law_made_line a.d__law_made_line
  f__law_at : FnAt K mg "_law_at" "_law_at" s__law_at ["_law_pair", "_law_m"] a.f__law_at a.d__law_at
  f__law_built : FnAt K mg "_law_built" "_law_built" s__law_built ["_law_items_here", "_law_m"] a.f__law_built a.d__law_built
  f__law_told : FnAt K mg "_law_told" "_law_told" s__law_told ["_law_paper", "_law_m"] a.f__law_told a.d__law_told
  f__law_wrong : FnAt K mg "_law_wrong" "_law_wrong" s__law_wrong ["_law_pool_here", "_law_paper"] a.f__law_wrong a.d__law_wrong
  f__law_deep : FnAt K mg "_law_deep" "_law_deep" s__law_deep ["_law_many"] a.f__law_deep a.d__law_deep
  f_law : FnAt K mg "law" "law" s_law ["_law_script"] a.f_law a.d_law
  n_all : mg "all" = none
  n_any : mg "any" = none
  n_bool : mg "bool" = none
  n_dict : mg "dict" = none
  n_enumerate : mg "enumerate" = none
  n_int : mg "int" = none
  n_isinstance : mg "isinstance" = none
  n_len : mg "len" = none
  n_list : mg "list" = none
  n_max : mg "max" = none
  n_min : mg "min" = none
  n_range : mg "range" = none
  n_set : mg "set" = none
  n_sorted : mg "sorted" = none
  n_str : mg "str" = none
  n_sum : mg "sum" = none
  n_tuple : mg "tuple" = none
  g_MOST_WORD : mg "MOST_WORD" = some (.int (8) a.t_MOST_WORD)
  g_MOST_NUMBER : mg "MOST_NUMBER" = some (.int (1000000000000000000000000000000) a.t_MOST_NUMBER)
  g_MOST_PARTS : mg "MOST_PARTS" = some (.int (60) a.t_MOST_PARTS)
  g_MOST_PROCESSES : mg "MOST_PROCESSES" = some (.int (8) a.t_MOST_PROCESSES)
  g_MOST_CHANNELS : mg "MOST_CHANNELS" = some (.int (12) a.t_MOST_CHANNELS)
  g_MOST_LINE : mg "MOST_LINE" = some (.int (10000000000000000000000000000000000000000000000000000000000000000000000000000000000000000000000000000000000000000000000000000000000000000000000000000000000000000000000000000000000000000000000000000000000000000000000000000000000000000000000000000000000000000000000000000000000000000000000000000000000000000000000000000000000000000000000000000000000000000000000000000000000000000000000000000000000000000) a.t_MOST_LINE)
  g_MOST_STEP : mg "MOST_STEP" = some (.int (9) a.t_MOST_STEP)
  g_MOST_DEEP_lines : mg "MOST_DEEP_lines" = some (.int (40) a.t_MOST_DEEP_lines)
  g_MOST_ITEMS_lines : mg "MOST_ITEMS_lines" = some (.int (2000) a.t_MOST_ITEMS_lines)
  g_LETTERS : mg "LETTERS" = some (.str "abcdefghijklmnopqrstuvwxyz" a.t_LETTERS)
  room : PySem.RoomX.RoomTxt P K mg a.D a.fI
  c_BadRow : PySem.RoomX.RoomCls K mg "BadRow" a.C_BadRow a.D a.fI
  i_BadRow : L2.RoomIs K a.C_BadRow
  c_BadNumber : PySem.RoomX.RoomCls K mg "BadNumber" a.C_BadNumber a.D a.fI
  i_BadNumber : L2.RoomIs K a.C_BadNumber
  c_BadNet : PySem.RoomX.RoomCls K mg "BadNet" a.C_BadNet a.D a.fI
  i_BadNet : L2.RoomIs K a.C_BadNet
  c_BadLine : PySem.RoomX.RoomCls K mg "BadLine" a.C_BadLine a.D a.fI
  i_BadLine : L2.RoomIs K a.C_BadLine
  c_BadPaper : PySem.RoomX.RoomCls K mg "BadPaper" a.C_BadPaper a.D a.fI
  i_BadPaper : L2.RoomIs K a.C_BadPaper
  k_Row : ClsAt K mg "Row" a.C_Row
  k_Net : ClsAt K mg "Net" a.C_Net
  k_Rooms : ClsAt K mg "Rooms" a.C_Rooms
  k_Moment : ClsAt K mg "Moment" a.C_Moment
  k_Course : ClsAt K mg "Course" a.C_Course
  k_Walk : ClsAt K mg "Walk" a.C_Walk
  k_Line : ClsAt K mg "Line" a.C_Line
  m_Row___init__ : MetAt0 K "__init__" "Row.__init__" s_Row___init__ ["self", "parts"] a.m_Row___init__ a.e_Row___init__
  m_Net___init__ : MetAtN K "__init__" "Net.__init__" s_Net___init__ ["self", "programs", "first", "stores"] a.m_Net___init__ a.e_Net___init__
  mm_Net___init__ : Hz.BothN K ["self", "programs", "first", "stores"] a.e_Net___init__
  m_Rooms___init__ : MetAt K "__init__" "Rooms.__init__" s_Rooms___init__ ["self", "values"] a.m_Rooms___init__ a.e_Rooms___init__
  m_Moment___init__ : MetAt K "__init__" "Moment.__init__" s_Moment___init__ ["self", "net", "n", "rooms", "places", "levels"] a.m_Moment___init__ a.e_Moment___init__
  m_Course___init__ : MetAt0 K "__init__" "Course.__init__" s_Course___init__ ["self", "items"] a.m_Course___init__ a.e_Course___init__
  m_Walk___init__ : MetAt K "__init__" "Walk.__init__" s_Walk___init__ ["self", "moment"] a.m_Walk___init__ a.e_Walk___init__
  m_Line___init__ : MetAt1 K "__init__" "Line.__init__" s_Line___init__ ["self", "at_zero", "slope"] (0) a.m_Line___init__ a.e_Line___init__
  m_Line___call__ : MetAt K "__call__" "Line.__call__" s_Line___call__ ["self", "m"] a.m_Line___call__ a.e_Line___call__
  m_Line___eq__ : MetAt K "__eq__" "Line.__eq__" s_Line___eq__ ["self", "other"] a.m_Line___eq__ a.e_Line___eq__
  mk_Row : L2.Mk K a.C_Row a.m_Row___init__
  na_Row_parts : L2.NoAttr K a.C_Row "parts"
  na_Row_size : L2.NoAttr K a.C_Row "size"
  na_Row_text : L2.NoAttr K a.C_Row "text"
  mk_Net : L2.Mk K a.C_Net a.m_Net___init__
  na_Net_first_ones : L2.NoAttr K a.C_Net "first_ones"
  na_Net_homes : L2.NoAttr K a.C_Net "homes"
  na_Net_programs : L2.NoAttr K a.C_Net "programs"
  na_Net_senders : L2.NoAttr K a.C_Net "senders"
  na_Net_takers : L2.NoAttr K a.C_Net "takers"
  na_Net_tale : L2.NoAttr K a.C_Net "tale"
  mk_Rooms : L2.Mk K a.C_Rooms a.m_Rooms___init__
  mk_Moment : L2.Mk K a.C_Moment a.m_Moment___init__
  mk_Course : L2.Mk K a.C_Course a.m_Course___init__
  mk_Walk : L2.Mk K a.C_Walk a.m_Walk___init__
  mk_Line : L2.Mk K a.C_Line a.m_Line___init__
  na_Line_at_zero : L2.NoAttr K a.C_Line "at_zero"
  na_Line_slope : L2.NoAttr K a.C_Line "slope"
  na_Line_text : L2.NoAttr K a.C_Line "text"
  eq_Line : L2.OwnEqC K a.C_Line a.m_Line___eq__
  call_Line : StX.CallO K a.C_Line a.m_Line___call__
  x_BadNumber_BadPaper : PySem.W.subIn K (.ref a.C_BadNumber) (.ref a.C_BadPaper) = some false
  x_BadPaper_BadNumber : PySem.W.subIn K (.ref a.C_BadPaper) (.ref a.C_BadNumber) = some false
/-! ### plain -/
def isInt : D → Bool
  | .int _ => true
  | _ => false
def btw (lo hi : Int) : D → Bool
  | .int i => decide (lo ≤ i) && decide (i ≤ hi)
  | _ => false
def letter (n : Nat) : Bool := decide (n ∈ (Str.ofString "abcdefghijklmnopqrstuvwxyz").cps.toList)
def isWordS (z : Str) : Bool := (decide (1 ≤ (z.length : Int)) && decide ((z.length : Int) ≤ 8)) && z.cps.toList.all letter
def isWord : D → Bool
  | .str z => isWordS z
  | _ => false
theorem lcD_map {i : Nat} {e : DE} {Γ : Gm} {g : D → D} : ∀ (xs : List D) (k : List D → Prop), (∀ x ∈ xs, ∀ k' : DK, k' (.d (g x)) → e (Γ.set i (.d x)) k') → k (xs.map g) → lcD i dYes e Γ xs k
  | [], k, _, h => h
  | x :: r, k, he, h => he x (List.mem_cons_self ..) _ (lcD_map r _ (fun y hy => he y (List.mem_cons_of_mem _ hy)) h)
theorem unB_map (xs : List Bool) : unB (xs.map D.bl) = some xs := by
  induction xs with
  | nil => rfl
  | cons x r ih =>
    show (unB (r.map D.bl)).map (x :: ·) = _
    rw [ih]
    rfl
theorem chain_le {Γ : Gm} {x y z : DE} {lo i hi : Int} {k : DK} (hx : x Γ = fun k => k (.d (.int lo))) (hy : y Γ = fun k => k (.d (.int i))) (hz : z Γ = fun k => k (.d (.int hi))) (h : k (.d (.bl (decide (lo ≤ i) && decide (i ≤ hi))))) : dChain gLe gLe x y z Γ k := by
  unfold dChain
  rw [hx]
  dsimp only
  rw [hy]
  show (match Sl.d (.bl (decide (lo ≤ i))) with
    | .d (.bl true) => z Γ fun u => gLe (.d (.int i)) u k
    | .d (.bl false) => k (.d (.bl false))
    | _ => False)
  revert h
  cases decide (lo ≤ i)
  · exact fun h => h
  · intro h
    dsimp only
    rw [hz]
    exact h
theorem chain_le2 {Γ : Gm} {x y z : DE} {lo i hi : Int} {k : DK} (hx : ∀ k : DK, k (.d (.int lo)) → x Γ k) (hy : ∀ k : DK, k (.d (.int i)) → y Γ k) (hz : ∀ k : DK, k (.d (.int hi)) → z Γ k) (h : k (.d (.bl (decide (lo ≤ i) && decide (i ≤ hi))))) : dChain gLe gLe x y z Γ k := by
  unfold dChain
  refine hx _ (hy _ ?_)
  show (match Sl.d (.bl (decide (lo ≤ i))) with
    | .d (.bl true) => z Γ fun u => gLe (.d (.int i)) u k
    | .d (.bl false) => k (.d (.bl false))
    | _ => False)
  revert h
  cases decide (lo ≤ i)
  · exact fun h => h
  · exact fun h => hz _ h
section
variable {P : Program} {w : World} {K : PySem.W.Frag} {mg : Str → Option Value} {base : Heap} {a : Ad}
def c_is_integer : Ctr where
  n := 1
  f := fun ss k _ => match ss with
    | [.d x] => isObj x = false ∧ k (.d (.bl (isInt x)))
    | _ => False
  mono := fun {ss k k' x x'} hk _ h => by
    split at h
    · exact ⟨h.1, hk _ h.2⟩
    · exact h.elim
theorem ok_is_integer (T : Txt P K mg a) : FnOk P w K mg base (L2.CX P w) 1 a.f_is_integer a.d_is_integer ["thing"] (c_is_integer.sp K) := by
  refine fn_ok c_is_integer T.f_is_integer.F sc_is_integer rfl (fun cdv A outer s H E xw hr po => ⟨_, _, (pdss_one (pds_ret (pd_and (pd_callB call_isi (oc_is .int) T.n_isinstance (by decide +kernel) (pda_cons (pd_v 0) (pda_cons (pd_ty (T := "int") T.n_int (by decide +kernel)) pda_nil))) (pd_one (pd_not (pd_callB call_isi (oc_is .bool) T.n_isinstance (by decide +kernel) (pda_cons (pd_v 0) (pda_cons (pd_ty (T := "bool") T.n_bool (by decide +kernel)) pda_nil)))))))), ?_⟩)
  intro ss kk xx hl h _
  unfold c_is_integer at h
  dsimp only at h
  split at h
  · rename_i x
    obtain ⟨h1, h2⟩ := h
    refine ⟨rfl, h1, ?_⟩
    cases x <;> first | exact h2 | exact ⟨rfl, h1, h2⟩
  · exact h.elim
def c_is_between : Ctr where
  n := 3
  f := fun ss k _ => match ss with
    | [.d x, .d (.int lo), .d (.int hi)] => isObj x = false ∧ k (.d (.bl (btw lo hi x)))
    | _ => False
  mono := fun {ss k k' x x'} hk _ h => by
    split at h
    · exact ⟨h.1, hk _ h.2⟩
    · exact h.elim
theorem ok_is_between (T : Txt P K mg a) : FnOk P w K mg base (L2.CX P w) 2 a.f_is_between a.d_is_between ["thing", "least", "most"] (c_is_between.sp K) := by
  refine fn_ok c_is_between T.f_is_between.F sc_is_between rfl (fun cdv A outer s H E xw hr po => ⟨_, _, (pdss_one (pds_ret (pd_and (pd_call (ok_is_integer T) (hr.mono (by decide)) T.f_is_integer.m T.f_is_integer.F.kp T.f_is_integer.b (pda_cons (pd_v 0) pda_nil)) (pd_one (pd_chLeLe (pd_v 1) (pd_v 0) (pd_v 2)))))), ?_⟩)
  intro ss kk xx hl h _
  unfold c_is_between at h
  dsimp only at h
  split at h
  · rename_i x lo hi
    obtain ⟨h1, h2⟩ := h
    refine ⟨rfl, h1, ?_⟩
    cases x <;> try exact h2
    rename_i i
    exact chain_le rfl rfl rfl h2
  · exact h.elim
def c_is_word : Ctr where
  n := 1
  f := fun ss k _ => match ss with
    | [.d x] => isObj x = false ∧ (∀ z, x = .str z → z.length ≤ 100000) ∧ k (.d (.bl (isWord x)))
    | _ => False
  mono := fun {ss k k' x x'} hk _ h => by
    split at h
    · exact ⟨h.1, h.2.1, hk _ h.2.2⟩
    · exact h.elim
theorem ok_is_word (T : Txt P K mg a) : FnOk P w K mg base (L2.CX P w) 1 a.f_is_word a.d_is_word ["thing"] (c_is_word.sp K) := by
  refine fn_ok c_is_word T.f_is_word.F sc_is_word rfl (fun cdv A outer s H E xw hr po => ⟨_, _, (pdss_one (pds_ret (pd_and (pd_callB call_isi (oc_is .str) T.n_isinstance (by decide +kernel) (pda_cons (pd_v 0) (pda_cons (pd_ty (T := "str") T.n_str (by decide +kernel)) pda_nil))) (pd_and (pd_chLeLe pd_int (pd_callB call_len oc_len T.n_len (by decide +kernel) (pda_cons (pd_v 0) pda_nil)) (pd_gI T.g_MOST_WORD)) (pd_one (pd_callB (cr_all rfl) oc_all T.n_all (by decide +kernel) (pda_cons (pd_lc (i := 1) rfl sc_is_word.nd (pdi_str (pd_v 0)) (blkOk_by (N := ["thing", "sign"]) (sc := defScope s_is_word) (own := [("sign", 1)]) (by decide +kernel)) (fun _ _ _ _ _ => pg_name (i := 1) sc_is_word.nd rfl (Or.inl rfl)) (fun _ _ _ _ _ => pdts_nil) (fun _ _ _ _ _ => (pd_inS (pd_v 1) (pd_gS T.g_LETTERS)))) pda_nil))))))), ?_⟩)
  intro ss kk xx hl h _
  unfold c_is_word at h
  dsimp only at h
  split at h
  · rename_i x
    obtain ⟨h1, h2, h3⟩ := h
    refine ⟨rfl, h1, ?_⟩
    cases x <;> try exact h3
    rename_i z
    have hz := h2 z rfl
    refine chain_le2 (fun k h => h) (fun k h => ⟨hz, h⟩) (fun k h => h) ?_
    have h4 : kk (.d (.bl ((decide (1 ≤ (z.length : Int)) && decide ((z.length : Int) ≤ 8)) && z.cps.toList.all letter))) := h3
    revert h4
    cases decide (1 ≤ (z.length : Int)) && decide ((z.length : Int) ≤ 8)
    · exact fun h => h
    · intro h4
      refine ⟨by rw [show (signs z).length = z.length by simp [signs, Str.length]]; exact hz, ?_⟩
      refine lcD_map (g := fun d => match d with
        | .str s => .bl (letter (s.cps.getD 0 0))
        | d => d) _ _ (fun x hx k' h' => ?_) ?_
      · obtain ⟨n, hn, rfl⟩ := List.mem_map.mp hx
        exact ⟨n, rfl, h'⟩
      · have e : (signs z).map (fun d => match d with
            | .str s => .bl (letter (s.cps.getD 0 0))
            | d => d) = (z.cps.toList.map letter).map D.bl := by
          unfold signs
          rw [List.map_map, List.map_map]
          rfl
        show gAll [.d (.lst ((signs z).map _))] kk
        rw [e]
        unfold gAll
        dsimp only
        rw [unB_map]
        show kk (.d (.bl ((z.cps.toList.map letter).all id)))
        rw [List.all_map]
        exact h4
  · exact h.elim
def bad (x : D) : XP := some [(("value" : Str), x)]
/-! ### steps, each by its value -/
theorem s_asg {i : Nat} {e : DE} {B : DS} {E : DEnds} {Γ : Gm} {x : Sl} (h : ∀ k : DK, k x → e Γ k) (h' : B E (Γ.set i x)) : dSeq (dAsg i e) B E Γ := h _ h'
theorem s_if {t : DT} {A B : DS} {E : DEnds} {Γ : Gm} {b : Bool} (h : ∀ k : Bool → Prop, k b → t Γ k) (h1 : b = true → A { E with nx := B E } Γ) (h2 : b = false → B E Γ) : dSeq (dIfS t A dNext) B E Γ := by
  refine h _ ?_
  cases b with
  | true => exact h1 rfl
  | false => exact h2 rfl
theorem s_if1 {t : DT} {A B : DS} {E : DEnds} {Γ : Gm} {b : Bool} (h : ∀ k : Bool → Prop, k b → t Γ k) (h1 : b = true → A E Γ) (h2 : b = false → B E Γ) : dIfS t A B E Γ := by
  refine h _ ?_
  cases b with
  | true => exact h1 rfl
  | false => exact h2 rfl
theorem e_if {t : DT} {x y : DE} {Γ : Gm} {b : Bool} {k : DK} (h : ∀ k : Bool → Prop, k b → t Γ k) (h1 : b = true → x Γ k) (h2 : b = false → y Γ k) : dIf t x y Γ k := by
  refine h _ ?_
  cases b with
  | true => exact h1 rfl
  | false => exact h2 rfl
theorem t_or {t u : DT} {Γ : Gm} {b c : Bool} {k : Bool → Prop} (h : ∀ k : Bool → Prop, k b → t Γ k) (h' : b = false → ∀ k : Bool → Prop, k c → u Γ k) (hk : k (b || c)) : dOr t u Γ k := by
  refine h _ ?_
  cases b with
  | true => exact hk
  | false => exact h' rfl _ hk
theorem t_and {t u : DT} {Γ : Gm} {b c : Bool} {k : Bool → Prop} (h : ∀ k : Bool → Prop, k b → t Γ k) (h' : b = true → ∀ k : Bool → Prop, k c → u Γ k) (hk : k (b && c)) : dAnd t u Γ k := by
  refine h _ ?_
  cases b with
  | false => exact hk
  | true => exact h' rfl _ hk
theorem t_not {t : DT} {Γ : Gm} {b : Bool} {k : Bool → Prop} (h : ∀ k : Bool → Prop, k b → t Γ k) (hk : k (!b)) : dNot t Γ k := h _ hk
theorem t_b {e : DE} {Γ : Gm} {b : Bool} {k : Bool → Prop} (h : ∀ k : DK, k (.d (.bl b)) → e Γ k) (hk : k b) : dB e Γ k := h _ hk
theorem e_call1 {C : Ctr} {e : DE} {Γ : Gm} {k : DK} {x : Sl} (h : ∀ k : DK, k x → e Γ k) (hn : 1 = C.n) (hk : C.f [x] k fun A p => xw0 A p Γ) : dCall C xw0 (dCons e dNil) Γ k := h _ ⟨hn, hk⟩
-- SPLIT
/-! ### lines -/
def far : Int := 10000000000000000000000000000000000000000000000000000000000000000000000000000000000000000000000000000000000000000000000000000000000000000000000000000000000000000000000000000000000000000000000000000000000000000000000000000000000000000000000000000000000000000000000000000000000000000000000000000000000000000000000000000000000000000000000000000000000000000000000000000000000000000000000000000000000000000
theorem log_lt {n : Nat} (h : n < 2 ^ 1900) : n.log2 < 1920 := by
  by_cases z : n = 0
  · subst z
    decide
  · exact Nat.lt_of_lt_of_le ((Nat.log2_lt z).mpr h) (by decide)
theorem dig_len {i : Int} (h : i.natAbs.log2 < 1920) : (Nat.toDigits 10 i.natAbs).length ≤ 900 := by
  have h1 : i.natAbs < 10 ^ 900 := by
    by_cases z : i.natAbs = 0
    · rw [z]
      exact Nat.pow_pos (by decide)
    · exact Nat.lt_trans (Nat.lt_of_lt_of_le (Nat.lt_log2_self (n := i.natAbs)) (Nat.pow_le_pow_right (by decide) h)) (by decide +kernel)
  have e := (Nat.length_repr_le_iff (n := i.natAbs) (by decide : 0 < 900)).mpr h1
  rwa [← String.length_toList, Nat.toList_repr] at e
theorem text_len {i : Int} (h : i.natAbs.log2 < 1920) : (Str.ofString (toString i)).length ≤ 998 := by
  have z := plus_len h
  unfold plus at z
  by_cases c : i < 0
  · cases i with
    | ofNat m => exact (Int.not_lt.mpr (Int.natCast_nonneg m) c).elim
    | negSucc m =>
      rw [text_neg]
      have h3 := dig_len h
      have h4 : (Nat.toDigits 10 (m + 1)).length ≤ 900 := h3
      simp [Str.length]
      omega
  · cases i with
    | ofNat m =>
      rw [PyProof.Rows.text_ofNat]
      have h3 := dig_len h
      have h4 : (Nat.toDigits 10 m).length ≤ 900 := h3
      simp [Str.length]
      omega
    | negSucc m => exact (c (Int.negSucc_lt_zero m)).elim
def c_line_text : Ctr where
  n := 2
  f := fun ss k _ => match ss with
    | [.d (.int i), .d (.int j)] => i.natAbs < 2 ^ 1900 ∧ j.natAbs < 2 ^ 1900 ∧ k (.d (.str (ltext i j)))
    | _ => False
  mono := fun {ss k k' x x'} hk _ h => by
    split at h
    · exact ⟨h.1, h.2.1, hk _ h.2.2⟩
    · exact h.elim
theorem to_k {k : DK} {x y : Str} (e : x = y) (h : k (.d (.str x))) : k (.d (.str y)) := e ▸ h
theorem ok_line_text (T : Txt P K mg a) : FnOk P w K mg base (L2.CX P w) 1 a.f_line_text a.d_line_text ["at_zero", "slope"] (c_line_text.sp K) := by
  refine fn_ok c_line_text T.f_line_text.F sc_line_text rfl (fun cdv A outer s H E xw hr po => ⟨_, _, (pdss_cons (pds_if (pdt_eq hr.units (pd_v 1) pd_int)
  (pdss_one (pds_ret (pd_callTy call_str_int oc_strI T.n_str (by decide +kernel) (pda_cons (pd_v 0) pda_nil))))
  pdss_nil)
  (pdss_cons (pds_set (i := 2) (pd_ifExp (pdt_eq hr.units (pd_v 1) pd_int) pd_str (pd_ifExp (pdt_eq hr.units (pd_v 1) (pd_neg pd_int)) pd_str (pd_joined (pdj_cons (pd_fmt (pd_v 1)) (pdj_cons pd_str pdj_nil))))) sc_line_text.nd)
  (pdss_one (pds_ret (pd_ifExp (pdt_eq hr.units (pd_v 0) pd_int) (pd_v 2) (pd_joined (pdj_cons (pd_fmt (pd_v 2)) (pdj_cons (pd_fmtP (pd_v 0)) pdj_nil)))))))), ?_⟩)
  intro ss kk xx hl h _
  unfold c_line_text at h
  dsimp only at h
  split at h
  · rename_i i j
    obtain ⟨h1, h2, h3⟩ := h
    have l1 : i.natAbs.log2 < 1920 := log_lt h1
    have l2 : j.natAbs.log2 < 1920 := log_lt h2
    refine ⟨rfl, rfl, ?_⟩
    rw [deq_int]
    unfold ltext at h3
    by_cases j0 : j = 0
    · rw [decide_eq_true j0]
      rw [if_pos j0] at h3
      exact ⟨l1, h3⟩
    rw [decide_eq_false j0]
    rw [if_neg j0] at h3
    have fin : ∀ x : Str, x.length ≤ 1000 → x = hd j → dRet (dIf (dB (dOp gEq (dVar 0) (dC (D.int 0)))) (dVar 2) (dJoin [dFmt (dVar 2), dFmtP (dVar 0)])) { nx := fun _ => kk (Sl.d D.non), rt := kk } [.d (.int i), .d (.int j), .d (.str x)] := fun x hx e => by
      refine ⟨rfl, rfl, ?_⟩
      rw [deq_int]
      by_cases i0 : i = 0
      · rw [decide_eq_true i0]
        rw [if_pos i0] at h3
        exact to_k e.symm h3
      rw [decide_eq_false i0]
      rw [if_neg i0] at h3
      have pl := plus_len l1
      refine ⟨Nat.le_trans hx (by decide), ?_, l1, ?_, ?_⟩
      · rw [Str.length_append]
        exact Nat.le_trans (Nat.add_le_add (show Str.empty.length ≤ 0 by decide) hx) (by decide)
      · rw [Str.length_append, Str.length_append]
        exact Nat.le_trans (Nat.add_le_add (Nat.add_le_add (show Str.empty.length ≤ 0 by decide) hx) pl) (by decide)
      · exact to_k (by rw [Str.empty_append, e]) h3
    refine ⟨rfl, rfl, ?_⟩
    rw [deq_int]
    by_cases j1 : j = 1
    · rw [decide_eq_true j1]
      exact fin _ (by decide) (by unfold hd; rw [if_pos j1])
    rw [decide_eq_false j1]
    refine ⟨rfl, rfl, ?_⟩
    show cond (deq (.int j) (.int (-1))) _ _
    rw [deq_int]
    by_cases jm : j = -1
    · rw [decide_eq_true jm]
      exact fin _ (by decide) (by unfold hd; rw [if_neg j1, if_pos jm])
    rw [decide_eq_false jm]
    have sl := text_len l2
    refine ⟨l2, ?_, ?_, fin _ ?_ ?_⟩
    · rw [Str.length_append]
      exact Nat.le_trans (Nat.add_le_add (show Str.empty.length ≤ 0 by decide) sl) (by decide)
    · rw [Str.length_append, Str.length_append]
      exact Nat.le_trans (Nat.add_le_add (Nat.add_le_add (show Str.empty.length ≤ 0 by decide) sl) (show (Str.ofString "m").length ≤ 1 by decide)) (by decide)
    · rw [Str.length_append, Str.length_append]
      exact Nat.le_trans (Nat.add_le_add (Nat.add_le_add (show Str.empty.length ≤ 0 by decide) sl) (show (Str.ofString "m").length ≤ 1 by decide)) (by decide)
    · unfold hd
      rw [if_neg j1, if_neg jm, Str.empty_append]
  · exact h.elim
theorem far_big : (1000 : Int) ≤ far := by decide +kernel
def c_check_line_number : Ctr where
  n := 1
  f := fun ss k _ => match ss with
    | [.d (.int i)] => -1000 ≤ i ∧ i ≤ 1000 ∧ k (.d .non)
    | _ => False
  mono := fun {ss k k' x x'} hk hx h => by
    split at h
    · exact ⟨h.1, h.2.1, hk _ h.2.2⟩
    · exact h.elim
theorem ok_check_line_number (T : Txt P K mg a) : FnOk P w K mg base (L2.CX P w) 3 a.f_check_line_number a.d_check_line_number ["number"] (c_check_line_number.sp K) := by
  refine fn_ok c_check_line_number T.f_check_line_number.F sc_check_line_number rfl (fun cdv A outer s H E xw hr po => ⟨_, _, (pdss_one (pds_if (pdt_not (pdt_val (pd_call (ok_is_between T) (hr.mono (by decide)) T.f_is_between.m T.f_is_between.F.kp T.f_is_between.b (pda_cons (pd_v 0) (pda_cons (pd_neg (pd_gI T.g_MOST_LINE)) (pda_cons (pd_gI T.g_MOST_LINE) pda_nil))))))
  (pdss_one (pds_raise rfl T.room T.c_BadLine hr (pda_cons (pd_v 0) pda_nil)))
  pdss_nil)), ?_⟩)
  intro ss kk xx hl h ew
  unfold c_check_line_number at h
  dsimp only at h
  split at h
  · rename_i i
    obtain ⟨h1, h2, h3⟩ := h
    have fb := far_big
    refine ⟨rfl, rfl, ?_⟩
    show cond (!(decide (-far ≤ i) && decide (i ≤ far))) _ _
    rw [decide_eq_true (show -far ≤ i by omega), decide_eq_true (show i ≤ far by omega)]
    exact h3
  · exact h.elim
def line (i j : Int) : List (Str × D) := [("at_zero", .int i), ("slope", .int j), ("text", .str (ltext i j))]
abbrev lineO (a : Ad) (i j : Int) : D := .obj a.C_Line (line i j)
def c_Line (a : Ad) : CtrI where
  n := 2
  f := fun ss k xx => match ss with
    | [.d (.int i), .d (.int j)] => -1000 ≤ i ∧ i ≤ 1000 ∧ -1000 ≤ j ∧ j ≤ 1000 ∧ k (line i j)
    | _ => False
  mono := fun {ss k k' x x'} hk hx h => by
    split at h
    · exact ⟨h.1, h.2.1, h.2.2.1, h.2.2.2.1, hk _ h.2.2.2.2⟩
    · exact h.elim
theorem small_pow {i : Int} (h : -1000 ≤ i) (h' : i ≤ 1000) : i.natAbs < 2 ^ 1900 := Nat.lt_of_le_of_lt (show i.natAbs ≤ 1000 by omega) (by decide +kernel)
theorem ok_Line___init__ (T : Txt P K mg a) : FnOk P w K mg base (L2.CX P w) 4 a.m_Line___init__ a.e_Line___init__ ["self", "at_zero", "slope"] ((c_Line a).sp K a.C_Line) := by
  refine fn_init (c_Line a) T.m_Line___init__.F sc_Line___init__ rfl (fun cdv A outer s H E xw hr po => ⟨_, _, (pdss_cons (pds_expr (pd_callX (ok_check_line_number T) (hr.mono (by decide)) T.f_check_line_number.m T.f_check_line_number.F.kp T.f_check_line_number.b (pda_cons (pd_v 1) pda_nil)))
  (pdss_cons (pds_expr (pd_callX (ok_check_line_number T) (hr.mono (by decide)) T.f_check_line_number.m T.f_check_line_number.F.kp T.f_check_line_number.b (pda_cons (pd_v 2) pda_nil)))
  (pdss_cons (pds_fld (i := 0) T.k_Line.cl T.na_Line_at_zero (pd_v 1))
  (pdss_cons (pds_fld (i := 0) T.k_Line.cl T.na_Line_slope (pd_v 2))
  (pdss_one (pds_fld (i := 0) T.k_Line.cl T.na_Line_text (pd_call (ok_line_text T) (hr.mono (by decide)) T.f_line_text.m T.f_line_text.F.kp T.f_line_text.b (pda_cons (pd_v 1) (pda_cons (pd_v 2) pda_nil))))))))), ?_⟩)
  intro ss kk xx hl h ew
  unfold c_Line at h
  dsimp only at h
  split at h
  · rename_i i j
    obtain ⟨h1, h2, h3, h4, h5⟩ := h
    exact ⟨rfl, h1, h2, rfl, h3, h4, rfl, (by decide), rfl, (by show 1 < 1000; decide), rfl, small_pow h1 h2, small_pow h3 h4, rfl, (by show 2 < 1000; decide), _, rfl, h5⟩
  · exact h.elim
def top30 : Int := 1000000000000000000000000000000
def smallL (i j : Int) : Prop := -1000 ≤ i ∧ i ≤ 1000 ∧ -1000 ≤ j ∧ j ≤ 1000
def c_Line___call__ (a : Ad) : Ctr where
  n := 2
  f := fun ss k xx => match ss with
    | [.d (.obj C fs), .d (.int m)] => C = a.C_Line ∧ ∃ i j, fs = line i j ∧ smallL i j ∧ 0 ≤ m ∧ m ≤ top30 ∧ k (.d (.int (i + j * m)))
    | _ => False
  mono := fun {ss k k' x x'} hk hx h => by
    split at h
    · obtain ⟨h0, i, j, h1, h2, h3, h4, h5⟩ := h
      exact ⟨h0, i, j, h1, h2, h3, h4, hk _ h5⟩
    · exact h.elim
theorem ok_Line___call__ (T : Txt P K mg a) : FnOk P w K mg base (L2.CX P w) 3 a.m_Line___call__ a.e_Line___call__ ["self", "m"] ((c_Line___call__ a).sp K) := by
  refine fn_okD (c_Line___call__ a) T.m_Line___call__.F sc_Line___call__ rfl (fun cdv A outer s H E xw hr po => ⟨_, _, (pdss_cons (pds_if (pdt_not (pdt_val (pd_call (ok_is_between T) (hr.mono (by decide)) T.f_is_between.m T.f_is_between.F.kp T.f_is_between.b (pda_cons (pd_v 1) (pda_cons pd_int (pda_cons (pd_gI T.g_MOST_NUMBER) pda_nil))))))
  (pdss_one (pds_raise rfl T.room T.c_BadNumber hr (pda_cons (pd_v 1) pda_nil)))
  pdss_nil)
  (pdss_one (pds_ret (pd_add (pd_fld T.k_Line.cl T.na_Line_at_zero (pd_v 0)) (pd_mul (pd_fld T.k_Line.cl T.na_Line_slope (pd_v 0)) (pd_v 1)))))), ?_⟩)
  intro ss kk xx hl h ew
  unfold c_Line___call__ at h
  dsimp only at h
  split at h
  · rename_i C fs m
    obtain ⟨rfl, i, j, rfl, sm, h3, h4, h5⟩ := h
    have nb : m.natAbs < 2 ^ 100 := by
      have f1 : top30 < 2 ^ 100 := by decide +kernel
      omega
    have jb : j.natAbs < 2 ^ 11 := by
      have := sm.2.2
      omega
    refine ⟨rfl, rfl, ?_⟩
    show cond (!(decide (0 ≤ m) && decide (m ≤ top30))) _ _
    rw [decide_eq_true h3, decide_eq_true h4]
    exact ⟨rfl, _, rfl, rfl, _, rfl, mulW_of jb nb (by decide) (by decide) (by decide), h5⟩
  · exact h.elim
def c_Line_eq (a : Ad) : Ctr where
  n := 2
  f := fun ss k xx => match ss with
    | [.d (.obj C fs), .d (.obj C' gs)] => C = a.C_Line ∧ C' = a.C_Line ∧ ∃ i j, fs = line i j ∧ gs = line i j ∧ smallL i j ∧ k (.d (.bl true))
    | _ => False
  mono := fun {ss k k' x x'} hk hx h => by
    split at h
    · obtain ⟨h0, h1, i, j, h2, h3, h4, h5⟩ := h
      exact ⟨h0, h1, i, j, h2, h3, h4, hk _ h5⟩
    · exact h.elim
theorem e_andV {b c : Bool} {e1 e2 : DE} {Γ : Gm} {k : DK} (h1 : ∀ k : DK, k (.d (.bl b)) → e1 Γ k) (h2 : b = true → ∀ k : DK, k (.d (.bl c)) → e2 Γ k) (hk : k (.d (.bl (b && c)))) : dAndV e1 e2 Γ k := h1 _ (by
  cases b
  · exact hk
  · exact h2 rfl _ hk)
theorem okD_int (i : Int) : okD (.int i) = true := by simp [okD, toPy, SeqAt.shaped, PyData.canLay0, PyData.depth]
theorem ok_Line___eq__ (T : Txt P K mg a) : FnOk P w K mg base (L2.CX P w) 1 a.m_Line___eq__ a.e_Line___eq__ ["self", "other"] ((c_Line_eq a).sp K) := by
  refine fn_okD (c_Line_eq a) T.m_Line___eq__.F sc_Line___eq__ rfl (fun cdv A outer s H E xw hr po => ⟨_, _, (pdss_one (pds_ret (pd_and (pd_callB (call_isOwn T.k_Line.is) (oc_isC T.k_Line.is) T.n_isinstance (by decide +kernel) (pda_cons (pd_v 1) (pda_cons (pd_cls T.k_Line.gC) pda_nil))) (pd_and (pd_eq hr.units (pd_fld T.k_Line.cl T.na_Line_at_zero (pd_v 0)) (pd_fld T.k_Line.cl T.na_Line_at_zero (pd_v 1))) (pd_one (pd_eq hr.units (pd_fld T.k_Line.cl T.na_Line_slope (pd_v 0)) (pd_fld T.k_Line.cl T.na_Line_slope (pd_v 1)))))))), ?_⟩)
  intro ss kk xx hl h ew
  unfold c_Line_eq at h
  dsimp only at h
  split at h
  · rename_i C fs C' gs
    obtain ⟨rfl, rfl, i, j, rfl, rfl, sm, h5⟩ := h
    refine e_andV (b := true) (c := true) (fun k hk => ⟨rfl, rfl, ?_⟩) (fun _ k hk => e_andV (b := true) (c := true) (fun k hk => ⟨rfl, _, rfl, rfl, _, rfl, okD_int _, okD_int _, ?_⟩) (fun _ k hk => ⟨rfl, _, rfl, rfl, _, rfl, okD_int _, okD_int _, ?_⟩) hk) h5
    · rw [show isC a.C_Line (lineO a i j) = true from decide_eq_true rfl]
      exact hk
    · rw [deq_self (okD_int i)]
      exact hk
    · rw [deq_self (okD_int j)]
      exact hk
  · exact h.elim
/-! ### lines as data -/
def okL (a : Ad) (x : D) : Prop := ∃ i j, x = lineO a i j ∧ smallL i j
theorem okL_q {X : Cx} {n : Nat} (T : Txt X.prog X.K X.mg a) : ∀ x, okL a x → EqQ X (n + 1) x := by
  rintro x ⟨i, j, rfl, sm⟩
  refine eqQ_obj T.eq_Line ((ok_Line___eq__ (base := X.base) (w := X.w) T).mono (by omega)) T.m_Line___eq__.b rfl ?_
  exact ⟨rfl, rfl, i, j, rfl, rfl, sm, rfl⟩
-- SPLIT
/-! ### rows of nothing -/
theorem s_ifZ {b : Bool} {t : DT} {A : DS} {E : DEnds} {Γ : Gm} (ht : ∀ k : Bool → Prop, k b → t Γ k) (h1 : b = true → A E Γ) (h2 : b = false → E.nx Γ) : dIfS t A dNext E Γ := ht _ (by
  cases b
  · exact h2 rfl
  · exact h1 rfl)
def c_check_row (a : Ad) : Ctr where
  n := 1
  f := fun ss k _ => match ss with
    | [.d (.obj C fs)] => C = a.C_Row ∧ k (.d .non)
    | _ => False
  mono := fun {ss k k' x x'} hk hx h => by
    split at h
    · exact ⟨h.1, hk _ h.2⟩
    · exact h.elim
theorem ok_check_row (T : Txt P K mg a) : FnOk P w K mg base (L2.CX P w) 1 a.f_check_row a.d_check_row ["row"] ((c_check_row a).sp K) := by
  refine fn_okD (c_check_row a) (FunD.of T.f_check_row.F) sc_check_row rfl (fun cdv A outer s H E xw hr po => ⟨_, _, (pdss_one (pds_if (pdt_not (pdt_val (pd_callB (call_isOwn T.k_Row.is) (oc_isC T.k_Row.is) T.n_isinstance (by decide +kernel) (pda_cons (pd_v 0) (pda_cons (pd_cls T.k_Row.gC) pda_nil)))))
  (pdss_one (pds_raise rfl T.room T.c_BadRow hr (pda_cons (pd_v 0) pda_nil)))
  pdss_nil)), ?_⟩)
  intro ss kk xx hl h ew
  unfold c_check_row at h
  dsimp only at h
  split at h
  · rename_i C fs
    obtain ⟨rfl, h3⟩ := h
    refine s_ifZ (b := false) (fun k hk => t_not (b := true) (fun k hk => t_b (b := true) (fun k hk => ⟨rfl, rfl, ?_⟩) hk) hk) (fun q => nomatch q) (fun _ => h3)
    rw [show isC a.C_Row (.obj a.C_Row fs) = true from decide_eq_true rfl]
    exact hk
  · exact h.elim
def cNo2 (n : Nat) : Ctr where
  n := n
  f := fun _ _ _ => False
  mono := fun _ _ h => h
  no := fun h => h.elim
theorem no_sp2 {f : Addr} {fd : FuncData} {k n : Nat} {ps : List Str} : FnOk P w K mg base (L2.CX P w) k f fd ps ((cNo2 n).sp K) := ⟨fun vs H Q E h => by
  obtain ⟨_, _, _, _, _, _, z⟩ := h
  exact z.elim, fun A outer s H args us vs Q E _ _ _ _ h => by
  obtain ⟨_, _, _, _, _, _, z⟩ := h
  exact z.elim⟩
abbrev c_part_many : Ctr := cNo2 3
theorem ok_part_many (T : Txt P K mg a) : FnOk P w K mg base (L2.CX P w) 1 a.f_part_many a.d_part_many ["part", "deep", "may_end"] (c_part_many.sp K) := no_sp2
abbrev c_part_text : Ctr := cNo2 1
theorem ok_part_text (T : Txt P K mg a) : FnOk P w K mg base (L2.CX P w) 1 a.f_part_text a.d_part_text ["part"] (c_part_text.sp K) := no_sp2
def c_parts_many : Ctr where
  n := 3
  f := fun ss k _ => match ss with
    | [.d (.tup []), .d (.int _), .d (.bl _)] => k (.d (.int 0))
    | _ => False
  mono := fun {ss k k' x x'} hk _ h => by
    split at h
    · exact hk _ h
    · exact h.elim
theorem ok_parts_many (T : Txt P K mg a) : FnOk P w K mg base (L2.CX P w) 2 a.f_parts_many a.d_parts_many ["parts", "deep", "is_outer"] (c_parts_many.sp K) := by
  refine fn_ok c_parts_many T.f_parts_many.F sc_parts_many rfl (fun cdv A outer s H E xw hr po => ⟨_, _, (pdss_cons (pds_if (pdt_not (pdt_val (pd_callB call_isi (oc_is .tuple) T.n_isinstance (by decide +kernel) (pda_cons (pd_v 0) (pda_cons (pd_ty (T := "tuple") T.n_tuple (by decide +kernel)) pda_nil)))))
  (pdss_one (pds_ret pd_non))
  pdss_nil)
  (pdss_cons (pds_set (i := 3) pd_int sc_parts_many.nd)
  (pdss_cons (pds_for po rfl (pdi_enum T.n_enumerate (pda_cons (pd_v 0) pda_nil)) (pdg_tup rfl (pdgs_cons (pdg_name (i := 4) sc_parts_many.nd) (pdgs_cons (pdg_name (i := 5) sc_parts_many.nd) pdgs_nil)))
  (pdss_cons (pds_set (i := 6) (pd_call (ok_part_many T) (hr.mono (by decide)) T.f_part_many.m T.f_part_many.F.kp T.f_part_many.b (pda_cons (pd_v 5) (pda_cons (pd_v 1) (pda_cons (pd_and (pd_v 2) (pd_one (pd_eq hr.units (pd_v 4) (pd_sub (pd_callB call_len oc_len T.n_len (by decide +kernel) (pda_cons (pd_v 0) pda_nil)) pd_int)))) pda_nil)))) sc_parts_many.nd)
  (pdss_cons (pds_if (pdw_pt (pdw_or (pdt_isN (pd_v 6) pd_non) (pdw_or1 (pdt_gt (pd_add (pd_v 3) (pd_v 6)) (pd_gI T.g_MOST_PARTS)))))
  (pdss_one (pds_ret pd_non))
  pdss_nil)
  (pdss_one (pds_set (i := 3) (pd_add (pd_v 3) (pd_v 6)) sc_parts_many.nd)))))
  (pdss_one (pds_ret (pd_v 3)))))), ?_⟩)
  intro ss kk xx hl h _
  unfold c_parts_many at h
  dsimp only at h
  split at h
  · refine ⟨rfl, rfl, ?_⟩
    exact h
  · exact h.elim
def c_parts_text : Ctr where
  n := 1
  f := fun ss k _ => match ss with
    | [.d (.tup [])] => k (.d (.str ""))
    | _ => False
  mono := fun {ss k k' x x'} hk _ h => by
    split at h
    · exact hk _ h
    · exact h.elim
theorem ok_parts_text (T : Txt P K mg a) : FnOk P w K mg base (L2.CX P w) 2 a.f_parts_text a.d_parts_text ["parts"] (c_parts_text.sp K) := by
  refine fn_ok c_parts_text T.f_parts_text.F sc_parts_text rfl (fun cdv A outer s H E xw hr po => ⟨_, _, (pdss_one (pds_ret (pd_join pd_str (pd_lc (i := 1) rfl sc_parts_text.nd (pdi_seq (pd_v 0)) (blkOk_by (N := ["parts", "part"]) (sc := defScope s_parts_text) (own := [("part", 1)]) (by decide +kernel)) (fun _ _ _ _ _ => pg_name (i := 1) sc_parts_text.nd rfl (Or.inl rfl)) (fun _ _ _ _ _ => pdts_nil) (fun _ _ _ _ _ => (pd_callX (ok_part_text T) (hr.mono (by decide)) T.f_part_text.m T.f_part_text.F.kp T.f_part_text.b (pda_cons (pd_v 1) pda_nil))))))), ?_⟩)
  intro ss kk xx hl h _
  unfold c_parts_text at h
  dsimp only at h
  split at h
  · exact ⟨len_ok rfl, by decide, h⟩
  · exact h.elim
def rowE : List (Str × D) := [("parts", .tup []), ("size", .int 0), ("text", .str "")]
def c_Row : CtrI where
  n := 1
  f := fun ss k xx => match ss with
    | [.d (.tup [])] => k rowE
    | _ => False
  mono := fun {ss k k' x x'} hk hx h => by
    split at h
    · exact hk _ h
    · exact h.elim
theorem ok_Row___init__ (T : Txt P K mg a) : FnOk P w K mg base (L2.CX P w) 4 a.m_Row___init__ a.e_Row___init__ ["self", "parts"] (c_Row.sp K a.C_Row) := by
  refine fn_init c_Row T.m_Row___init__.F sc_Row___init__ rfl (fun cdv A outer s H E xw hr po => ⟨_, _, (pdss_cons (pds_if (pdw_pt (pdw_or (pdt_not (pdt_val (pd_is2 .list .tuple (pd_v 1) T.n_isinstance T.n_list T.n_tuple (by decide +kernel) (by decide +kernel)))) (pdw_or1 (pdt_isN (pd_call (ok_parts_many T) (hr.mono (by decide)) T.f_parts_many.m T.f_parts_many.F.kp T.f_parts_many.b (pda_cons (pd_callTy call_tuple_of oc_tupOf T.n_tuple (by decide +kernel) (pda_cons (pd_v 1) pda_nil)) (pda_cons pd_int (pda_cons pd_bl pda_nil)))) pd_non))))
  (pdss_one (pds_raise rfl T.room T.c_BadRow hr (pda_cons (pd_v 1) pda_nil)))
  pdss_nil)
  (pdss_cons (pds_fld (i := 0) T.k_Row.cl T.na_Row_parts (pd_callTy call_tuple_of oc_tupOf T.n_tuple (by decide +kernel) (pda_cons (pd_v 1) pda_nil)))
  (pdss_cons (pds_fld (i := 0) T.k_Row.cl T.na_Row_size (pd_call (ok_parts_many T) (hr.mono (by decide)) T.f_parts_many.m T.f_parts_many.F.kp T.f_parts_many.b (pda_cons (pd_fld T.k_Row.cl T.na_Row_parts (pd_v 0)) (pda_cons pd_int (pda_cons pd_bl pda_nil)))))
  (pdss_one (pds_fld (i := 0) T.k_Row.cl T.na_Row_text (pd_callX (ok_parts_text T) (hr.mono (by decide)) T.f_parts_text.m T.f_parts_text.F.kp T.f_parts_text.b (pda_cons (pd_fld T.k_Row.cl T.na_Row_parts (pd_v 0)) pda_nil))))))), ?_⟩)
  intro ss kk xx hl h ew
  unfold c_Row at h
  dsimp only at h
  split at h
  · refine ⟨rfl, rfl, ?_⟩
    refine ⟨rfl, (by decide), rfl, _, rfl, rfl, ?_⟩
    exact ⟨rfl, (by show 1 < 1000; decide), rfl, _, rfl, rfl, rfl, (by show 2 < 1000; decide), _, rfl, h⟩
  · exact h.elim
/-! ### a net of nothing -/
theorem put_new {acc : List (Key × D)} {k : Key} {v : D} (h : k ∉ acc.map fun p => p.1) : putKD acc k v = acc ++ [(k, v)] := by
  unfold putKD
  rw [if_neg]
  intro e
  obtain ⟨p, m, q⟩ := List.any_eq_true.mp e
  exact h (List.mem_map.mpr ⟨p, m, of_decide_eq_true q⟩)
theorem dcG_map {f : D → Gm → Option Gm} {ek ev : DE} {Γ : Gm} {α : Type} {g : α → D} {kf : α → Key} {vf : α → D} : ∀ (l : List α) (acc : List (Key × D)) (k : List (Key × D) → Prop), (∀ x ∈ l, ∃ Γ', f (g x) Γ = some Γ' ∧ (∀ k' : DK, k' (.d (keyD (kf x))) → ek Γ' k') ∧ ∀ k' : DK, k' (.d (vf x)) → ev Γ' k') →
    (l.map kf).Nodup → (∀ x ∈ l, kf x ∉ acc.map fun p => p.1) → k (acc ++ l.map fun x => (kf x, vf x)) → dcG f dYes ek ev Γ (l.map g) acc k
  | [], acc, k, _, _, _, h => by simpa [dcG] using h
  | x :: r, acc, k, hs, nd, off, h => by
    obtain ⟨Γ', e1, e2, e3⟩ := hs x List.mem_cons_self
    rw [List.map_cons, dcG, e1]
    rw [List.map_cons] at nd
    have ndc := List.nodup_cons.mp nd
    refine e2 _ (e3 _ ⟨kf x, rfl, ?_⟩)
    rw [put_new (off x List.mem_cons_self)]
    refine dcG_map r _ k (fun y m => hs y (List.mem_cons_of_mem _ m)) ndc.2 (fun y m q => ?_) (by simpa using h)
    rw [List.map_append, List.mem_append] at q
    rcases q with q | q
    · exact off y (List.mem_cons_of_mem _ m) q
    · have q' : kf y = kf x := by simpa using q
      exact ndc.1 (List.mem_map.mpr ⟨y, m, q'⟩)
theorem lcG_map {f : D → Gm → Option Gm} {e : DE} {Γ : Gm} {α : Type} {g : α → D} {h : α → D} : ∀ (l : List α) (k : List D → Prop), (∀ x ∈ l, ∃ Γ', f (g x) Γ = some Γ' ∧ ∀ k' : DK, k' (.d (h x)) → e Γ' k') → k (l.map h) → lcG f dYes e Γ (l.map g) k
  | [], k, _, q => q
  | x :: r, k, hs, q => by
    obtain ⟨Γ', e1, e2⟩ := hs x List.mem_cons_self
    rw [List.map_cons, lcG, e1]
    exact e2 _ (lcG_map r _ (fun y m => hs y (List.mem_cons_of_mem _ m)) q)

theorem word_low {z : Str} (h : isWordS z = true) : low z ∧ z.length ≤ 8 := by
  unfold isWordS at h
  rw [Bool.and_eq_true, Bool.and_eq_true, decide_eq_true_eq, decide_eq_true_eq] at h
  refine ⟨fun c hc => ?_, by omega⟩
  have e : letter c = true := List.all_eq_true.mp h.2 c hc
  have q : c ∈ (Str.ofString "abcdefghijklmnopqrstuvwxyz").cps.toList := of_decide_eq_true e
  have w : ∀ d ∈ (Str.ofString "abcdefghijklmnopqrstuvwxyz").cps.toList, d < 128 := by decide +kernel
  exact w c q
abbrev rowO (a : Ad) : D := .obj a.C_Row rowE
def progs (a : Ad) : List (Key × D) := [(.inr "ann", rowO a), (.inr "bob", rowO a)]
def netF (a : Ad) : List (Str × D) := [("programs", .dic (progs a)), ("senders", .dic []), ("takers", .dic []), ("first_ones", .dic []), ("homes", .dic []), ("tale", .tup [.dic (progs a), .dic [], .dic []])]
theorem e_word {e : DE} {z : Str} {Γ : Gm} {k : DK} (wz : isWordS z = true) (g : ∀ k : DK, k (.d (.str z)) → e Γ k) (hk : k (.d (.bl true))) : dCall c_is_word xw0 (dCons e dNil) Γ k := g _ ⟨rfl, rfl, fun y e => by
  cases e
  exact Nat.le_trans (word_low wz).2 (by decide), by
  show k (.d (.bl (isWordS z)))
  rw [wz]
  exact hk⟩
theorem prog_at {p : Key × D} (m : p ∈ progs a) : ∃ z, p = (.inr z, rowO a) ∧ isWordS z = true := by
  simp only [progs, List.mem_cons, List.not_mem_nil, or_false] at m
  rcases m with rfl | rfl
  · exact ⟨_, rfl, by decide +kernel⟩
  · exact ⟨_, rfl, by decide +kernel⟩
def c_are_programs (a : Ad) : Ctr where
  n := 1
  f := fun ss k _ => match ss with
    | [.d (.dic ds)] => ds = progs a ∧ k (.d (.bl true))
    | _ => False
  mono := fun {ss k k' x x'} hk hx h => by
    split at h
    · exact ⟨h.1, hk _ h.2⟩
    · exact h.elim
theorem ok_are_programs (T : Txt P K mg a) : FnOk P w K mg base (L2.CX P w) 3 a.f_are_programs a.d_are_programs ["thing"] ((c_are_programs a).sp K) := by
  refine fn_ok (c_are_programs a) T.f_are_programs.F sc_are_programs rfl (fun cdv A outer s H E xw hr po => ⟨_, _, (pdss_cons (pds_if (pdw_pt (pdw_or (pdt_not (pdt_val (pd_callB call_isi (oc_is .dict) T.n_isinstance (by decide +kernel) (pda_cons (pd_v 0) (pda_cons (pd_ty (T := "dict") T.n_dict (by decide +kernel)) pda_nil))))) (pdw_or1 (pdt_not (pdt_chLeLe pd_int (pd_callB call_lenA oc_lenA T.n_len (by decide +kernel) (pda_cons (pd_v 0) pda_nil)) (pd_gI T.g_MOST_PROCESSES))))))
  (pdss_one (pds_ret pd_bl))
  pdss_nil)
  (pdss_one (pds_ret (pd_callB (cr_all rfl) oc_all T.n_all (by decide +kernel) (pda_cons (pd_lcT (i := 1) (j := 2) (by decide) rfl sc_are_programs.nd (pdi_items (pd_v 0)) (blkOk_by (N := ["thing", "name", "row"]) (sc := defScope s_are_programs) (own := [("name", 1), ("row", 2)]) (by decide +kernel)) (fun _ _ _ _ _ => pg_tup rfl (pgs_cons (pg_name (i := 1) sc_are_programs.nd rfl (Or.inl rfl)) (pgs_cons (pg_name (i := 2) sc_are_programs.nd rfl (Or.inl rfl)) pgs_nil))) (fun _ _ _ _ _ => pdts_nil) (fun _ _ _ _ _ => (pd_and (pd_call (ok_is_word T) (hr.mono (by decide)) T.f_is_word.m T.f_is_word.F.kp T.f_is_word.b (pda_cons (pd_v 1) pda_nil)) (pd_one (pd_callB (call_isOwn T.k_Row.is) (oc_isC T.k_Row.is) T.n_isinstance (by decide +kernel) (pda_cons (pd_v 2) (pda_cons (pd_cls T.k_Row.gC) pda_nil))))))) pda_nil))))), ?_⟩)
  intro ss kk xx hl h ew
  unfold c_are_programs at h
  dsimp only at h
  split at h
  · rename_i ds
    obtain ⟨rfl, h3⟩ := h
    refine s_if (b := false) (fun k hk => t_or (b := false) (c := false) (fun k hk => t_not (b := true) (fun k hk => t_b (b := true) (fun k hk => ⟨rfl, rfl, hk⟩) hk) hk) (fun _ k hk => t_not (b := true) (fun k hk => t_b (b := true) (fun k hk => chain_le2 (lo := 1) (i := 2) (hi := 8) (fun k hk => hk) (fun k hk => hk) (fun k hk => hk) hk) hk) hk) hk) (fun q => nomatch q) (fun _ => ?_)
    refine ⟨by show (2 : Nat) ≤ 100000; decide, lcG_map (f := fTwo 1 2) (Γ := [.d (.dic (progs a)), .any, .any]) (g := fun p : Key × D => D.tup [keyD p.1, p.2]) (h := fun _ => .bl true) (progs a) _ (fun p m => ⟨[.d (.dic (progs a)), .d (keyD p.1), .d p.2], rfl, fun k' hk' => ?_⟩) h3⟩
    obtain ⟨z, rfl, wz⟩ := prog_at m
    refine e_andV (b := true) (c := true) (fun k hk => e_word wz (fun k hk => hk) hk) (fun _ k hk => ⟨rfl, rfl, ?_⟩) hk'
    rw [show isC a.C_Row (rowO a) = true from decide_eq_true rfl]
    exact hk
  · exact h.elim
abbrev c_inner_parts : Ctr := cNo2 1
theorem ok_inner_parts (T : Txt P K mg a) : FnOk P w K mg base (L2.CX P w) 1 a.f_inner_parts a.d_inner_parts ["part"] (c_inner_parts.sp K) := no_sp2
def c_ends_in : Ctr where
  n := 2
  f := fun ss k _ => match ss with
    | [.d (.tup []), .d (.str _)] => k (.d (.dic []))
    | _ => False
  mono := fun {ss k k' x x'} hk hx h => by
    split at h
    · exact hk _ h
    · exact h.elim
theorem ok_ends_in (T : Txt P K mg a) : FnOk P w K mg base (L2.CX P w) 3 a.f_ends_in a.d_ends_in ["parts", "word"] (c_ends_in.sp K) := by
  have ih : FnOk P w K mg base (L2.CX P w) 1 a.f_ends_in a.d_ends_in ["parts", "word"] ((cNo2 2).sp K) := no_sp2
  refine fn_ok c_ends_in T.f_ends_in.F sc_ends_in rfl (fun cdv A outer s H E xw hr po => ⟨_, _, (pdss_ownD (i := 2) (k := 0) sc_ends_in.nd
  (pdss_cons (pds_for po rfl (pdi_seq (pd_v 0)) (pdg_name (i := 3) sc_ends_in.nd)
  (pdss_cons (pds_if (pdt_eq hr.units (pd_ix (pd_v 3) pd_int) (pd_v 1))
  (pdss_one (pds_putK (i := 2) (hu_of hr) (pd_ix (pd_v 3) pd_int) (pd_callB (call_max2 rfl) oc_I2 T.n_max (by decide +kernel) (pda_cons (pd_get2 (hu_of hr) (pd_v 2) (pd_ix (pd_v 3) pd_int) pd_int) (pda_cons (pd_ix (pd_v 3) pd_int) pda_nil)))))
  pdss_nil)
  (pdss_one (pds_for po rfl (pdi_items (pd_call ih (hr.mono (by omega)) T.f_ends_in.m T.f_ends_in.F.kp T.f_ends_in.b (pda_cons (pd_call (ok_inner_parts T) (hr.mono (by omega)) T.f_inner_parts.m T.f_inner_parts.F.kp T.f_inner_parts.b (pda_cons (pd_v 3) pda_nil)) (pda_cons (pd_v 1) pda_nil)))) (pdg_tup rfl (pdgs_cons (pdg_name (i := 4) sc_ends_in.nd) (pdgs_cons (pdg_name (i := 5) sc_ends_in.nd) pdgs_nil)))
  (pdss_one (pds_putK (i := 2) (hu_of hr) (pd_v 4) (pd_callB (call_max2 rfl) oc_I2 T.n_max (by decide +kernel) (pda_cons (pd_get2 (hu_of hr) (pd_v 2) (pd_v 4) pd_int) (pda_cons (pd_v 5) pda_nil)))))))))
  (pdss_one (pds_retD (i := 2))))), ?_⟩)
  intro ss kk xx hl h ew
  unfold c_ends_in at h
  dsimp only at h
  split at h
  · exact h
  · exact h.elim
def c_ends_of (a : Ad) : Ctr where
  n := 2
  f := fun ss k _ => match ss with
    | [.d (.dic ds), .d (.str _)] => ds = progs a ∧ k (.d (.dic []))
    | _ => False
  mono := fun {ss k k' x x'} hk hx h => by
    split at h
    · exact ⟨h.1, hk _ h.2⟩
    · exact h.elim
theorem ok_ends_of_channels (T : Txt P K mg a) : FnOk P w K mg base (L2.CX P w) 4 a.f_ends_of_channels a.d_ends_of_channels ["programs", "word"] ((c_ends_of a).sp K) := by
  refine fn_ok (c_ends_of a) T.f_ends_of_channels.F sc_ends_of_channels rfl (fun cdv A outer s H E xw hr po => ⟨_, _, (pdss_ownD (i := 2) (k := 0) sc_ends_of_channels.nd
  (pdss_cons (pds_for po rfl (pdi_seq (pd_callB (CallR.or (call_sortedD rfl) cr_sortedS) oc_sortE T.n_sorted (by decide +kernel) (pda_cons (pd_v 0) pda_nil))) (pdg_name (i := 3) sc_ends_of_channels.nd)
  (pdss_one (pds_for po rfl (pdi_keys (pd_call (ok_ends_in T) (hr.mono (by decide)) T.f_ends_in.m T.f_ends_in.F.kp T.f_ends_in.b (pda_cons (pd_fld T.k_Row.cl T.na_Row_parts (pd_ixK (hu_of hr) (pd_v 0) (pd_v 3))) (pda_cons (pd_v 1) pda_nil)))) (pdg_name (i := 4) sc_ends_of_channels.nd)
  (pdss_cons (pds_if (pdt_inK (hu_of hr) (pd_v 4) (pd_v 2))
  (pdss_one (pds_retR pd_non))
  pdss_nil)
  (pdss_one (pds_putK (i := 2) (hu_of hr) (pd_v 4) (pd_v 3)))))))
  (pdss_one (pds_retD (i := 2))))), ?_⟩)
  intro ss kk xx hl h ew
  unfold c_ends_of at h
  dsimp only at h
  split at h
  · rename_i ds w
    obtain ⟨rfl, h3⟩ := h
    have sab : srt [("ann" : Str), "bob"] = [("ann" : Str), "bob"] := by decide +kernel
    refine ⟨["ann", "bob"], rfl, by decide, ?_⟩
    rw [sab]
    refine ⟨progs a, .inr "ann", rowO a, rfl, rfl, rfl, rfl, _, rfl, rfl, ?_⟩
    refine ⟨progs a, .inr "bob", rowO a, rfl, rfl, rfl, rfl, _, rfl, rfl, ?_⟩
    exact h3
  · exact h.elim
def c_channels_in_parts : Ctr where
  n := 1
  f := fun ss k _ => match ss with
    | [.d (.tup [])] => k (.d (.lst []))
    | _ => False
  mono := fun {ss k k' x x'} hk hx h => by
    split at h
    · exact hk _ h
    · exact h.elim
theorem ok_channels_in_parts (T : Txt P K mg a) : FnOk P w K mg base (L2.CX P w) 3 a.f_channels_in_parts a.d_channels_in_parts ["parts"] (c_channels_in_parts.sp K) := by
  have ih : FnOk P w K mg base (L2.CX P w) 1 a.f_channels_in_parts a.d_channels_in_parts ["parts"] ((cNo2 1).sp K) := no_sp2
  refine fn_ok c_channels_in_parts T.f_channels_in_parts.F sc_channels_in_parts rfl (fun cdv A outer s H E xw hr po => ⟨_, _, (pdss_own (i := 1) (k := 0) sc_channels_in_parts.nd
  (pdss_cons (pds_for po rfl (pdi_seq (pd_v 0)) (pdg_name (i := 2) sc_channels_in_parts.nd)
  (pdss_cons (pds_if (pdt_inQ (pd_ix (pd_v 2) pd_int) (pd_tup (pda_cons pd_str (pda_cons pd_str pda_nil))))
  (pdss_one (pds_app (i := 1) (pd_ix (pd_v 2) pd_int)))
  pdss_nil)
  (pdss_one (pds_ext (i := 1) (pd_call ih (hr.mono (by omega)) T.f_channels_in_parts.m T.f_channels_in_parts.F.kp T.f_channels_in_parts.b (pda_cons (pd_call (ok_inner_parts T) (hr.mono (by omega)) T.f_inner_parts.m T.f_inner_parts.F.kp T.f_inner_parts.b (pda_cons (pd_v 2) pda_nil)) pda_nil))))))
  (pdss_one (pds_retR (pd_v 1))))), ?_⟩)
  intro ss kk xx hl h ew
  unfold c_channels_in_parts at h
  dsimp only at h
  split at h
  · exact h
  · exact h.elim
def c_channels_of (a : Ad) : Ctr where
  n := 1
  f := fun ss k _ => match ss with
    | [.d (.obj C fs)] => C = a.C_Row ∧ fs = rowE ∧ k (.d (.lst []))
    | _ => False
  mono := fun {ss k k' x x'} hk hx h => by
    split at h
    · exact ⟨h.1, h.2.1, hk _ h.2.2⟩
    · exact h.elim
theorem ok_channels_of (T : Txt P K mg a) : FnOk P w K mg base (L2.CX P w) 8 a.f_channels_of a.d_channels_of ["row"] ((c_channels_of a).sp K) := by
  refine fn_okD (c_channels_of a) (FunD.of T.f_channels_of.F) sc_channels_of rfl (fun cdv A outer s H E xw hr po => ⟨_, _, (pdss_cons (pds_expr (pd_callX (ok_check_row T) (hr.mono (by decide)) T.f_check_row.m T.f_check_row.F.kp T.f_check_row.b (pda_cons (pd_v 0) pda_nil)))
  (pdss_one (pds_ret (pd_sortSet rfl (pd_call (ok_channels_in_parts T) (hr.mono (by decide)) T.f_channels_in_parts.m T.f_channels_in_parts.F.kp T.f_channels_in_parts.b (pda_cons (pd_fld T.k_Row.cl T.na_Row_parts (pd_v 0)) pda_nil)) T.n_sorted T.n_set)))), ?_⟩)
  intro ss kk xx hl h ew
  unfold c_channels_of at h
  dsimp only at h
  split at h
  · rename_i C fs
    obtain ⟨rfl, rfl, h3⟩ := h
    exact ⟨rfl, rfl, rfl, _, rfl, rfl, by decide, h3⟩
  · exact h.elim
abbrev c_are_first : Ctr := cNo2 2
theorem ok_are_first (T : Txt P K mg a) : FnOk P w K mg base (L2.CX P w) 1 a.f_are_first a.d_are_first ["thing", "channels"] (c_are_first.sp K) := no_sp2
abbrev c_are_stores : Ctr := cNo2 3
theorem ok_are_stores (T : Txt P K mg a) : FnOk P w K mg base (L2.CX P w) 1 a.f_are_stores a.d_are_stores ["thing", "channels", "senders"] (c_are_stores.sp K) := no_sp2
theorem s_setF {i kk : Nat} {Cl : Addr} {f : Str} {fs : List (Str × D)} {e : DE} {B : DS} {E : DEnds} {Γ : Gm} {x : D} (he : ∀ k : DK, k (.d x) → e Γ k) (ho : Γ[i]? = some (.own kk (.obj Cl fs))) (few : fs.length < 1000) (next : B E ((clr kk Γ).set i (.own kk (.obj Cl (putD f x fs))))) : dSeq (dSetF Cl i f e) B E Γ := he _ (by
  rw [ho]
  exact ⟨rfl, few, next⟩)
theorem s_setFZ {i kk : Nat} {Cl : Addr} {f : Str} {fs : List (Str × D)} {e : DE} {E : DEnds} {Γ : Gm} {x : D} (he : ∀ k : DK, k (.d x) → e Γ k) (ho : Γ[i]? = some (.own kk (.obj Cl fs))) (few : fs.length < 1000) (next : E.nx ((clr kk Γ).set i (.own kk (.obj Cl (putD f x fs))))) : dSetF Cl i f e E Γ := he _ (by
  rw [ho]
  exact ⟨rfl, few, next⟩)
theorem dc2k {i : Nat} {di : DI} {ev : DE} {Γ : Gm} {k : DK} {z1 z2 : Str} {v1 v2 : D} (hi : i < Γ.length) (ne : z1 ≠ z2) (hdi : ∀ k' : List D → Prop, k' [.str z1, .str z2] → di Γ k') (h1 : ∀ k' : DK, k' (.d v1) → ev (Γ.set i (.d (.str z1))) k') (h2 : ∀ k' : DK, k' (.d v2) → ev (Γ.set i (.d (.str z2))) k') (hk : k (.d (.dic [(.inr z1, v1), (.inr z2, v2)]))) :
    dDcG (fOne i) di dYes (dVar i) ev Γ k := by
  have v : ∀ (z : Str) (k2 : DK), k2 (.d (.str z)) → dVar i (Γ.set i (.d (.str z))) k2 := fun z k2 h => by
    unfold dVar
    rw [List.getElem?_set_self hi]
    exact h
  refine hdi _ ⟨by show (2 : Nat) ≤ 100000; decide, dcG_map (g := fun p : Str × D => D.str p.1) (kf := fun p => Sum.inr p.1) (vf := fun p => p.2) [(z1, v1), (z2, v2)] [] _ (fun p m => ⟨_, rfl, fun k' hk' => v _ _ hk', fun k' hk' => ?_⟩) ?_ (fun p m q => by simp at q) hk⟩
  · simp only [List.mem_cons, List.not_mem_nil, or_false] at m
    rcases m with rfl | rfl
    · exact h1 _ hk'
    · exact h2 _ hk'
  · show ([Sum.inr z1, Sum.inr z2] : List Key).Nodup
    simp [ne]
def c_Net (a : Ad) : CtrI where
  n := 3
  f := fun ss k xx => match ss with
    | [.d (.dic ds), .d .non, .d .non] => ds = progs a ∧ k (netF a)
    | _ => False
  mono := fun {ss k k' x x'} hk hx h => by
    split at h
    · exact ⟨h.1, hk _ h.2⟩
    · exact h.elim
theorem ok_Net___init__ (T : Txt P K mg a) : FnOk P w K mg base (L2.CX P w) 9 a.m_Net___init__ a.e_Net___init__ ["self", "programs", "first", "stores"] ((c_Net a).sp K a.C_Net) := by
  refine fn_init (c_Net a) T.m_Net___init__.F sc_Net___init__ rfl (fun cdv A outer s H E xw hr po => ⟨_, _, (pdss_cons (pds_if (pdt_not (pdt_val (pd_call (ok_are_programs T) (hr.mono (by decide)) T.f_are_programs.m T.f_are_programs.F.kp T.f_are_programs.b (pda_cons (pd_v 1) pda_nil))))
  (pdss_one (pds_raise rfl T.room T.c_BadNet hr (pda_cons (pd_v 1) pda_nil)))
  pdss_nil)
  (pdss_cons (pds_asg (pd_tup (pda_cons (pd_call (ok_ends_of_channels T) (hr.mono (by decide)) T.f_ends_of_channels.m T.f_ends_of_channels.F.kp T.f_ends_of_channels.b (pda_cons (pd_v 1) (pda_cons pd_str pda_nil))) (pda_cons (pd_call (ok_ends_of_channels T) (hr.mono (by decide)) T.f_ends_of_channels.m T.f_ends_of_channels.F.kp T.f_ends_of_channels.b (pda_cons (pd_v 1) (pda_cons pd_str pda_nil))) pda_nil))) (pdg_tup rfl (pdgs_cons (pdg_name (i := 7) sc_Net___init__.nd) (pdgs_cons (pdg_name (i := 8) sc_Net___init__.nd) pdgs_nil))))
  (pdss_cons (pds_set (i := 4) (pd_sc2 (i := 9) (j := 10) (by decide) rfl sc_Net___init__.nd T.n_sorted (pdi_keys (pd_v 1)) (blkOk_by (N := ["self", "programs", "first", "stores", "channels", "groups", "shared", "senders", "takers", "name", "channel", "store", "group"]) (sc := defScope s_Net___init__) (own := [("name", 9), ("channel", 10)]) (by decide +kernel)) (fun _ _ _ _ _ => pg_name (i := 9) sc_Net___init__.nd rfl (Or.inl rfl)) (fun _ _ _ _ _ => (pdi_seq (pd_callX (ok_channels_of T) (hr.mono (by decide)) T.f_channels_of.m T.f_channels_of.F.kp T.f_channels_of.b (pda_cons (pd_ixK (hu_of hr) (pd_v 1) (pd_v 9)) pda_nil)))) (fun _ _ _ _ _ => pg_name (i := 10) sc_Net___init__.nd rfl (Or.inl rfl)) (fun _ _ _ _ _ => (pd_v 10))) sc_Net___init__.nd)
  (pdss_cons (pds_if (pdw_pt (pdw_or (pdt_isN (pd_v 7) pd_non) (pdw_or (pdt_isN (pd_v 8) pd_non) (pdw_or1 (pdt_gt (pd_callB call_len oc_len T.n_len (by decide +kernel) (pda_cons (pd_v 4) pda_nil)) (pd_gI T.g_MOST_CHANNELS))))))
  (pdss_one (pds_raise rfl T.room T.c_BadNet hr (pda_cons (pd_v 1) pda_nil)))
  pdss_nil)
  (pdss_cons (pds_if (pdt_not (pdt_val (pd_callB (cr_all rfl) oc_all T.n_all (by decide +kernel) (pda_cons (pd_lc (i := 10) rfl sc_Net___init__.nd (pdi_seq (pd_v 4)) (blkOk_by (N := ["self", "programs", "first", "stores", "channels", "groups", "shared", "senders", "takers", "name", "channel", "store", "group"]) (sc := defScope s_Net___init__) (own := [("channel", 10)]) (by decide +kernel)) (fun _ _ _ _ _ => pg_name (i := 10) sc_Net___init__.nd rfl (Or.inl rfl)) (fun _ _ _ _ _ => pdts_nil) (fun _ _ _ _ _ => (pd_ne hr.units (pd_get2 (hu_of hr) (pd_v 7) (pd_v 10) pd_str) (pd_get1 (hu_of hr) (pd_v 8) (pd_v 10))))) pda_nil))))
  (pdss_one (pds_raise rfl T.room T.c_BadNet hr (pda_cons (pd_v 1) pda_nil)))
  pdss_nil)
  (pdss_cons (pds_if (pdw_pt (pdw_and (pdt_notN (pd_v 2) pd_non) (pdw_and1 (pdt_not (pdt_val (pd_call (ok_are_first T) (hr.mono (by decide)) T.f_are_first.m T.f_are_first.F.kp T.f_are_first.b (pda_cons (pd_v 2) (pda_cons (pd_v 4) pda_nil))))))))
  (pdss_one (pds_raise rfl T.room T.c_BadNet hr (pda_cons (pd_v 2) pda_nil)))
  pdss_nil)
  (pdss_cons (pds_if (pdw_pt (pdw_and (pdt_notN (pd_v 3) pd_non) (pdw_and1 (pdt_not (pdt_val (pd_call (ok_are_stores T) (hr.mono (by decide)) T.f_are_stores.m T.f_are_stores.F.kp T.f_are_stores.b (pda_cons (pd_v 3) (pda_cons (pd_v 4) (pda_cons (pd_v 7) pda_nil)))))))))
  (pdss_one (pds_raise rfl T.room T.c_BadNet hr (pda_cons (pd_v 3) pda_nil)))
  pdss_nil)
  (pdss_cons (pds_fld (i := 0) T.k_Net.cl T.na_Net_programs (pd_dc1 (i := 9) rfl sc_Net___init__.nd (pdi_seq (pd_callB (CallR.or (call_sortedD rfl) cr_sortedS) oc_sortE T.n_sorted (by decide +kernel) (pda_cons (pd_v 1) pda_nil))) (blkOk_by (N := ["self", "programs", "first", "stores", "channels", "groups", "shared", "senders", "takers", "name", "channel", "store", "group"]) (sc := defScope s_Net___init__) (own := [("name", 9)]) (by decide +kernel)) (fun _ _ _ _ _ => pg_name (i := 9) sc_Net___init__.nd rfl (Or.inl rfl)) (fun _ _ _ _ _ => pdts_nil) (fun _ _ _ _ _ => (pd_v 9)) (fun _ _ _ _ _ => (pd_ixK (hu_of hr) (pd_v 1) (pd_v 9)))))
  (pdss_cons (pds_fld (i := 0) T.k_Net.cl T.na_Net_senders (pd_v 7))
  (pdss_cons (pds_fld (i := 0) T.k_Net.cl T.na_Net_takers (pd_v 8))
  (pdss_cons (pds_fld (i := 0) T.k_Net.cl T.na_Net_first_ones (pd_dc1 (i := 10) rfl sc_Net___init__.nd (pdi_seq (pd_v 4)) (blkOk_by (N := ["self", "programs", "first", "stores", "channels", "groups", "shared", "senders", "takers", "name", "channel", "store", "group"]) (sc := defScope s_Net___init__) (own := [("channel", 10)]) (by decide +kernel)) (fun _ _ _ _ _ => pg_name (i := 10) sc_Net___init__.nd rfl (Or.inl rfl)) (fun _ _ _ _ _ => pdts_nil) (fun _ _ _ _ _ => (pd_v 10)) (fun _ _ _ _ _ => (pd_ifExp (pdt_isN (pd_v 2) pd_non) pd_int (pd_get2 (hu_of hr) (pd_v 2) (pd_v 10) pd_int)))))
  (pdss_cons (pds_set (i := 5) (pd_ifExp (pdt_isN (pd_v 3) pd_non) pd_dic0 (pd_v 3)) sc_Net___init__.nd)
  (pdss_cons (pds_set (i := 6) (pd_dc2f (i := 11) (j := 12) (l := 10) (by decide) (by decide) (by decide) rfl sc_Net___init__.nd (pdi_items (pd_v 5)) (blkOk_by (N := ["self", "programs", "first", "stores", "channels", "groups", "shared", "senders", "takers", "name", "channel", "store", "group"]) (sc := defScope s_Net___init__) (own := [("store", 11), ("group", 12), ("channel", 10)]) (by decide +kernel)) (fun _ _ _ _ _ => pg_tup rfl (pgs_cons (pg_name (i := 11) sc_Net___init__.nd rfl (Or.inl rfl)) (pgs_cons (pg_name (i := 12) sc_Net___init__.nd rfl (Or.inl rfl)) pgs_nil))) (fun _ _ _ _ _ => (pdi_seq (pd_v 12))) (fun _ _ _ _ _ => (pg_name (i := 10) sc_Net___init__.nd rfl (Or.inl rfl))) (fun _ _ _ _ _ => (pd_v 10)) (fun _ _ _ _ _ => (pd_v 11))) sc_Net___init__.nd)
  (pdss_cons (pds_fld (i := 0) T.k_Net.cl T.na_Net_homes (pd_dc1 (i := 10) rfl sc_Net___init__.nd (pdi_seq (pd_v 4)) (blkOk_by (N := ["self", "programs", "first", "stores", "channels", "groups", "shared", "senders", "takers", "name", "channel", "store", "group"]) (sc := defScope s_Net___init__) (own := [("channel", 10)]) (by decide +kernel)) (fun _ _ _ _ _ => pg_name (i := 10) sc_Net___init__.nd rfl (Or.inl rfl)) (fun _ _ _ _ _ => pdts_nil) (fun _ _ _ _ _ => (pd_v 10)) (fun _ _ _ _ _ => (pd_get2 (hu_of hr) (pd_v 6) (pd_v 10) (pd_v 10)))))
  (pdss_one (pds_fld (i := 0) T.k_Net.cl T.na_Net_tale (pd_tup (pda_cons (pd_fld T.k_Net.cl T.na_Net_programs (pd_v 0)) (pda_cons (pd_fld T.k_Net.cl T.na_Net_first_ones (pd_v 0)) (pda_cons (pd_fld T.k_Net.cl T.na_Net_homes (pd_v 0)) pda_nil)))))))))))))))))))), ?_⟩)
  intro ss kk xx hl h ew
  unfold c_Net at h
  dsimp only at h
  split at h
  · rename_i ds
    obtain ⟨rfl, h3⟩ := h
    have sab : srt [("ann" : Str), "bob"] = [("ann" : Str), "bob"] := by decide +kernel
    refine s_if (b := false) (fun k hk => t_not (b := true) (fun k hk => t_b (b := true) (fun k hk => ⟨rfl, rfl, hk⟩) hk) hk) (fun q => nomatch q) (fun _ => ?_)
    refine ⟨rfl, rfl, rfl, rfl, len_ok rfl, rfl, ?_⟩
    show ((dSeq (dAsg 4 (dSc2 9 10 (diKeys (dVar 1)) (diSeq (dCall (c_channels_of a) xw0 (dCons (dOp gIxK (dVar 1) (dVar 9)) dNil))) (dVar 10))) (dSeq (dIfS (dOr (dB (dOp gIsN (dVar 7) (dC .non))) (dOr (dB (dOp gIsN (dVar 8) (dC .non))) (dB (dOp (gI0 fun i j => .bl (decide (j < i))) (dCB gLen (dCons (dVar 4) dNil)) (dC (.int 12)))))) (dRaise a.C_BadNet xw (dCons (dVar 1) dNil)) dNext) (dSeq (dIfS (dNot (dB (dCB gAll (dCons (dLc 10 (diSeq (dVar 4)) dYes (dOp gNe (dGet2 (dVar 7) (dVar 10) (dC (.str ""))) (dGet1 (dVar 8) (dVar 10)))) dNil)))) (dRaise a.C_BadNet xw (dCons (dVar 1) dNil)) dNext) (dSeq (dIfS (dAnd (dB (dOp gNotN (dVar 2) (dC .non))) (dNot (dB (dCall c_are_first xw0 (dCons (dVar 2) (dCons (dVar 4) dNil)))))) (dRaise a.C_BadNet xw (dCons (dVar 2) dNil)) dNext) (dSeq (dIfS (dAnd (dB (dOp gNotN (dVar 3) (dC .non))) (dNot (dB (dCall c_are_stores xw0 (dCons (dVar 3) (dCons (dVar 4) (dCons (dVar 7) dNil))))))) (dRaise a.C_BadNet xw (dCons (dVar 3) dNil)) dNext) (dSeq (dSetF a.C_Net 0 "programs" (dDcG (fOne 9) (diSeq (dCB gSortE (dCons (dVar 1) dNil))) dYes (dVar 9) (dOp gIxK (dVar 1) (dVar 9)))) (dSeq (dSetF a.C_Net 0 "senders" (dVar 7)) (dSeq (dSetF a.C_Net 0 "takers" (dVar 8)) (dSeq (dSetF a.C_Net 0 "first_ones" (dDcG (fOne 10) (diSeq (dVar 4)) dYes (dVar 10) (dIf (dB (dOp gIsN (dVar 2) (dC .non))) (dC (.int 0)) (dGet2 (dVar 2) (dVar 10) (dC (.int 0)))))) (dSeq (dAsg 5 (dIf (dB (dOp gIsN (dVar 3) (dC .non))) dDic0 (dVar 3))) (dSeq (dAsg 6 (dDc2f (fTwo 11 12) 10 (diItems (dVar 5)) (diSeq (dVar 12)) (dVar 10) (dVar 11))) (dSeq (dSetF a.C_Net 0 "homes" (dDcG (fOne 10) (diSeq (dVar 4)) dYes (dVar 10) (dGet2 (dVar 6) (dVar 10) (dVar 10)))) (dSetF a.C_Net 0 "tale" (dTup (dCons (dFld a.C_Net "programs" (dVar 0)) (dCons (dFld a.C_Net "first_ones" (dVar 0)) (dCons (dFld a.C_Net "homes" (dVar 0)) dNil))))))))))))))))) : DS) _ [.own 0 (.obj a.C_Net []), .d (.dic (progs a)), .d .non, .d .non, .any, .any, .any, .d (.dic []), .d (.dic []), .any, .any, .any, .any]
    refine s_asg (x := .d (.lst [])) (fun k hk => ?_) ?_
    · show scG 9 10 (diSeq (dCall (c_channels_of a) xw0 (dCons (dOp gIxK (dVar 1) (dVar 9)) dNil))) (dVar 10) [.own 0 (.obj a.C_Net []), .d (.dic (progs a)), .d .non, .d .non, .any, .any, .any, .d (.dic []), .d (.dic []), .any, .any, .any, .any] [.str "ann", .str "bob"] [] _
      refine ⟨progs a, .inr "ann", rowO a, rfl, rfl, rfl, rfl, rfl, rfl, ?_⟩
      refine ⟨progs a, .inr "bob", rowO a, rfl, rfl, rfl, rfl, rfl, rfl, ?_⟩
      exact ⟨by decide, hk⟩
    refine s_if (b := false) (fun k hk => t_or (b := false) (c := false) (fun k hk => t_b (b := false) (fun k hk => hk) hk) (fun _ k hk => t_or (b := false) (c := false) (fun k hk => t_b (b := false) (fun k hk => hk) hk) (fun _ k hk => t_b (b := false) (fun k hk => hk) hk) hk) hk) (fun q => nomatch q) (fun _ => ?_)
    refine s_if (b := false) (fun k hk => t_not (b := true) (fun k hk => t_b (b := true) (fun k hk => ⟨by decide, hk⟩) hk) hk) (fun q => nomatch q) (fun _ => ?_)
    refine s_if (b := false) (fun k hk => t_and (b := false) (c := false) (fun k hk => t_b (b := false) (fun k hk => hk) hk) (fun q => nomatch q) hk) (fun q => nomatch q) (fun _ => ?_)
    refine s_if (b := false) (fun k hk => t_and (b := false) (c := false) (fun k hk => t_b (b := false) (fun k hk => hk) hk) (fun q => nomatch q) hk) (fun q => nomatch q) (fun _ => ?_)
    refine s_setF (x := .dic (progs a)) (fun k hk => dc2k (z1 := "ann") (z2 := "bob") (v1 := rowO a) (v2 := rowO a) (show 9 < 13 by decide) (by decide) (fun k' hk' => ⟨["ann", "bob"], rfl, by decide, by rw [sab]; exact hk'⟩) (fun k' hk' => ⟨progs a, .inr "ann", rowO a, rfl, rfl, rfl, hk'⟩) (fun k' hk' => ⟨progs a, .inr "bob", rowO a, rfl, rfl, rfl, hk'⟩) hk) rfl (by decide) ?_
    refine s_setF (x := .dic []) (fun k hk => hk) rfl (show 1 < 1000 by decide) ?_
    refine s_setF (x := .dic []) (fun k hk => hk) rfl (show 2 < 1000 by decide) ?_
    refine s_setF (x := .dic []) (fun k hk => ⟨by decide, hk⟩) rfl (show 3 < 1000 by decide) ?_
    refine s_asg (x := .d (.dic [])) (fun k hk => e_if (b := true) (fun k hk => t_b (b := true) (fun k hk => hk) hk) (fun _ => hk) (fun q => nomatch q)) ?_
    refine s_asg (x := .d (.dic [])) (fun k hk => hk) ?_
    refine s_setF (x := .dic []) (fun k hk => ⟨by decide, hk⟩) rfl (show 4 < 1000 by decide) ?_
    refine s_setFZ (x := .tup [.dic (progs a), .dic [], .dic []]) (fun k hk => ⟨rfl, _, rfl, rfl, _, rfl, rfl, _, rfl, len_ok rfl, hk⟩) rfl (show 5 < 1000 by decide) ?_
    exact ⟨_, rfl, h3⟩
  · exact h.elim
def c_check_net (a : Ad) : Ctr where
  n := 1
  f := fun ss k _ => match ss with
    | [.d (.obj C fs)] => C = a.C_Net ∧ k (.d .non)
    | _ => False
  mono := fun {ss k k' x x'} hk hx h => by
    split at h
    · exact ⟨h.1, hk _ h.2⟩
    · exact h.elim
theorem ok_check_net (T : Txt P K mg a) : FnOk P w K mg base (L2.CX P w) 1 a.f_check_net a.d_check_net ["net"] ((c_check_net a).sp K) := by
  refine fn_okD (c_check_net a) (FunD.of T.f_check_net.F) sc_check_net rfl (fun cdv A outer s H E xw hr po => ⟨_, _, (pdss_one (pds_if (pdt_not (pdt_val (pd_callB (call_isOwn T.k_Net.is) (oc_isC T.k_Net.is) T.n_isinstance (by decide +kernel) (pda_cons (pd_v 0) (pda_cons (pd_cls T.k_Net.gC) pda_nil)))))
  (pdss_one (pds_raise rfl T.room T.c_BadNet hr (pda_cons (pd_v 0) pda_nil)))
  pdss_nil)), ?_⟩)
  intro ss kk xx hl h ew
  unfold c_check_net at h
  dsimp only at h
  split at h
  · rename_i C fs
    obtain ⟨rfl, h3⟩ := h
    refine s_ifZ (b := false) (fun k hk => t_not (b := true) (fun k hk => t_b (b := true) (fun k hk => ⟨rfl, rfl, ?_⟩) hk) hk) (fun q => nomatch q) (fun _ => h3)
    rw [show isC a.C_Net (.obj a.C_Net fs) = true from decide_eq_true rfl]
    exact hk
  · exact h.elim
-- SPLIT
/-! ### marks, lines -/
def lay (d : D) (n : Nat) : Prop := (toPy d).canLay0 = true ∧ (toPy d).depth ≤ n
def layA (ds : List D) (n : Nat) : Prop := PyData.canLayAll0 (toPys ds) = true ∧ PyData.depthAll (toPys ds) ≤ n
theorem layA_nil {n : Nat} : layA [] n := ⟨rfl, Nat.zero_le _⟩
theorem layA_cons {d : D} {r : List D} {n : Nat} (h : lay d n) (h' : layA r n) : layA (d :: r) n := by
  refine ⟨?_, ?_⟩
  · simp [toPys, PyData.canLayAll0, h.1, h'.1]
  · simp only [toPys, PyData.depthAll]
    have a1 := h.2
    have a2 := h'.2
    omega
theorem layA_of {n : Nat} : ∀ {ds : List D}, (∀ d ∈ ds, lay d n) → layA ds n
  | [], _ => layA_nil
  | d :: r, h => layA_cons (h d (List.mem_cons_self ..)) (layA_of fun x hx => h x (List.mem_cons_of_mem _ hx))
theorem lay_tup {ds : List D} {n : Nat} (h : layA ds n) : lay (.tup ds) (n + 1) := by
  refine ⟨by simp [toPy, PyData.canLay0, h.1], ?_⟩
  simp only [toPy, PyData.depth]
  have := h.2
  omega
theorem lay_lst {ds : List D} {n : Nat} (h : layA ds n) : lay (.lst ds) (n + 1) := by
  refine ⟨by simp [toPy, PyData.canLay0, h.1], ?_⟩
  simp only [toPy, PyData.depth]
  have := h.2
  omega
theorem lay_ok {d : D} {n : Nat} (h : lay d n) (l : n ≤ 64) : okD d = true := by
  unfold okD SeqAt.shaped
  rw [h.1, decide_eq_true (Nat.le_trans h.2 l)]
  rfl
theorem lay_int (i : Int) (n : Nat) : lay (.int i) n := ⟨by simp [toPy, PyData.canLay0], by simp [toPy, PyData.depth]⟩
theorem lay_bl (b : Bool) (n : Nat) : lay (.bl b) n := ⟨by simp [toPy, PyData.canLay0], by simp [toPy, PyData.depth]⟩
theorem lay_non (n : Nat) : lay .non n := ⟨by simp [toPy, PyData.canLay0], by simp [toPy, PyData.depth]⟩
theorem lay_str {x : Str} (h : low x) (n : Nat) : lay (.str x) n := ⟨SeqAt.canLay_of_shaped (ok_low h), by simp [toPy, PyData.depth]⟩
def oD : Option Nat → D
  | none => .non
  | some i => .int i
def hdOk (x : D) : Prop := isObj x = false ∧ ∀ s, x = .str s → low s
def mkd (w : Str) (n : Nat) : D → Bool
  | .tup (.str s :: r) => decide (r.length + 1 = n) && decide (s = w)
  | _ => false
def headsOk (x : D) : Prop := ∀ y r, x = .tup (y :: r) → hdOk y
theorem at0 {y : D} {r : List D} : atI (y :: r) 0 = some y := atI_nat (xs := y :: r) (j := 0) rfl
theorem e_ixN {e : DE} {xs : List D} {y : D} {i : Int} {j : Nat} {Γ : Gm} {k : DK} (hi : i = (j : Int)) (hy : xs[j]? = some y) (he : ∀ k : DK, k (.d (.tup xs)) → e Γ k) (hk : k (.d y)) : dOp gIx e (dC (.int i)) Γ k := he _ (by
  show (match atI xs i with
    | some x => k (.d x)
    | none => False)
  rw [hi, atI_nat hy]
  exact hk)
theorem e_is {T : Ty} {e : DE} {y : D} {Γ : Gm} {k : DK} (he : ∀ k : DK, k (.d y) → e Γ k) (ho : isObj y = false) (hk : k (.d (.bl (isTy T y)))) : dCB (gIs T) (dCons e (dCons (dR (.ty T.nm)) dNil)) Γ k := he _ ⟨rfl, ho, hk⟩
theorem e_eqD {e f : DE} {x y : D} {Γ : Gm} {k : DK} (he : ∀ k : DK, k (.d x) → e Γ k) (hf : ∀ k : DK, k (.d y) → f Γ k) (ox : okD x = true) (oy : okD y = true) (hk : k (.d (.bl (deq x y)))) : dOp gEq e f Γ k := he _ (hf _ ⟨ox, oy, hk⟩)
theorem s_ret {e : DE} {E : DEnds} {Γ : Gm} {x : D} (he : ∀ k : DK, k (.d x) → e Γ k) (h : E.rt (.d x)) : dRet e E Γ := he _ h
def c_is_marked : Ctr where
  n := 3
  f := fun ss k _ => match ss with
    | [.d x, .d (.str w), .d (.int n)] => 1 ≤ n ∧ low w ∧ isObj x = false ∧ headsOk x ∧ k (.d (.bl (mkd w n.toNat x)))
    | _ => False
  mono := fun {ss k k' x x'} hk _ h => by
    split at h
    · exact ⟨h.1, h.2.1, h.2.2.1, h.2.2.2.1, hk _ h.2.2.2.2⟩
    · exact h.elim
theorem ok_is_marked (T : Txt P K mg a) : FnOk P w K mg base (L2.CX P w) 1 a.f_is_marked a.d_is_marked ["thing", "word", "size"] (c_is_marked.sp K) := by
  refine fn_ok c_is_marked T.f_is_marked.F sc_is_marked rfl (fun cdv A outer s H E xw hr po => ⟨_, _, (pdss_cons (pds_if (pdw_pt (pdw_or (pdt_not (pdt_val (pd_callB call_isi (oc_is .tuple) T.n_isinstance (by decide +kernel) (pda_cons (pd_v 0) (pda_cons (pd_ty (T := "tuple") T.n_tuple (by decide +kernel)) pda_nil))))) (pdw_or1 (pdt_ne hr.units (pd_callB call_len oc_len T.n_len (by decide +kernel) (pda_cons (pd_v 0) pda_nil)) (pd_v 2)))))
  (pdss_one (pds_ret pd_bl))
  pdss_nil)
  (pdss_one (pds_ret (pd_and (pd_callB call_isi (oc_is .str) T.n_isinstance (by decide +kernel) (pda_cons (pd_ix (pd_v 0) pd_int) (pda_cons (pd_ty (T := "str") T.n_str (by decide +kernel)) pda_nil))) (pd_one (pd_eq hr.units (pd_ix (pd_v 0) pd_int) (pd_v 1))))))), ?_⟩)
  intro ss kk xx hl h _
  unfold c_is_marked at h
  dsimp only at h
  split at h
  · rename_i x w n
    obtain ⟨n1, lw, ox, ho, h3⟩ := h
    by_cases tx : ∃ xs, x = .tup xs
    · obtain ⟨xs, rfl⟩ := tx
      by_cases e : (xs.length : Int) = n
      · refine s_if (b := false) (fun k hk => t_or (b := false) (c := false) (fun k hk => t_not (b := true) (fun k hk => t_b (b := true) (fun k hk => ⟨rfl, rfl, hk⟩) hk) hk) (fun _ k hk => t_b (b := false) (fun k hk => ⟨okD_int _, okD_int _, ?_⟩) hk) hk) (fun q => nomatch q) (fun _ => ?_)
        · rw [deq_int, decide_eq_true e]
          exact hk
        cases xs with
        | nil =>
          simp at e
          omega
        | cons y r =>
          have hy := ho y r rfl
          have ix : ∀ k : DK, k (.d y) → (dOp gIx (dVar 0) (dC (.int 0))) [.d (.tup (y :: r)), .d (.str w), .d (.int n)] k := fun k hk => e_ixN (i := 0) (xs := y :: r) (j := 0) rfl rfl (fun k hk => hk) hk
          have en : r.length + 1 = n.toNat := by
            rw [List.length_cons] at e
            omega
          refine s_ret (x := .bl (mkd w n.toNat (.tup (y :: r)))) (fun k hk => e_andV (b := isTy .str y) (c := mkd w n.toNat (.tup (y :: r))) (fun k hk => e_is ix hy.1 hk) (fun q k hk => ?_) ?_) h3
          · cases y with
            | str s =>
              refine e_eqD ix (fun k hk => hk) (ok_low (hy.2 s rfl)) (ok_low lw) ?_
              rw [deq_str]
              have h4 : k (.d (.bl (decide (r.length + 1 = n.toNat) && decide (s = w)))) := hk
              rw [decide_eq_true en] at h4
              exact h4
            | _ => cases q
          · cases y <;> exact hk
      · refine s_if (b := true) (fun k hk => t_or (b := false) (c := true) (fun k hk => t_not (b := true) (fun k hk => t_b (b := true) (fun k hk => ⟨rfl, rfl, hk⟩) hk) hk) (fun _ k hk => t_b (b := true) (fun k hk => ⟨okD_int _, okD_int _, ?_⟩) hk) hk) (fun _ => ?_) (fun q => nomatch q)
        · rw [deq_int, decide_eq_false e]
          exact hk
        have e0 : mkd w n.toNat (.tup xs) = false := by
          unfold mkd
          split
          · rename_i s r q
            injection q with q
            subst q
            rw [decide_eq_false (by rw [List.length_cons] at e; omega)]
            rfl
          · rfl
        rw [e0] at h3
        exact h3
    · have e0 : mkd w n.toNat x = false := by
        unfold mkd
        split
        · exact absurd ⟨_, rfl⟩ tx
        · rfl
      rw [e0] at h3
      refine s_if (b := true) (fun k hk => t_or (b := true) (c := true) (fun k hk => t_not (b := false) (fun k hk => t_b (b := false) (fun k hk => ⟨rfl, ox, ?_⟩) hk) hk) (fun q => nomatch q) hk) (fun _ => h3) (fun q => nomatch q)
      have e1 : isTy .tuple x = false := by
        cases x <;> first | rfl | exact absurd ⟨_, rfl⟩ tx
      rw [e1]
      exact hk
  · exact h.elim
def lnB (a : Ad) (y : D) : Bool := isNon y || isC a.C_Line y
def linesD (a : Ad) : D → Bool
  | .tup vs => vs.all (lnB a)
  | _ => false
def linesOk (a : Ad) (x : D) : Prop := isObj x = false ∧ ∀ vs, x = .tup vs → vs.length ≤ 100000 ∧ ∀ y ∈ vs, rOk a.C_Line y
theorem gAll_map {α : Type} {xs : List α} {f : α → Bool} {k : DK} (hk : k (.d (.bl (xs.all f)))) : gAll [.d (.lst (xs.map fun y => .bl (f y)))] k := by
  have e : (xs.map fun y => D.bl (f y)) = (xs.map f).map D.bl := by
    rw [List.map_map]
    rfl
  unfold gAll
  dsimp only
  rw [e, unB_map]
  show k (.d (.bl ((xs.map f).all id)))
  rw [List.all_map]
  exact hk
def c_are_lines (a : Ad) : Ctr where
  n := 1
  f := fun ss k _ => match ss with
    | [.d x] => linesOk a x ∧ k (.d (.bl (linesD a x)))
    | _ => False
  mono := fun {ss k k' x x'} hk _ h => by
    split at h
    · exact ⟨h.1, hk _ h.2⟩
    · exact h.elim
theorem ok_are_lines (T : Txt P K mg a) : FnOk P w K mg base (L2.CX P w) 1 a.f_are_lines a.d_are_lines ["thing"] ((c_are_lines a).sp K) := by
  refine fn_ok (c_are_lines a) T.f_are_lines.F sc_are_lines rfl (fun cdv A outer s H E xw hr po => ⟨_, _, (pdss_one (pds_ret (pd_and (pd_callB call_isi (oc_is .tuple) T.n_isinstance (by decide +kernel) (pda_cons (pd_v 0) (pda_cons (pd_ty (T := "tuple") T.n_tuple (by decide +kernel)) pda_nil))) (pd_one (pd_callB (cr_all rfl) oc_all T.n_all (by decide +kernel) (pda_cons (pd_lc (i := 1) rfl sc_are_lines.nd (pdi_seq (pd_v 0)) (blkOk_by (N := ["thing", "one"]) (sc := defScope s_are_lines) (own := [("one", 1)]) (by decide +kernel)) (fun _ _ _ _ _ => pg_name (i := 1) sc_are_lines.nd rfl (Or.inl rfl)) (fun _ _ _ _ _ => pdts_nil) (fun _ _ _ _ _ => (pd_or (pd_isN (pd_v 1) pd_non) (pd_one (pd_callB (call_isOwn T.k_Line.is) (oc_isC T.k_Line.is) T.n_isinstance (by decide +kernel) (pda_cons (pd_v 1) (pda_cons (pd_cls T.k_Line.gC) pda_nil))))))) pda_nil)))))), ?_⟩)
  intro ss kk xx hl h _
  unfold c_are_lines at h
  dsimp only at h
  split at h
  · rename_i x
    obtain ⟨⟨ox, hv⟩, h3⟩ := h
    refine ⟨rfl, ox, ?_⟩
    cases x with
    | tup vs =>
      obtain ⟨l, hr⟩ := hv vs rfl
      refine ⟨l, lcD_map (g := fun y => .bl (lnB a y)) _ _ (fun y m k' hk' => ?_) (gAll_map h3)⟩
      have r := hr y m
      have h4 : k' (.d (.bl (isNon y || isC a.C_Line y))) := hk'
      show (match Sl.d (.bl (isNon y)) with
        | .d (.bl true) => k' (.d (.bl true))
        | .d (.bl false) => _
        | _ => False)
      revert h4
      cases isNon y
      · exact fun h4 => ⟨rfl, r, h4⟩
      · exact fun h4 => h4
    | _ => exact h3
  · exact h.elim
/-! ### items that are counted -/
def itD (y : D) (i : Nat) : D := match y with
  | .tup xs => xs.getD i .non
  | _ => .non
def lmL (rc : D → Option Nat) (a : Ad) : Nat → List D → Option Nat
  | many, [] => some many
  | many, y :: r => if isWord y = true then (if many + 1 > 2000 then none else lmL rc a (many + 1) r) else if (mkd "times" 3 y && lnB a (itD y 1)) = true then (match rc (itD y 2) with
      | none => none
      | some 0 => none
      | some (i + 1) => if many + 1 + (i + 1) > 2000 then none else lmL rc a (many + 1 + (i + 1)) r) else none
def lmM (a : Ad) : Nat → D → Option Nat
  | 0, _ => none
  | n + 1, .tup xs => lmL (lmM a n) a 0 xs
  | _ + 1, _ => none
def OkY (rc : D → Prop) (a : Ad) (y : D) : Prop := isObj y = false ∧ (∀ s, y = .str s → s.length ≤ 100000) ∧ headsOk y ∧ (mkd "times" 3 y = true → rOk a.C_Line (itD y 1) ∧ (lnB a (itD y 1) = true → rc (itD y 2)))
def OkT (a : Ad) : Nat → D → Prop
  | 0, x => isObj x = false
  | n + 1, x => isObj x = false ∧ ∀ xs, x = .tup xs → xs.length ≤ 100000 ∧ ∀ y ∈ xs, OkY (OkT a n) a y
def c_lined_many (a : Ad) (n : Nat) : Ctr where
  n := 2
  f := fun ss k _ => match ss with
    | [.d x, .d (.int d)] => d = 41 - (n : Int) ∧ OkT a n x ∧ k (.d (oD (lmM a n x)))
    | _ => False
  mono := fun {ss k k' x x'} hk _ h => by
    split at h
    · exact ⟨h.1, h.2.1, hk _ h.2.2⟩
    · exact h.elim
def cPrevL (a : Ad) : Nat → Ctr
  | 0 => cNo2 2
  | n + 1 => c_lined_many a n
theorem mk3 {y : D} (h : mkd "times" 3 y = true) : ∃ p x, y = .tup [.str "times", p, x] := by
  unfold mkd at h
  split at h
  · rename_i s r
    rw [Bool.and_eq_true, decide_eq_true_eq, decide_eq_true_eq] at h
    obtain ⟨h1, rfl⟩ := h
    match r, h1 with
    | [p, x], _ => exact ⟨p, x, rfl⟩
  · cases h
theorem low_ascii {s : Str} (h : (s.cps.toList.all fun c => decide (c < 128)) = true) : low s := fun c hc => of_decide_eq_true (List.all_eq_true.mp h c hc)
theorem lowT : low "times" := low_ascii (by decide +kernel)
theorem e_wordQ {e : DE} {y : D} {Γ : Gm} {k : DK} (g : ∀ k : DK, k (.d y) → e Γ k) (o : isObj y = false) (l : ∀ s, y = .str s → s.length ≤ 100000) (hk : k (.d (.bl (isWord y)))) : dCall c_is_word xw0 (dCons e dNil) Γ k := g _ ⟨rfl, o, l, hk⟩
def lmB (a : Ad) (n : Nat) : DS := (dSeq (dAsg 2 (dOp gAdd (dVar 2) (dC (.int 1)))) (dSeq (dIfS (dNot (dB (dCall c_is_word xw0 (dCons (dVar 3) dNil)))) (dSeq (dIfS (dOr (dNot (dB (dCall c_is_marked xw0 (dCons (dVar 3) (dCons (dC (.str "times")) (dCons (dC (.int 3)) dNil)))))) (dNot (dB (dCall (c_are_lines a) xw0 (dCons (dTup (dCons (dOp gIx (dVar 3) (dC (.int 1))) dNil)) dNil))))) (dRet (dC .non)) dNext) (dSeq (dAsg 4 (dCall (cPrevL a n) xw0 (dCons (dOp gIx (dVar 3) (dC (.int 2))) (dCons (dOp gAdd (dVar 1) (dC (.int 1))) dNil)))) (dSeq (dIfS (dOr (dB (dOp gIsN (dVar 4) (dC .non))) (dB (dOp gEq (dVar 4) (dC (.int 0))))) (dRet (dC .non)) dNext) (dAsg 2 (dOp gAdd (dVar 2) (dVar 4)))))) dNext) (dIfS (dB (dOp (gI0 fun i j => .bl (decide (j < i))) (dVar 2) (dC (.int 2000)))) (dRet (dC .non)) dNext)))
theorem lm_loop {n : Nat} {E : DEnds} {d0 : D} (xs : List D) (many : Nat) (hx : ∀ y ∈ xs, OkY (OkT a n) a y) (s3 s4 : Sl)
    (h : ∀ m s3 s4, lmL (lmM a n) a many xs = some m → E.nx [.d d0, .d (.int (40 - (n : Int))), .d (.int (m : Nat)), s3, s4]) (hr : lmL (lmM a n) a many xs = none → E.rt (.d .non)) :
    forD (dgName 3) (lmB a (n + 1)) E xs [.d d0, .d (.int (40 - (n : Int))), .d (.int (many : Nat)), s3, s4] := by
  induction xs generalizing many s3 s4 with
  | nil => exact h many s3 s4 rfl
  | cons y r ih =>
    obtain ⟨oy, ly, hy, ty⟩ := hx y List.mem_cons_self
    have hx2 : ∀ y ∈ r, OkY (OkT a n) a y := fun y m => hx y (List.mem_cons_of_mem _ m)
    refine (show (lmB a (n + 1)) { E with nx := forD (dgName 3) (lmB a (n + 1)) E r, ct := forD (dgName 3) (lmB a (n + 1)) E r, bk := E.nx } [.d d0, .d (.int (40 - (n : Int))), .d (.int (many : Nat)), .d y, s4] from ?_)
    refine s_asg (x := .d (.int ((many + 1 : Nat) : Int))) (fun k hk => hk) ?_
    have last : ∀ (m : Nat) (s4 : Sl), (m > 2000 → E.rt (.d .non)) → (¬ m > 2000 → forD (dgName 3) (lmB a (n + 1)) E r [.d d0, .d (.int (40 - (n : Int))), .d (.int (m : Nat)), .d y, s4]) → ((dIfS (dB (dOp (gI0 fun i j => .bl (decide (j < i))) (dVar 2) (dC (.int 2000)))) (dRet (dC .non)) dNext) : DS) { E with nx := forD (dgName 3) (lmB a (n + 1)) E r, ct := forD (dgName 3) (lmB a (n + 1)) E r, bk := E.nx } [.d d0, .d (.int (40 - (n : Int))), .d (.int (m : Nat)), .d y, s4] := fun m s4 h1 h2 => by
      refine s_ifZ (b := decide ((2000 : Int) < m)) (fun k hk => t_b (b := decide ((2000 : Int) < m)) (fun k hk => hk) hk) (fun e => ?_) (fun e => ?_)
      · exact h1 (by have := of_decide_eq_true e; omega)
      · exact h2 (by have := of_decide_eq_false e; omega)
    have el : lmL (lmM a n) a many (y :: r) = if isWord y = true then (if many + 1 > 2000 then none else lmL (lmM a n) a (many + 1) r) else if (mkd "times" 3 y && lnB a (itD y 1)) = true then (match lmM a n (itD y 2) with
      | none => none
      | some 0 => none
      | some (i + 1) => if many + 1 + (i + 1) > 2000 then none else lmL (lmM a n) a (many + 1 + (i + 1)) r) else none := rfl
    rw [el] at h hr
    by_cases wy : isWord y = true
    · rw [if_pos wy] at h hr
      refine s_if (b := false) (fun k hk => t_not (b := true) (fun k hk => t_b (b := true) (fun k hk => e_wordQ (fun k hk => hk) oy ly (by rw [wy]; exact hk)) hk) hk) (fun q => nomatch q) (fun _ => ?_)
      refine last (many + 1) s4 (fun g => hr (if_pos g)) (fun g => ?_)
      rw [if_neg g] at h hr
      exact ih (many + 1) hx2 _ _ h hr
    · rw [if_neg wy] at h hr
      have wf : isWord y = false := by simpa using wy
      refine s_if (b := true) (fun k hk => t_not (b := false) (fun k hk => t_b (b := false) (fun k hk => e_wordQ (fun k hk => hk) oy ly (by rw [wf]; exact hk)) hk) hk) (fun _ => ?_) (fun q => nomatch q)
      by_cases my : mkd "times" 3 y = true
      · obtain ⟨p, x, rfl⟩ := mk3 my
        obtain ⟨rp, tx⟩ := ty my
        have tx2 : lnB a p = true → OkT a n x := tx
        have rp2 : rOk a.C_Line p := rp
        rw [my] at h hr
        by_cases lp : lnB a p = true
        · have ex : itD (.tup [.str "times", p, x]) 2 = x := rfl
          have ep : (true && lnB a (itD (.tup [.str "times", p, x]) 1)) = true := lp
          rw [if_pos ep, ex] at h hr
          refine s_if (b := false) (fun k hk => t_or (b := false) (c := false) (fun k hk => t_not (b := true) (fun k hk => t_b (b := true) (fun k hk => ⟨rfl, by decide, lowT, rfl, hy, by rw [show mkd "times" (3 : Int).toNat (.tup [.str "times", p, x]) = true from my]; exact hk⟩) hk) hk) (fun _ k hk => t_not (b := true) (fun k hk => t_b (b := true) (fun k hk => ⟨len_ok rfl, rfl, ⟨rfl, fun vs q => ?_⟩, ?_⟩) hk) hk) hk) (fun q => nomatch q) (fun _ => ?_)
          · injection q with q
            subst q
            exact ⟨len_ok rfl, fun z m => by rw [List.mem_singleton.mp m]; exact rp2⟩
          · rw [show linesD a (.tup [p]) = true from by show ([p].all (lnB a)) = true; simp [lp]]
            exact hk
          have ot := tx2 lp
          refine s_asg (x := .d (oD (lmM a n x))) (fun k hk => ⟨rfl, by omega, ot, hk⟩) ?_
          cases em : lmM a n x with
          | none =>
            rw [em] at h hr
            exact s_if (b := true) (fun k hk => t_or (b := true) (c := true) (fun k hk => t_b (b := true) (fun k hk => hk) hk) (fun q => nomatch q) hk) (fun _ => hr rfl) (fun q => nomatch q)
          | some i =>
            rw [em] at h hr
            cases i with
            | zero => exact s_if (b := true) (fun k hk => t_or (b := false) (c := true) (fun k hk => t_b (b := false) (fun k hk => hk) hk) (fun _ k hk => t_b (b := true) (fun k hk => ⟨okD_int _, okD_int _, by show k (.d (.bl (deq (.int ((0 : Nat) : Int)) (.int 0)))); rw [deq_int]; exact hk⟩) hk) hk) (fun _ => hr rfl) (fun q => nomatch q)
            | succ i =>
              refine s_if (b := false) (fun k hk => t_or (b := false) (c := false) (fun k hk => t_b (b := false) (fun k hk => hk) hk) (fun _ k hk => t_b (b := false) (fun k hk => ⟨okD_int _, okD_int _, by show k (.d (.bl (deq (.int ((i + 1 : Nat) : Int)) (.int 0)))); rw [deq_int, decide_eq_false (by omega)]; exact hk⟩) hk) hk) (fun q => nomatch q) (fun _ => ?_)
              have ec : ((many + 1 : Nat) : Int) + ((i + 1 : Nat) : Int) = ((many + 1 + (i + 1) : Nat) : Int) := by omega
              show ((dIfS (dB (dOp (gI0 fun i j => .bl (decide (j < i))) (dVar 2) (dC (.int 2000)))) (dRet (dC .non)) dNext) : DS) _ [_, _, .d (.int (((many + 1 : Nat) : Int) + ((i + 1 : Nat) : Int))), _, _]
              rw [ec]
              refine last (many + 1 + (i + 1)) _ (fun g => hr (if_pos g)) (fun g => ?_)
              have h' : ∀ m s3 s4, (if many + 1 + (i + 1) > 2000 then none else lmL (lmM a n) a (many + 1 + (i + 1)) r) = some m → E.nx [.d d0, .d (.int (40 - (n : Int))), .d (.int (m : Nat)), s3, s4] := h
              have hr' : (if many + 1 + (i + 1) > 2000 then none else lmL (lmM a n) a (many + 1 + (i + 1)) r) = none → E.rt (.d .non) := hr
              rw [if_neg g] at h' hr'
              exact ih _ hx2 _ _ h' hr'
        · have lf : lnB a p = false := by simpa using lp
          have ep : ¬ (true && lnB a (itD (.tup [.str "times", p, x]) 1)) = true := lp
          rw [if_neg ep] at hr
          refine s_if (b := true) (fun k hk => t_or (b := false) (c := true) (fun k hk => t_not (b := true) (fun k hk => t_b (b := true) (fun k hk => ⟨rfl, by decide, lowT, rfl, hy, by rw [show mkd "times" (3 : Int).toNat (.tup [.str "times", p, x]) = true from my]; exact hk⟩) hk) hk) (fun _ k hk => t_not (b := false) (fun k hk => t_b (b := false) (fun k hk => ⟨len_ok rfl, rfl, ⟨rfl, fun vs q => ?_⟩, ?_⟩) hk) hk) hk) (fun _ => hr rfl) (fun q => nomatch q)
          · injection q with q
            subst q
            exact ⟨len_ok rfl, fun z m => by rw [List.mem_singleton.mp m]; exact rp2⟩
          · rw [show linesD a (.tup [p]) = false from by show ([p].all (lnB a)) = false; simp [lf]]
            exact hk
      · have mf : mkd "times" 3 y = false := by simpa using my
        rw [mf] at hr
        exact s_if (b := true) (fun k hk => t_or (b := true) (c := true) (fun k hk => t_not (b := false) (fun k hk => t_b (b := false) (fun k hk => ⟨rfl, by decide, lowT, oy, hy, by rw [show mkd "times" (3 : Int).toNat y = false from mf]; exact hk⟩) hk) hk) (fun q => nomatch q) hk) (fun _ => hr rfl) (fun q => nomatch q)
theorem ok_lined0 (T : Txt P K mg a) {n : Nat} (ih : FnOk P w K mg base (L2.CX P w) (n + 4) a.f_lined_many a.d_lined_many ["items", "deep"] ((cPrevL a n).sp K)) : FnOk P w K mg base (L2.CX P w) (n + 5) a.f_lined_many a.d_lined_many ["items", "deep"] ((c_lined_many a n).sp K) := by
  refine fn_ok (c_lined_many a n) T.f_lined_many.F sc_lined_many rfl (fun cdv A outer s H E xw hr po => ⟨_, _, (pdss_cons (pds_if (pdw_pt (pdw_or (pdt_not (pdt_val (pd_callB call_isi (oc_is .tuple) T.n_isinstance (by decide +kernel) (pda_cons (pd_v 0) (pda_cons (pd_ty (T := "tuple") T.n_tuple (by decide +kernel)) pda_nil))))) (pdw_or1 (pdt_gt (pd_v 1) (pd_gI T.g_MOST_DEEP_lines)))))
  (pdss_one (pds_ret pd_non))
  pdss_nil)
  (pdss_cons (pds_set (i := 2) pd_int sc_lined_many.nd)
  (pdss_cons (pds_for po rfl (pdi_seq (pd_v 0)) (pdg_name (i := 3) sc_lined_many.nd)
  (pdss_cons (pds_set (i := 2) (pd_add (pd_v 2) pd_int) sc_lined_many.nd)
  (pdss_cons (pds_if (pdt_not (pdt_val (pd_call (ok_is_word T) (hr.mono (by omega)) T.f_is_word.m T.f_is_word.F.kp T.f_is_word.b (pda_cons (pd_v 3) pda_nil))))
  (pdss_cons (pds_if (pdw_pt (pdw_or (pdt_not (pdt_val (pd_call (ok_is_marked T) (hr.mono (by omega)) T.f_is_marked.m T.f_is_marked.F.kp T.f_is_marked.b (pda_cons (pd_v 3) (pda_cons pd_str (pda_cons pd_int pda_nil)))))) (pdw_or1 (pdt_not (pdt_val (pd_call (ok_are_lines T) (hr.mono (by omega)) T.f_are_lines.m T.f_are_lines.F.kp T.f_are_lines.b (pda_cons (pd_tup (pda_cons (pd_ix (pd_v 3) pd_int) pda_nil)) pda_nil)))))))
  (pdss_one (pds_ret pd_non))
  pdss_nil)
  (pdss_cons (pds_set (i := 4) (pd_call ih (hr.mono (by omega)) T.f_lined_many.m T.f_lined_many.F.kp T.f_lined_many.b (pda_cons (pd_ix (pd_v 3) pd_int) (pda_cons (pd_add (pd_v 1) pd_int) pda_nil))) sc_lined_many.nd)
  (pdss_cons (pds_if (pdw_pt (pdw_or (pdt_isN (pd_v 4) pd_non) (pdw_or1 (pdt_eq hr.units (pd_v 4) pd_int))))
  (pdss_one (pds_ret pd_non))
  pdss_nil)
  (pdss_one (pds_set (i := 2) (pd_add (pd_v 2) (pd_v 4)) sc_lined_many.nd)))))
  pdss_nil)
  (pdss_one (pds_if (pdt_gt (pd_v 2) (pd_gI T.g_MOST_ITEMS_lines))
  (pdss_one (pds_ret pd_non))
  pdss_nil)))))
  (pdss_one (pds_ret (pd_v 2)))))), ?_⟩)
  intro ss kk xx hl h _
  unfold c_lined_many at h
  dsimp only at h
  split at h
  · rename_i x d
    obtain ⟨rfl, ot, h3⟩ := h
    have ox : isObj x = false := by
      cases n with
      | zero => exact ot
      | succ n => exact ot.1
    by_cases tx : ∃ xs, x = .tup xs
    · obtain ⟨xs, rfl⟩ := tx
      cases n with
      | zero => exact s_if (b := true) (fun k hk => t_or (b := false) (c := true) (fun k hk => t_not (b := true) (fun k hk => t_b (b := true) (fun k hk => ⟨rfl, rfl, hk⟩) hk) hk) (fun _ k hk => t_b (b := true) (fun k hk => hk) hk) hk) (fun _ => h3) (fun q => nomatch q)
      | succ n =>
        refine s_if (b := false) (fun k hk => t_or (b := false) (c := false) (fun k hk => t_not (b := true) (fun k hk => t_b (b := true) (fun k hk => ⟨rfl, rfl, hk⟩) hk) hk) (fun _ k hk => t_b (b := false) (fun k hk => ?_) hk) hk) (fun q => nomatch q) (fun _ => ?_)
        · show k (.d (.bl (decide ((40 : Int) < 41 - ((n + 1 : Nat) : Int)))))
          rw [decide_eq_false (by omega)]
          exact hk
        have e4 : (41 : Int) - ((n + 1 : Nat) : Int) = 40 - (n : Int) := by omega
        obtain ⟨_, hx⟩ := ot.2 xs rfl
        have h4 : kk (.d (oD (lmL (lmM a n) a 0 xs))) := h3
        refine s_asg (x := .d (.int ((0 : Nat) : Int))) (fun k hk => hk) ?_
        show forD (dgName 3) _ _ xs [_, .d (.int (41 - ((n + 1 : Nat) : Int))), _, _, _]
        rw [e4]
        refine lm_loop xs 0 hx .any .any (fun m s3 s4 e => ?_) (fun e => ?_)
        · rw [e] at h4
          exact h4
        · rw [e] at h4
          exact h4
    · have e0 : lmM a n x = none := by
        cases n with
        | zero => rfl
        | succ n => cases x <;> first | rfl | exact absurd ⟨_, rfl⟩ tx
      rw [e0] at h3
      refine s_if (b := true) (fun k hk => t_or (b := true) (c := true) (fun k hk => t_not (b := false) (fun k hk => t_b (b := false) (fun k hk => ⟨rfl, ox, ?_⟩) hk) hk) (fun q => nomatch q) hk) (fun _ => h3) (fun q => nomatch q)
      have e1 : isTy .tuple x = false := by
        cases x <;> first | rfl | exact absurd ⟨_, rfl⟩ tx
      rw [e1]
      exact hk
  · exact h.elim
theorem ok_lined_n (T : Txt P K mg a) : ∀ n : Nat, FnOk P w K mg base (L2.CX P w) (n + 5) a.f_lined_many a.d_lined_many ["items", "deep"] ((c_lined_many a n).sp K)
  | 0 => ok_lined0 (n := 0) T no_sp2
  | n + 1 => ok_lined0 (n := n + 1) T (ok_lined_n T n)
theorem ok_lined_many (T : Txt P K mg a) : FnOk P w K mg base (L2.CX P w) 46 a.f_lined_many a.d_lined_many ["items", "deep"] ((c_lined_many a 41).sp K) := ok_lined_n T 41
-- SPLIT
/-! ### the form of lined papers -/
def formD (a : Ad) (x : D) : Bool := (mkd "enough" 3 x || (mkd "stuck" 4 x && isTy .tuple (itD x 3))) && (linesD a (itD x 1) && (lmM a 41 (itD x 2)).isSome)
/-- what may be asked -/
structure AskP (a : Ad) (x : D) : Prop where
  o : isObj x = false
  hd : headsOk x
  ln : mkd "enough" 3 x = true ∨ mkd "stuck" 4 x = true → linesOk a (itD x 1) ∧ OkT a 41 (itD x 2)
  tl : mkd "stuck" 4 x = true → isObj (itD x 3) = false
theorem mkd_at {w : Str} {n : Nat} {x : D} (h : mkd w n x = true) : ∃ xs, x = .tup xs ∧ xs.length = n := by
  unfold mkd at h
  split at h
  · rename_i s r
    rw [Bool.and_eq_true, decide_eq_true_eq] at h
    exact ⟨_, rfl, by rw [List.length_cons]; exact h.1⟩
  · cases h
theorem e_it {e : DE} {xs : List D} {i : Int} {j : Nat} {Γ : Gm} {k : DK} (hi : i = (j : Int)) (l : j < xs.length) (he : ∀ k : DK, k (.d (.tup xs)) → e Γ k) (hk : k (.d (itD (.tup xs) j))) : dOp gIx e (dC (.int i)) Γ k := e_ixN hi (y := xs.getD j .non) (by rw [List.getD_eq_getElem?_getD, List.getElem?_eq_getElem l]; rfl) he hk
theorem lowE : low "enough" := low_ascii (by decide +kernel)
theorem lowS : low "stuck" := low_ascii (by decide +kernel)
theorem e_mark {e : DE} {x : D} {w : Str} {n : Int} {Γ : Gm} {k : DK} (he : ∀ k : DK, k (.d x) → e Γ k) (n1 : 1 ≤ n) (lw : low w) (o : isObj x = false) (h : headsOk x) (hk : k (.d (.bl (mkd w n.toNat x)))) : dCall c_is_marked xw0 (dCons e (dCons (dC (.str w)) (dCons (dC (.int n)) dNil))) Γ k := he _ ⟨rfl, n1, lw, o, h, hk⟩
def c_is_lined_form (a : Ad) : Ctr where
  n := 1
  f := fun ss k _ => match ss with
    | [.d x] => AskP a x ∧ k (.d (.bl (formD a x)))
    | _ => False
  mono := fun {ss k k' x x'} hk _ h => by
    split at h
    · exact ⟨h.1, hk _ h.2⟩
    · exact h.elim
theorem form_rest {a : Ad} {x : D} {E : DEnds} (h : ∃ xs, x = .tup xs ∧ 3 ≤ xs.length) (lo : linesOk a (itD x 1)) (ot : OkT a 41 (itD x 2)) (hk : E.rt (.d (.bl (linesD a (itD x 1) && (lmM a 41 (itD x 2)).isSome)))) :
    ((dRet (dAndV (dCall (c_are_lines a) xw0 (dCons (dOp gIx (dVar 0) (dC (.int 1))) dNil)) (dOp gNotN (dCall (c_lined_many a 41) xw0 (dCons (dOp gIx (dVar 0) (dC (.int 2))) (dCons (dC (.int 0)) dNil))) (dC .non)))) : DS) E [.d x] := by
  obtain ⟨xs, rfl, l3⟩ := h
  refine s_ret (x := .bl (linesD a (itD (.tup xs) 1) && (lmM a 41 (itD (.tup xs) 2)).isSome)) (fun k hk => e_andV (b := linesD a (itD (.tup xs) 1)) (c := (lmM a 41 (itD (.tup xs) 2)).isSome) (fun k hk => e_it (i := 1) (j := 1) rfl (by omega) (fun k hk => hk) ⟨rfl, lo, hk⟩) (fun q k hk => ?_) hk) hk
  refine e_it (i := 2) (j := 2) rfl (by omega) (fun k hk => hk) ⟨rfl, rfl, ot, ?_⟩
  cases e : lmM a 41 (itD (.tup xs) 2) with
  | none =>
    rw [e] at hk
    exact hk
  | some i =>
    rw [e] at hk
    exact hk
theorem ok_is_lined_form (T : Txt P K mg a) : FnOk P w K mg base (L2.CX P w) 47 a.f_is_lined_form a.d_is_lined_form ["thing"] ((c_is_lined_form a).sp K) := by
  refine fn_ok (c_is_lined_form a) T.f_is_lined_form.F sc_is_lined_form rfl (fun cdv A outer s H E xw hr po => ⟨_, _, (pdss_cons (pds_if (pdt_not (pdt_val (pd_call (ok_is_marked T) (hr.mono (by decide)) T.f_is_marked.m T.f_is_marked.F.kp T.f_is_marked.b (pda_cons (pd_v 0) (pda_cons pd_str (pda_cons pd_int pda_nil))))))
  (pdss_one (pds_if (pdw_pt (pdw_or (pdt_not (pdt_val (pd_call (ok_is_marked T) (hr.mono (by decide)) T.f_is_marked.m T.f_is_marked.F.kp T.f_is_marked.b (pda_cons (pd_v 0) (pda_cons pd_str (pda_cons pd_int pda_nil)))))) (pdw_or1 (pdt_not (pdt_val (pd_callB call_isi (oc_is .tuple) T.n_isinstance (by decide +kernel) (pda_cons (pd_ix (pd_v 0) pd_int) (pda_cons (pd_ty (T := "tuple") T.n_tuple (by decide +kernel)) pda_nil))))))))
  (pdss_one (pds_ret pd_bl))
  pdss_nil))
  pdss_nil)
  (pdss_one (pds_ret (pd_and (pd_call (ok_are_lines T) (hr.mono (by decide)) T.f_are_lines.m T.f_are_lines.F.kp T.f_are_lines.b (pda_cons (pd_ix (pd_v 0) pd_int) pda_nil)) (pd_one (pd_notN (pd_call (ok_lined_many T) (hr.mono (by decide)) T.f_lined_many.m T.f_lined_many.F.kp T.f_lined_many.b (pda_cons (pd_ix (pd_v 0) pd_int) (pda_cons pd_int pda_nil))) pd_non)))))), ?_⟩)
  intro ss kk xx hl h _
  unfold c_is_lined_form at h
  dsimp only at h
  split at h
  · rename_i x
    obtain ⟨g, h3⟩ := h
    by_cases me : mkd "enough" 3 x = true
    · obtain ⟨xs, e, l⟩ := mkd_at me
      have f : formD a x = (linesD a (itD x 1) && (lmM a 41 (itD x 2)).isSome) := by
        unfold formD
        rw [me]
        rfl
      rw [f] at h3
      exact s_if (b := false) (fun k hk => t_not (b := true) (fun k hk => t_b (b := true) (fun k hk => e_mark (fun k hk => hk) (by decide) lowE g.o g.hd (by rw [show mkd "enough" (3 : Int).toNat x = true from me]; exact hk)) hk) hk) (fun q => nomatch q) (fun _ => form_rest ⟨xs, e, by omega⟩ (g.ln (.inl me)).1 (g.ln (.inl me)).2 h3)
    · have mf : mkd "enough" 3 x = false := by simpa using me
      refine s_if (b := true) (fun k hk => t_not (b := false) (fun k hk => t_b (b := false) (fun k hk => e_mark (fun k hk => hk) (by decide) lowE g.o g.hd (by rw [show mkd "enough" (3 : Int).toNat x = false from mf]; exact hk)) hk) hk) (fun _ => ?_) (fun q => nomatch q)
      by_cases ms : mkd "stuck" 4 x = true
      · obtain ⟨xs, e, l⟩ := mkd_at ms
        have ot := g.tl ms
        cases tt : isTy .tuple (itD x 3) with
        | true =>
          have f : formD a x = (linesD a (itD x 1) && (lmM a 41 (itD x 2)).isSome) := by
            unfold formD
            rw [ms, mf, tt]
            rfl
          rw [f] at h3
          refine s_ifZ (b := false) (fun k hk => t_or (b := false) (c := false) (fun k hk => t_not (b := true) (fun k hk => t_b (b := true) (fun k hk => e_mark (fun k hk => hk) (by decide) lowS g.o g.hd (by rw [show mkd "stuck" (4 : Int).toNat x = true from ms]; exact hk)) hk) hk) (fun _ k hk => t_not (b := true) (fun k hk => t_b (b := true) (fun k hk => ?_) hk) hk) hk) (fun q => nomatch q) (fun _ => form_rest ⟨xs, e, by omega⟩ (g.ln (.inr ms)).1 (g.ln (.inr ms)).2 h3)
          subst e
          exact e_is (y := itD (.tup xs) 3) (fun k hk => e_it (i := 3) (j := 3) rfl (by omega) (fun k hk => hk) hk) ot (by rw [tt]; exact hk)
        | false =>
          have f : formD a x = false := by
            unfold formD
            rw [ms, mf, tt]
            rfl
          rw [f] at h3
          refine s_ifZ (b := true) (fun k hk => t_or (b := false) (c := true) (fun k hk => t_not (b := true) (fun k hk => t_b (b := true) (fun k hk => e_mark (fun k hk => hk) (by decide) lowS g.o g.hd (by rw [show mkd "stuck" (4 : Int).toNat x = true from ms]; exact hk)) hk) hk) (fun _ k hk => t_not (b := false) (fun k hk => t_b (b := false) (fun k hk => ?_) hk) hk) hk) (fun _ => h3) (fun q => nomatch q)
          subst e
          exact e_is (y := itD (.tup xs) 3) (fun k hk => e_it (i := 3) (j := 3) rfl (by omega) (fun k hk => hk) hk) ot (by rw [tt]; exact hk)
      · have mg' : mkd "stuck" 4 x = false := by simpa using ms
        have f : formD a x = false := by
          unfold formD
          rw [mg', mf]
          rfl
        rw [f] at h3
        exact s_ifZ (b := true) (fun k hk => t_or (b := true) (c := true) (fun k hk => t_not (b := false) (fun k hk => t_b (b := false) (fun k hk => e_mark (fun k hk => hk) (by decide) lowS g.o g.hd (by rw [show mkd "stuck" (4 : Int).toNat x = false from mg']; exact hk)) hk) hk) (fun q => nomatch q) hk) (fun _ => h3) (fun q => nomatch q)
  · exact h.elim
theorem lcD_mapG {i : Nat} {e : DE} {Γ : Gm} {α : Type} {f g : α → D} : ∀ (xs : List α) (k : List D → Prop), (∀ x ∈ xs, ∀ k' : DK, k' (.d (g x)) → e (Γ.set i (.d (f x))) k') → k (xs.map g) → lcD i dYes e Γ (xs.map f) k
  | [], _, _, h => h
  | x :: r, k, he, h => he x List.mem_cons_self _ (lcD_mapG r _ (fun y m => he y (List.mem_cons_of_mem _ m)) h)
/-! ### values -/
def valL (m : Int) : D → D
  | .obj _ ((_, .int i) :: (_, .int j) :: _) => .int (i + j * m)
  | _ => .non
def lnOk (a : Ad) (p : D) : Prop := p = .non ∨ okL a p
def mOk (m : Int) : Prop := 0 ≤ m ∧ m ≤ top30
def c_value_at (a : Ad) : Ctr where
  n := 2
  f := fun ss k _ => match ss with
    | [.d p, .d (.int m)] => lnOk a p ∧ mOk m ∧ k (.d (valL m p))
    | _ => False
  mono := fun {ss k k' x x'} hk _ h => by
    split at h
    · exact ⟨h.1, h.2.1, hk _ h.2.2⟩
    · exact h.elim
theorem ok_value_at (T : Txt P K mg a) : FnOk P w K mg base (L2.CX P w) 5 a.f_value_at a.d_value_at ["line", "m"] ((c_value_at a).sp K) := by
  refine fn_ok (c_value_at a) T.f_value_at.F sc_value_at rfl (fun cdv A outer s H E xw hr po => ⟨_, _, (pdss_one (pds_ret (pd_ifExp (pdt_isN (pd_v 0) pd_non) pd_non (pd_callO T.call_Line (ok_Line___call__ T) (hr.mono (by decide)) T.m_Line___call__.b (pd_v 0) (pda_cons (pd_v 1) pda_nil))))), ?_⟩)
  intro ss kk xx hl h _
  unfold c_value_at at h
  dsimp only at h
  split at h
  · rename_i p m
    obtain ⟨hp, mo, h3⟩ := h
    rcases hp with rfl | ⟨i, j, rfl, sm⟩
    · exact h3
    · exact ⟨rfl, rfl, rfl, i, j, rfl, sm, mo.1, mo.2, h3⟩
  · exact h.elim
/-! ### raw items -/
def lineP (a : Ad) : D → D
  | .lst [.int i, .int j] => lineO a i j
  | _ => .non
def valP (m : Int) : D → D
  | .lst [.int i, .int j] => .int (i + j * m)
  | _ => .non
def RP (p : D) : Prop := p = .non ∨ ∃ i j, 0 ≤ i ∧ i ≤ 8 ∧ -1 ≤ j ∧ j ≤ 2 ∧ p = .lst [.int i, .int j]
theorem RP.ln {p : D} (h : RP p) : lnOk a (lineP a p) := by
  rcases h with rfl | ⟨i, j, i0, i8, j0, j2, rfl⟩
  · exact .inl rfl
  · exact .inr ⟨i, j, rfl, by omega, by omega, by omega, by omega⟩
theorem RP.val {p : D} (h : RP p) (m : Int) : valL m (lineP a p) = valP m p := by
  rcases h with rfl | ⟨i, j, i0, i8, j0, j2, rfl⟩ <;> rfl
theorem RP.rok {p : D} (h : RP p) : rOk a.C_Line (lineP a p) := by
  rcases h with rfl | ⟨i, j, i0, i8, j0, j2, rfl⟩
  · trivial
  · exact rfl
theorem RP.lnB {p : D} (h : RP p) : lnB a (lineP a p) = true := by
  rcases h with rfl | ⟨i, j, i0, i8, j0, j2, rfl⟩
  · rfl
  · show (isNon (lineO a i j) || isC a.C_Line (lineO a i j)) = true
    rw [show isC a.C_Line (lineO a i j) = true from decide_eq_true rfl]
    rfl
def lnF (a : Ad) : Nat → D → D
  | n + 1, .lst [_, p, .lst ys] => .tup [.str "times", lineP a p, .tup (ys.map (lnF a n))]
  | _, x => x
def vlF (m : Int) : Nat → D → D
  | n + 1, .lst [_, p, .lst ys] => .tup [.str "times", valP m p, .tup (ys.map (vlF m n))]
  | _, x => x
def wdsL : List Str := ["ann", "bob", "zz"]
def RI : Nat → D → Prop
  | 0, x => ∃ s ∈ wdsL, x = .str s
  | n + 1, x => (∃ s ∈ wdsL, x = .str s) ∨ ∃ p ys, x = .lst [.str "times", p, .lst ys] ∧ RP p ∧ (1 ≤ ys.length ∧ ys.length ≤ 3) ∧ ∀ y ∈ ys, RI n y
abbrev RIs (n : Nat) (xs : List D) : Prop := (1 ≤ xs.length ∧ xs.length ≤ 3) ∧ ∀ y ∈ xs, RI n y
theorem RI.cases {n : Nat} {x : D} (h : RI n x) : (∃ s ∈ wdsL, x = .str s) ∨ ∃ m p ys, n = m + 1 ∧ x = .lst [.str "times", p, .lst ys] ∧ RP p ∧ RIs m ys := by
  cases n with
  | zero => exact .inl h
  | succ m =>
    rcases h with h | ⟨p, ys, e, hp, l, hy⟩
    · exact .inl h
    · exact .inr ⟨m, p, ys, rfl, e, hp, l, hy⟩
theorem RI.up : ∀ {n : Nat} {x : D}, RI n x → RI (n + 1) x
  | 0, _, h => .inl h
  | n + 1, x, h => by
    rcases h with h | ⟨p, ys, e, hp, l, hy⟩
    · exact .inl h
    · exact .inr ⟨p, ys, e, hp, l, fun y m => (hy y m).up⟩
theorem RI.le {n m : Nat} {x : D} (h : RI n x) (l : n ≤ m) : RI m x := by
  induction l with
  | refl => exact h
  | step _ ih => exact ih.up
theorem RIs.le {n m : Nat} {xs : List D} (h : RIs n xs) (l : n ≤ m) : RIs m xs := ⟨h.1, fun y my => (h.2 y my).le l⟩
theorem wds_word {s : Str} (m : s ∈ wdsL) : isWordS s = true := by
  have : ∀ s ∈ wdsL, isWordS s = true := by decide +kernel
  exact this s m
theorem wds_low {s : Str} (m : s ∈ wdsL) : low s ∧ s.length ≤ 8 := word_low (wds_word m)
theorem lnF_str (n : Nat) (s : Str) : lnF a n (.str s) = .str s := by cases n <;> rfl
theorem vlF_str (m : Int) (n : Nat) (s : Str) : vlF m n (.str s) = .str s := by cases n <;> rfl
def c_items_at (a : Ad) (n : Nat) : Ctr where
  n := 2
  f := fun ss k _ => match ss with
    | [.d x, .d (.int m)] => ∃ xs, x = .tup (xs.map (lnF a n)) ∧ RIs n xs ∧ mOk m ∧ k (.d (.tup (xs.map (vlF m n))))
    | _ => False
  mono := fun {ss k k' x x'} hk _ h => by
    split at h
    · obtain ⟨xs, h1, h2, h3, h4⟩ := h
      exact ⟨xs, h1, h2, h3, hk _ h4⟩
    · exact h.elim
def cPrevI (a : Ad) : Nat → Ctr
  | 0 => cNo2 2
  | n + 1 => c_items_at a n
theorem ok_items0 (T : Txt P K mg a) {n : Nat} (ih : FnOk P w K mg base (L2.CX P w) (n + 6) a.f_items_at a.d_items_at ["items", "m"] ((cPrevI a n).sp K)) : FnOk P w K mg base (L2.CX P w) (n + 7) a.f_items_at a.d_items_at ["items", "m"] ((c_items_at a n).sp K) := by
  refine fn_ok (c_items_at a n) T.f_items_at.F sc_items_at rfl (fun cdv A outer s H E xw hr po => ⟨_, _, (pdss_one (pds_ret (pd_callTy call_tuple_of oc_tupOf T.n_tuple (by decide +kernel) (pda_cons (pd_lc (i := 2) rfl sc_items_at.nd (pdi_seq (pd_v 0)) (blkOk_by (N := ["items", "m", "item"]) (sc := defScope s_items_at) (own := [("item", 2)]) (by decide +kernel)) (fun _ _ _ _ _ => pg_name (i := 2) sc_items_at.nd rfl (Or.inl rfl)) (fun _ _ _ _ _ => pdts_nil) (fun _ _ _ _ _ => (pd_ifExp (pdt_val (pd_call (ok_is_word T) (hr.mono (by omega)) T.f_is_word.m T.f_is_word.F.kp T.f_is_word.b (pda_cons (pd_v 2) pda_nil))) (pd_v 2) (pd_tup (pda_cons pd_str (pda_cons (pd_call (ok_value_at T) (hr.mono (by omega)) T.f_value_at.m T.f_value_at.F.kp T.f_value_at.b (pda_cons (pd_ix (pd_v 2) pd_int) (pda_cons (pd_v 1) pda_nil))) (pda_cons (pd_call ih (hr.mono (by omega)) T.f_items_at.m T.f_items_at.F.kp T.f_items_at.b (pda_cons (pd_ix (pd_v 2) pd_int) (pda_cons (pd_v 1) pda_nil))) pda_nil))))))) pda_nil)))), ?_⟩)
  intro ss kk xx hl h _
  unfold c_items_at at h
  dsimp only at h
  split at h
  · rename_i x m
    obtain ⟨xs, rfl, ri, mo, h3⟩ := h
    have e3 : xs.map (vlF m n) = xs.map fun x => vlF m n x := rfl
    refine ⟨by rw [List.length_map]; have := ri.1.2; omega, lcD_mapG (f := lnF a n) (g := vlF m n) xs _ (fun x mx k' hk' => ?_) h3⟩
    rcases (ri.2 x mx).cases with ⟨s, ms, rfl⟩ | ⟨m', p, ys, rfl, rfl, hp, hy⟩
    · rw [lnF_str]
      rw [vlF_str] at hk'
      exact e_if (b := true) (fun k hk => t_b (b := true) (fun k hk => e_word (wds_word ms) (fun k hk => hk) hk) hk) (fun _ => hk') (fun q => nomatch q)
    · refine e_if (b := false) (fun k hk => t_b (b := false) (fun k hk => e_wordQ (y := lnF a (m' + 1) (.lst [.str "times", p, .lst ys])) (fun k hk => hk) rfl (fun s q => nomatch q) hk) hk) (fun q => nomatch q) (fun _ => ?_)
      exact ⟨rfl, hp.ln, mo, rfl, ys, rfl, hy, mo, len_ok rfl, by rw [hp.val]; exact hk'⟩
  · exact h.elim
theorem ok_items_n (T : Txt P K mg a) : ∀ n : Nat, FnOk P w K mg base (L2.CX P w) (n + 7) a.f_items_at a.d_items_at ["items", "m"] ((c_items_at a n).sp K)
  | 0 => ok_items0 (n := 0) T no_sp2
  | n + 1 => ok_items0 (n := n + 1) T (ok_items_n T n)
theorem ok_items_at (T : Txt P K mg a) : FnOk P w K mg base (L2.CX P w) 47 a.f_items_at a.d_items_at ["items", "m"] ((c_items_at a 40).sp K) := ok_items_n T 40
-- SPLIT
/-! ### papers at a number -/
theorem cut_to {xs : List D} {i : Int} (h0 : 0 ≤ i) (h1 : i ≤ (xs.length : Int)) : cutD xs none (some i) = xs.take i.toNat := by
  obtain ⟨m, rfl⟩ := Int.eq_ofNat_of_zero_le h0
  unfold cutD
  rw [HT.sIx_none, HT.sIx_nat, Nat.min_eq_left (by omega)]
  simp
theorem cut_from {xs : List D} {i : Int} (h0 : 0 ≤ i) : cutD xs (some i) none = xs.drop i.toNat := by
  obtain ⟨m, rfl⟩ := Int.eq_ofNat_of_zero_le h0
  unfold cutD
  rw [HT.sIx_none, HT.sIx_nat, Int.toNat_natCast]
  by_cases h : m ≤ xs.length
  · rw [Nat.min_eq_left h, List.take_of_length_le (by simp)]
  · rw [Nat.min_eq_right (by omega), List.drop_eq_nil_of_le (Nat.le_refl _), List.drop_eq_nil_of_le (by omega)]
    simp
theorem e_cut {e : DE} {xs : List D} {i : Int} {Γ : Gm} {k : DK} (i0 : 0 ≤ i) (he : ∀ k : DK, k (.d (.tup xs)) → e Γ k) (hk : k (.d (.tup (xs.drop i.toNat)))) : dCut e (doSome (dC (.int i))) doNone Γ k := he _ (by
  show k (.d (.tup (cutD xs (some i) none)))
  rw [cut_from i0]
  exact hk)
theorem e_cutT {e : DE} {xs : List D} {i : Int} {Γ : Gm} {k : DK} (i0 : 0 ≤ i) (il : i ≤ (xs.length : Int)) (he : ∀ k : DK, k (.d (.tup xs)) → e Γ k) (hk : k (.d (.tup (xs.take i.toNat)))) : dCut e doNone (doSome (dC (.int i))) Γ k := he _ (by
  show k (.d (.tup (cutD xs none (some i))))
  rw [cut_to i0 il]
  exact hk)
theorem e_tup3 {k : DK} {Γ : Gm} {e0 e1 e2 : DE} {x0 x1 x2 : Dv.D} (h0 : ∀ k : DK, k (.d x0) → e0 Γ k) (h1 : ∀ k : DK, k (.d x1) → e1 Γ k) (h2 : ∀ k : DK, k (.d x2) → e2 Γ k) (h : k (.d (.tup [x0, x1, x2]))) : dTup (dCons e0 (dCons e1 (dCons e2 dNil))) Γ k := h0 _ (h1 _ (h2 _ ⟨len_ok rfl, h⟩))
def lead (a : Ad) (w : Str) (vs xs : List D) : List D := [.str w, .tup (vs.map (lineP a)), .tup (xs.map (lnF a 40))]
def papL (a : Ad) (w : Str) (vs xs tl : List D) : D := .tup (lead a w vs xs ++ tl)
def papV (m : Int) (w : Str) (vs xs tl : List D) : D := .tup ([.str w, .tup (vs.map (valP m)), .tup (xs.map (vlF m 40))] ++ tl)
structure PapOk (w : Str) (vs xs tl : List D) : Prop where
  hv : ∀ p ∈ vs, RP p
  few : vs.length ≤ 10
  hx : RIs 40 xs
  ht : (w = "enough" ∧ tl = []) ∨ (w = "stuck" ∧ ∃ kn : List Str, tl = [.tup (kn.map D.str)] ∧ kn.length ≤ 10 ∧ ∀ z ∈ kn, low z)
def PapR (a : Ad) (x m : D) (k : DK) : Prop := ∃ w vs xs tl i, x = papL a w vs xs tl ∧ PapOk w vs xs tl ∧ m = .int i ∧ k (.d (papV i w vs xs tl))
def c_paper_at (a : Ad) : Ctr where
  n := 2
  f := fun ss k xx => match ss with
    | [.d x, .d m] => AskP a x ∧ isObj m = false ∧ cond (formD a x) (cond (btw 0 top30 m) (PapR a x m k) (xx a.C_BadNumber (bad m))) (xx a.C_BadPaper (bad x))
    | _ => False
  mono := fun {ss k k' x x'} hk hx h => by
    split at h
    · rename_i y m
      refine ⟨h.1, h.2.1, ?_⟩
      have q := h.2.2
      revert q
      cases formD a y
      · exact hx _ _
      · cases btw 0 top30 m
        · exact hx _ _
        · rintro ⟨w, vs, xs, tl, i, h1, h2, h3, h4⟩
          exact ⟨w, vs, xs, tl, i, h1, h2, h3, hk _ h4⟩
    · exact h.elim
theorem PapOk.tl1 {w : Str} {vs xs tl : List D} (h : PapOk w vs xs tl) : tl.length ≤ 1 := by
  rcases h.ht with ⟨_, rfl⟩ | ⟨_, kn, rfl, _⟩
  · exact Nat.zero_le _
  · exact Nat.le_refl _
theorem btw_m {i : Int} (h : btw 0 top30 (.int i) = true) : mOk i := by
  have z : (decide (0 ≤ i) && decide (i ≤ top30)) = true := h
  rw [Bool.and_eq_true, decide_eq_true_eq, decide_eq_true_eq] at z
  exact z
theorem e_btw {e : DE} {x : D} {lo hi : Int} {Γ : Gm} {k : DK} (he : ∀ k : DK, k (.d x) → e Γ k) (o : isObj x = false) (hk : k (.d (.bl (btw lo hi x)))) : dCall c_is_between xw0 (dCons e (dCons (dC (.int lo)) (dCons (dC (.int hi)) dNil))) Γ k := he _ ⟨rfl, o, hk⟩
theorem ok_paper_at (T : Txt P K mg a) : FnOk P w K mg base (L2.CX P w) 50 a.f_paper_at a.d_paper_at ["paper", "m"] ((c_paper_at a).sp K) := by
  refine fn_ok (c_paper_at a) T.f_paper_at.F sc_paper_at rfl (fun cdv A outer s H E xw hr po => ⟨_, _, (pdss_cons (pds_if (pdt_not (pdt_val (pd_call (ok_is_lined_form T) (hr.mono (by decide)) T.f_is_lined_form.m T.f_is_lined_form.F.kp T.f_is_lined_form.b (pda_cons (pd_v 0) pda_nil))))
  (pdss_one (pds_raise rfl T.room T.c_BadPaper hr (pda_cons (pd_v 0) pda_nil)))
  pdss_nil)
  (pdss_cons (pds_if (pdt_not (pdt_val (pd_call (ok_is_between T) (hr.mono (by decide)) T.f_is_between.m T.f_is_between.F.kp T.f_is_between.b (pda_cons (pd_v 1) (pda_cons pd_int (pda_cons (pd_gI T.g_MOST_NUMBER) pda_nil))))))
  (pdss_one (pds_raise rfl T.room T.c_BadNumber hr (pda_cons (pd_v 1) pda_nil)))
  pdss_nil)
  (pdss_one (pds_ret (pd_add (pd_tup (pda_cons (pd_ix (pd_v 0) pd_int) (pda_cons (pd_callTy call_tuple_of oc_tupOf T.n_tuple (by decide +kernel) (pda_cons (pd_lc (i := 2) rfl sc_paper_at.nd (pdi_seq (pd_ix (pd_v 0) pd_int)) (blkOk_by (N := ["paper", "m", "line"]) (sc := defScope s_paper_at) (own := [("line", 2)]) (by decide +kernel)) (fun _ _ _ _ _ => pg_name (i := 2) sc_paper_at.nd rfl (Or.inl rfl)) (fun _ _ _ _ _ => pdts_nil) (fun _ _ _ _ _ => (pd_call (ok_value_at T) (hr.mono (by decide)) T.f_value_at.m T.f_value_at.F.kp T.f_value_at.b (pda_cons (pd_v 2) (pda_cons (pd_v 1) pda_nil))))) pda_nil)) (pda_cons (pd_call (ok_items_at T) (hr.mono (by decide)) T.f_items_at.m T.f_items_at.F.kp T.f_items_at.b (pda_cons (pd_ix (pd_v 0) pd_int) (pda_cons (pd_v 1) pda_nil))) pda_nil)))) (pd_cut (pd_v 0) (pdo_some pd_int) pdo_none)))))), ?_⟩)
  intro ss kk xx hl h ew
  subst ew
  unfold c_paper_at at h
  dsimp only at h
  split at h
  · rename_i x m
    obtain ⟨g, om, h3⟩ := h
    refine s_if (b := !formD a x) (fun k hk => t_not (b := formD a x) (fun k hk => t_b (b := formD a x) (fun k hk => ⟨rfl, g, hk⟩) hk) hk) (fun e => ?_) (fun e => ?_)
    · rw [Bool.not_eq_true'] at e
      rw [e] at h3
      exact h3
    rw [Bool.not_eq_false'] at e
    rw [e] at h3
    refine s_if (b := !btw 0 top30 m) (fun k hk => t_not (b := btw 0 top30 m) (fun k hk => t_b (b := btw 0 top30 m) (fun k hk => e_btw (fun k hk => hk) om hk) hk) hk) (fun e => ?_) (fun e => ?_)
    · rw [Bool.not_eq_true'] at e
      rw [e] at h3
      exact h3
    rw [Bool.not_eq_false'] at e
    rw [e] at h3
    obtain ⟨w, vs, xs, tl, i, rfl, pk, rfl, h4⟩ := h3
    have mo := btw_m e
    have l1 := pk.tl1
    have e1 : ∀ k : DK, k (.d (.tup [.str w, .tup (vs.map (valP i)), .tup (xs.map (vlF i 40))])) → (dTup (dCons (dOp gIx (dVar 0) (dC (.int 0))) (dCons (dCB gTupOf (dCons (dLc 2 (diSeq (dOp gIx (dVar 0) (dC (.int 1)))) dYes (dCall (c_value_at a) xw0 (dCons (dVar 2) (dCons (dVar 1) dNil)))) dNil)) (dCons (dCall (c_items_at a 40) xw0 (dCons (dOp gIx (dVar 0) (dC (.int 2))) (dCons (dVar 1) dNil))) dNil)))) [.d (papL a w vs xs tl), .d (.int i), .any] k := fun k hk => by
      refine e_tup3 (x0 := .str w) (x1 := .tup (vs.map (valP i))) (x2 := .tup (xs.map (vlF i 40))) (fun k hk => e_ixN (i := 0) (j := 0) (xs := lead a w vs xs ++ tl) rfl rfl (fun k hk => hk) hk) (fun k hk => ?_) (fun k hk => ?_) hk
      · have src : ∀ k : List D → Prop, k (vs.map (lineP a)) → (diSeq (dOp gIx (dVar 0) (dC (.int 1)))) [.d (papL a w vs xs tl), .d (.int i), .any] k := fun k hk => e_ixN (i := 1) (j := 1) (xs := lead a w vs xs ++ tl) (y := .tup (vs.map (lineP a))) rfl rfl (fun k hk => hk) hk
        refine src _ ⟨by rw [List.length_map]; have := pk.few; omega, lcD_mapG (f := lineP a) (g := valP i) vs _ (fun p mp k' hk' => ?_) hk⟩
        refine ⟨rfl, (pk.hv p mp).ln, mo, ?_⟩
        rw [(pk.hv p mp).val]
        exact hk'
      · exact e_ixN (i := 2) (j := 2) (xs := lead a w vs xs ++ tl) (y := .tup (xs.map (lnF a 40))) rfl rfl (fun k hk => hk) ⟨rfl, xs, rfl, pk.hx, mo, hk⟩
    refine s_ret (x := papV i w vs xs tl) (fun k hk => ?_) h4
    refine e1 _ ?_
    refine e_cut (i := 3) (xs := lead a w vs xs ++ tl) (by decide) ?_ ?_
    · exact fun k hk => hk
    refine ⟨?_, hk⟩
    show 3 + tl.length ≤ 100000
    omega
  · exact h.elim
def c_check_number (a : Ad) : Ctr where
  n := 1
  f := fun ss k _ => match ss with
    | [.d (.int i)] => mOk i ∧ k (.d .non)
    | _ => False
  mono := fun {ss k k' x x'} hk _ h => by
    split at h
    · exact ⟨h.1, hk _ h.2⟩
    · exact h.elim
theorem ok_check_number (T : Txt P K mg a) : FnOk P w K mg base (L2.CX P w) 3 a.f_check_number a.d_check_number ["n"] ((c_check_number a).sp K) := by
  refine fn_ok (c_check_number a) T.f_check_number.F sc_check_number rfl (fun cdv A outer s H E xw hr po => ⟨_, _, (pdss_one (pds_if (pdt_not (pdt_val (pd_call (ok_is_between T) (hr.mono (by decide)) T.f_is_between.m T.f_is_between.F.kp T.f_is_between.b (pda_cons (pd_v 0) (pda_cons pd_int (pda_cons (pd_gI T.g_MOST_NUMBER) pda_nil))))))
  (pdss_one (pds_raise rfl T.room T.c_BadNumber hr (pda_cons (pd_v 0) pda_nil)))
  pdss_nil)), ?_⟩)
  intro ss kk xx hl h ew
  unfold c_check_number at h
  dsimp only at h
  split at h
  · rename_i i
    refine s_ifZ (b := false) (fun k hk => t_not (b := true) (fun k hk => t_b (b := true) (fun k hk => e_btw (fun k hk => hk) rfl ?_) hk) hk) (fun q => nomatch q) (fun _ => h.2)
    show k (.d (.bl (decide (0 ≤ i) && decide (i ≤ top30))))
    rw [decide_eq_true h.1.1, decide_eq_true h.1.2]
    exact hk
  · exact h.elim
def c_check_first_step (a : Ad) : Ctr where
  n := 2
  f := fun ss k _ => match ss with
    | [.d (.int i), .d (.int j)] => i = 0 ∧ j = 1 ∧ k (.d .non)
    | _ => False
  mono := fun {ss k k' x x'} hk _ h => by
    split at h
    · exact ⟨h.1, h.2.1, hk _ h.2.2⟩
    · exact h.elim
theorem ok_check_first_step (T : Txt P K mg a) : FnOk P w K mg base (L2.CX P w) 5 a.f_check_first_step a.d_check_first_step ["first", "step"] ((c_check_first_step a).sp K) := by
  refine fn_ok (c_check_first_step a) T.f_check_first_step.F sc_check_first_step rfl (fun cdv A outer s H E xw hr po => ⟨_, _, (pdss_cons (pds_expr (pd_callX (ok_check_number T) (hr.mono (by decide)) T.f_check_number.m T.f_check_number.F.kp T.f_check_number.b (pda_cons (pd_v 0) pda_nil)))
  (pdss_one (pds_if (pdt_not (pdt_val (pd_call (ok_is_between T) (hr.mono (by decide)) T.f_is_between.m T.f_is_between.F.kp T.f_is_between.b (pda_cons (pd_v 1) (pda_cons pd_int (pda_cons (pd_gI T.g_MOST_STEP) pda_nil))))))
  (pdss_one (pds_raise rfl T.room T.c_BadNumber hr (pda_cons (pd_v 1) pda_nil)))
  pdss_nil))), ?_⟩)
  intro ss kk xx hl h ew
  unfold c_check_first_step at h
  dsimp only at h
  split at h
  · obtain ⟨rfl, rfl, h⟩ := h
    refine ⟨rfl, ⟨by decide, by decide +kernel⟩, ?_⟩
    show ((dIfS (dNot (dB (dCall c_is_between xw0 (dCons (dVar 1) (dCons (dC (.int 1)) (dCons (dC (.int 9)) dNil)))))) (dRaise a.C_BadNumber xw (dCons (dVar 1) dNil)) dNext) : DS) _ [.d (.int 0), .d (.int 1)]
    refine s_ifZ (b := false) (fun k hk => t_not (b := true) (fun k hk => t_b (b := true) (fun k hk => ?_) hk) hk) (fun q => nomatch q) (fun _ => ?_)
    · exact e_btw (x := .int 1) (lo := 1) (hi := 9) (fun k hk => hk) rfl hk
    · exact h
  · exact h.elim
def c_is_lined (a : Ad) : Ctr where
  n := 4
  f := fun ss k _ => match ss with
    | [.d (.obj C fs), .d (.int i), .d (.int j), .d x] => C = a.C_Net ∧ i = 0 ∧ j = 1 ∧ AskP a x ∧ formD a x = false ∧ k (.d (.bl false))
    | _ => False
  mono := fun {ss k k' x x'} hk _ h => by
    split at h
    · exact ⟨h.1, h.2.1, h.2.2.1, h.2.2.2.1, h.2.2.2.2.1, hk _ h.2.2.2.2.2⟩
    · exact h.elim
theorem ok_is_lined (T : Txt P K mg a) : FnOk P w K mg base (L2.CX P w) 50 a.f_is_lined a.d_is_lined ["net", "first", "step", "thing"] ((c_is_lined a).sp K) := by
  refine fn_ok (c_is_lined a) T.f_is_lined.F sc_is_lined rfl (fun cdv A outer s H E xw hr po => ⟨_, _, (pdss_cons (pds_expr (pd_callX (ok_check_net T) (hr.mono (by decide)) T.f_check_net.m T.f_check_net.F.kp T.f_check_net.b (pda_cons (pd_v 0) pda_nil)))
  (pdss_cons (pds_expr (pd_callX (ok_check_first_step T) (hr.mono (by decide)) T.f_check_first_step.m T.f_check_first_step.F.kp T.f_check_first_step.b (pda_cons (pd_v 1) (pda_cons (pd_v 2) pda_nil))))
  (pdss_cons (pds_if (pdt_not (pdt_val (pd_call (ok_is_lined_form T) (hr.mono (by decide)) T.f_is_lined_form.m T.f_is_lined_form.F.kp T.f_is_lined_form.b (pda_cons (pd_v 3) pda_nil))))
  (pdss_one (pds_ret pd_bl))
  pdss_nil)
  pdss_dead))), ?_⟩)
  intro ss kk xx hl h ew
  unfold c_is_lined at h
  dsimp only at h
  split at h
  · rename_i C fs i j x
    obtain ⟨rfl, rfl, rfl, g, f, h3⟩ := h
    refine ⟨rfl, rfl, rfl, rfl, rfl, ?_⟩
    dsimp only
    refine s_if (b := true) (fun k hk => t_not (b := false) (fun k hk => t_b (b := false) (fun k hk => ?_) hk) hk) (fun _ => ?_) (fun q => nomatch q)
    · exact ⟨rfl, g, by rw [f]; exact hk⟩
    · exact h3
  · exact h.elim
-- SPLIT
theorem ok__law_pool (T : Txt P K mg a) : FnOk P w K mg base (L2.CX P w) 1 a.f__law_pool a.d__law_pool ["_law_script", "_law_k"] (spPool K) := by
  refine T.f__law_pool.F.okX sc__law_pool (fun vs H Q E h => ?_) (fun cdv A outer s H vs Q E hr h => ?_)
  · obtain ⟨_, _, _, _, _, _, rfl, _⟩ := h
    rfl
  · obtain ⟨c, ad, ns, j, eK, hi, rfl, hS, hl, h0, h1, k⟩ := h
    refine ⟨_, pss_cons (ps_set (i := 2) sc__law_pool.nd rfl (.inl rfl) (pe_ifExp (pt_cmpR op_lt (pv 1) (pe_callB call_len_seq (by rfl) T.n_len PySem.boot_len (pa_cons (pv 0) pa_nil)) (nomark _)) (pe_ix ix_list (pv 0) (pv 1) (fun _ _ => rfl)) pe_int))
      (pss_cons (ps_set (i := 3) sc__law_pool.nd rfl (.inl rfl) (pe_op op_mulW (pe_callTy call_int1 (by rfl) T.n_int (by decide +kernel) (pa_cons (pe_op op_add (pe_op op_add (pe_op op_mod (pe_callTy call_int1 (by rfl) T.n_int (by decide +kernel) (pa_cons (pv 2) pa_nil)) pe_int) (pe_op op_mulW (pe_op op_mulW pe_int (pv 1)) (pv 1))) pe_int) pa_nil)) pe_int))
      (pss_one (ps_ret (pe_lst (pa_cons (pe_ifExp (pt_cmpR op_ge (pv 2) (pe_op op_pow pe_int pe_int) (nomark _)) (pv 2) pe_int) (pa_cons (pe_op op_add (pe_op op_mod (pe_callTy call_int1 (by rfl) T.n_int (by decide +kernel) (pa_cons (pv 3) pa_nil)) pe_int) pe_int) pa_nil)))))), ?_⟩
    refine ⟨_, rfl, _, rfl, ad, _, rfl, .inl hS, _, _, rfl, rfl, _, rfl, ?_⟩
    have fin : ∀ cell : Int, tSeq (tAsg (tOp (rI CMulW fun i j => V.int (i * j)) (tCB (fun xs H Q => (∃ i, xs = [V.int i] ∧ Q (V.int i) H) ∨ ∃ k, xs = [V.bl k] ∧ Q (V.int (if k = true then 1 else 0)) H) (tCons (tOp (rI0 fun i j => V.int (i + j)) (tOp (rI0 fun i j => V.int (i + j)) (tOp (rI (fun _ j => 0 < j) fun i j => V.int (i % j)) (tCB (fun xs H Q => (∃ i, xs = [V.int i] ∧ Q (V.int i) H) ∨ ∃ k, xs = [V.bl k] ∧ Q (V.int (if k = true then 1 else 0)) H) (tCons (tVar 2) tNil)) (tC (V.int 2147483629))) (tOp (rI CMulW fun i j => V.int (i * j)) (tOp (rI CMulW fun i j => V.int (i * j)) (tC (V.int 7919)) (tVar 1)) (tVar 1))) (tC (V.int 13))) tNil)) (tC (V.int 48271))) (gName 3))
        (tRet (tLst (tCons (tIf (tTest (tOp (rI0 fun i j => V.bl (decide (j ≤ i))) (tVar 2) (tOp (rI CPow fun i j => V.int (i ^ j.toNat)) (tC (V.int 10)) (tC (V.int 18))))) (tVar 2) (tC (V.int 0))) (tCons (tOp (rI0 fun i j => V.int (i + j)) (tOp (rI (fun _ j => 0 < j) fun i j => V.int (i % j)) (tCB (fun xs H Q => (∃ i, xs = [V.int i] ∧ Q (V.int i) H) ∨ ∃ k, xs = [V.bl k] ∧ Q (V.int (if k = true then 1 else 0)) H) (tCons (tVar 3) tNil)) (tC (V.int 2147483647))) (tC (V.int 1))) tNil)))) { nx := fun _ H' => Q .non H', rt := Q } [some (.ref ad), some (.int j), some (.int cell), none] H := by
      intro cell
      have b1 : (j.natAbs : Int) < 100 := by omega
      have j7 : j.natAbs < 2 ^ 7 := by omega
      have e1 : CMulW 7919 j := mulW_of (a := 13) (b := 7) (by decide) j7 (by decide) (by decide) (by decide)
      have e2 : CMulW (7919 * j) j := mulW_of (a := 20) (b := 7) (by omega) j7 (by decide) (by decide) (by decide)
      have n0 : 0 ≤ cell % 2147483629 := Int.emod_nonneg _ (by decide)
      have n1 : cell % 2147483629 < 2147483629 := Int.emod_lt_of_pos _ (by decide)
      have s0 : 0 ≤ 7919 * j * j := Int.mul_nonneg (by omega) h0
      have s1 : 7919 * j * j ≤ 7919 * 100 * 100 := Int.mul_le_mul (by omega) (by omega) h0 (by decide)
      have e3 : CMulW (cell % 2147483629 + 7919 * j * j + 13) 48271 := mulW_of (a := 33) (b := 16) (by omega) (by decide) (by decide) (by decide) (by decide)
      refine ⟨_, rfl, .inl ⟨_, rfl, _, _, rfl, rfl, (by show (0 : Int) < 2147483629; decide), _, rfl, _, _, rfl, rfl, e1, _, rfl, _, _, rfl, rfl, e2, _, _, rfl, rfl, _, _, rfl, rfl, .inl ⟨_, rfl, _, _, rfl, rfl, e3, ?_⟩⟩⟩
      refine ⟨_, rfl, _, _, rfl, rfl, ⟨by decide, by decide, by decide⟩, _, _, rfl, rfl, _, rfl, ?_⟩
      have m0 := Int.emod_nonneg ((cell % 2147483629 + 7919 * j * j + 13) * 48271) (b := 2147483647) (by decide)
      have m1 := Int.emod_lt_of_pos ((cell % 2147483629 + 7919 * j * j + 13) * 48271) (b := 2147483647) (by decide)
      refine ite2 (fun _ => ?_) (fun _ => ?_)
      · refine ⟨_, rfl, _, rfl, .inl ⟨_, rfl, _, _, rfl, rfl, (by show (0 : Int) < 2147483647; decide), _, _, rfl, rfl, (by show 2 ≤ sizeLine; decide), fun p np => ?_⟩⟩
        exact k p _ _ np (by omega) (by omega)
      · refine ⟨_, rfl, .inl ⟨_, rfl, _, _, rfl, rfl, (by show (0 : Int) < 2147483647; decide), _, _, rfl, rfl, (by show 2 ≤ sizeLine; decide), fun p np => ?_⟩⟩
        exact k p _ _ np (by omega) (by omega)
    refine ite2 (fun hlt => ?_) (fun _ => ?_)
    · have lt : j < (ns.length : Int) := by simpa using hlt
      have lj : j.toNat < ns.length := by omega
      have at_ : atI (ns.map V.int) j = some (V.int ns[j.toNat]) := by
        have z := atI_nat (xs := ns.map V.int) (j := j.toNat) (v := V.int ns[j.toNat]) (by rw [List.getElem?_map, List.getElem?_eq_getElem lj]; rfl)
        rwa [Int.toNat_of_nonneg h0] at z
      exact ⟨_, rfl, _, rfl, ad, _, j, _, rfl, rfl, hS, at_, fin _⟩
    · exact fin 0
theorem ok__law_take (T : Txt P K mg a) : FnOk P w K mg base (L2.CX P w) 1 a.f__law_take a.d__law_take ["_law_pool_here", "_law_many"] (cTake.sp K) := by
  refine T.f__law_take.F.okX sc__law_take (fun vs H Q E h => ?_) (fun cdv A outer s H vs Q E hr h => ?_)
  · obtain ⟨_, ss, _, _, r, hl, _⟩ := h
    rw [paired_len r, hl]
    rfl
  · obtain ⟨c, ss, eK, hi, r, hl, hf⟩ := h
    unfold cTake at hf
    dsimp only at hf
    split at hf
    · rename_i m
      obtain ⟨m0, m9, k⟩ := hf
      obtain ⟨v, w', rfl, ⟨p, ep, hp⟩, r2⟩ := paired2 r
      cases ep
      have e2 := sl_int r2
      subst e2
      obtain ⟨l, hH, x, y, rfl, y0, y1⟩ := c.plAt hi hp
      have sq : ∀ {H' : Hp} {x y : Int}, H' p = some (.lst [.int x, .int y]) → SqL K H' p [.int x, .int y] := fun h => .inl (.inl h)
      have div9 : CDivW x m := ⟨m0, m9⟩
      refine ⟨_, pss_cons (ps_if (pt_cmpR op_gt (pe_ix ix_list (pv 0) pe_int (fun _ _ => rfl)) pe_int (nomark _))
          (pss_cons (ps_set (i := 2) sc__law_take.nd rfl (.inl rfl) (pe_op op_mod (pe_callTy call_int1 (by rfl) T.n_int (by decide +kernel) (pa_cons (pe_ix ix_list (pv 0) pe_int (fun _ _ => rfl)) pa_nil)) (pv 1)))
            (pss_cons (ps_asg (pe_op op_fdivW (pe_ix ix_list (pv 0) pe_int (fun _ _ => rfl)) (pv 1)) (pg_sub (pv 0) pe_int set_list)) (pss_one (ps_ret (pv 2))))) pss_nil)
        (pss_cons (ps_asg (pe_op op_mod (pe_callTy call_int1 (by rfl) T.n_int (by decide +kernel) (pa_cons (pe_op op_add (pe_op op_mulW (pe_ix ix_list (pv 0) pe_int (fun _ _ => rfl)) pe_int) pe_int) pa_nil)) pe_int) (pg_sub (pv 0) pe_int set_list))
          (pss_one (ps_ret (pe_op op_mod (pe_op op_fdivW (pe_op op_mod (pe_callTy call_int1 (by rfl) T.n_int (by decide +kernel) (pa_cons (pe_op op_mulW (pe_ix ix_list (pv 0) pe_int (fun _ _ => rfl)) (pe_ix ix_list (pv 0) pe_int (fun _ _ => rfl))) pa_nil)) pe_int) pe_int) (pv 1))))), ?_⟩
      refine ⟨_, rfl, p, _, 0, _, rfl, rfl, sq hH, rfl, _, _, rfl, rfl, _, rfl, ?_⟩
      refine ite2 (fun _ => ?_) (fun _ => ?_)
      · refine ⟨_, rfl, p, _, 0, _, rfl, rfl, sq hH, rfl, .inl ⟨_, rfl, _, rfl, _, _, rfl, rfl, m0, _, rfl, p, _, 0, _, rfl, rfl, sq hH, rfl, _, rfl, _, _, rfl, rfl, div9, _, rfl, p, _, 0, 0, rfl, rfl, hH, rfl, ?_⟩⟩
        refine ⟨_, rfl, ?_⟩
        exact k _ (Int.emod_nonneg _ (by omega)) (Int.emod_lt_of_pos _ m0) _ _ ⟨fun b o nb _ eb => by
          rw [upd_ne (fun z => nb (by rw [z]; exact c.plG hp))]
          exact eb, c.plPut hi hp ⟨_, y, rfl, y0, y1⟩⟩ ⟨_, rfl, .int _⟩
      · have q0 := Int.emod_nonneg (y * 48271 + 11) (b := 2147483647) (by decide)
        have q1 := Int.emod_lt_of_pos (y * 48271 + 11) (b := 2147483647) (by decide)
        refine ⟨_, rfl, p, _, 1, _, rfl, rfl, sq hH, rfl, _, _, rfl, rfl, mulW_of (a := 33) (b := 16) (by omega) (by decide) (by decide) (by decide) (by decide), _, _, rfl, rfl, .inl ⟨_, rfl, _, _, rfl, rfl, (by show (0 : Int) < 2147483647; decide), _, rfl, p, _, 1, 1, rfl, rfl, hH, rfl, ?_⟩⟩
        have hH2 : upd H p (.lst [.int x, .int ((y * 48271 + 11) % 2147483647)]) p = some (.lst [.int x, .int ((y * 48271 + 11) % 2147483647)]) := upd_same
        refine ⟨_, rfl, p, _, 1, _, rfl, rfl, sq hH2, rfl, _, rfl, p, _, 1, _, rfl, rfl, sq hH2, rfl, _, _, rfl, rfl, mulW_of (a := 33) (b := 33) (by omega) (by omega) (by decide) (by decide) (by decide), .inl ⟨_, rfl, _, _, rfl, rfl, (by show (0 : Int) < 2147483629; decide), _, _, rfl, rfl, ⟨by decide, by decide⟩, _, rfl, _, _, rfl, rfl, m0, ?_⟩⟩
        exact k _ (Int.emod_nonneg _ (by omega)) (Int.emod_lt_of_pos _ m0) _ _ ⟨fun b o nb _ eb => by
          rw [upd_ne (fun z => nb (by rw [z]; exact c.plG hp))]
          exact eb, c.plPut hi hp ⟨x, _, rfl, q0, by omega⟩⟩ ⟨_, rfl, .int _⟩
    · exact hf.elim
/-! ### draws -/
theorem e_take {n : Int} {m : DE} {Γ : Gm} {p : Nat} {k : DK} (h0 : 0 < n) (h9 : n < 1000) (hp : Γ[p]? = some .pool) (hm : ∀ k : DK, k (.d (.int n)) → m Γ k) (hk : ∀ r : Int, 0 ≤ r → r < n → k (.d (.int r))) : dCall cTake xw0 (dCons (dVar p) (dCons m dNil)) Γ k := by
  have v : ∀ k2 : DK, k2 .pool → dVar p Γ k2 := fun k2 h => by
    unfold dVar
    rw [hp]
    exact h
  show dVar p Γ fun s => m Γ fun t => [s, t].length = cTake.n ∧ cTake.f [s, t] (fun u => k u) fun A p => xw0 A p Γ
  refine v _ (hm _ ⟨rfl, h0, ?_, fun r r0 r1 => hk r r0 r1⟩)
  exact Nat.lt_of_le_of_lt (Nat.log2_le_self n.natAbs) (by omega)
/-- 1 + take(pool, n) -/
theorem e_take1 {n : Int} {m : DE} {Γ : Gm} {p : Nat} {k : DK} (h0 : 0 < n) (h9 : n < 1000) (hp : Γ[p]? = some .pool) (hm : ∀ k : DK, k (.d (.int n)) → m Γ k) (hk : ∀ r : Int, 1 ≤ r → r ≤ n → k (.d (.int r))) : dOp gAdd (dC (.int 1)) (dCall cTake xw0 (dCons (dVar p) (dCons m dNil))) Γ k :=
  e_take h0 h9 hp hm fun r r0 r1 => hk (1 + r) (by omega) (by omega)
/-- xs[take(pool, n)] -/
theorem e_pick {xs : List D} {n : Nat} {e m : DE} {Γ : Gm} {p : Nat} {k : DK} (hl : xs.length = n) (h0 : 0 < n) (h9 : n < 1000) (he : ∀ k : DK, k (.d (.lst xs)) → e Γ k) (hp : Γ[p]? = some .pool) (hm : ∀ k : DK, k (.d (.int n)) → m Γ k) (hk : ∀ x ∈ xs, k (.d x)) :
    dOp gIx e (dCall cTake xw0 (dCons (dVar p) (dCons m dNil))) Γ k := by
  refine he _ ?_
  show dCall cTake xw0 (dCons (dVar p) (dCons m dNil)) Γ fun u => gIx (.d (.lst xs)) u k
  refine e_take (n := n) (by omega) (by omega) hp hm fun r r0 r1 => ?_
  have lt : r.toNat < xs.length := by omega
  have e2 : atI xs r = some xs[r.toNat] := by
    have z := atI_nat (xs := xs) (j := r.toNat) (v := xs[r.toNat]) (List.getElem?_eq_getElem lt)
    rwa [Int.toNat_of_nonneg r0] at z
  show (match atI xs r with
    | some x => k (.d x)
    | none => False)
  rw [e2]
  exact hk _ (List.getElem_mem lt)
/-- take(pool, n) == i -/
theorem t_take {n i : Int} {m : DE} {Γ : Gm} {p : Nat} {k : Bool → Prop} (h0 : 0 < n) (h9 : n < 1000) (hp : Γ[p]? = some .pool) (hm : ∀ k : DK, k (.d (.int n)) → m Γ k) (hk : ∀ c, k c) : dB (dOp gEq (dCall cTake xw0 (dCons (dVar p) (dCons m dNil))) (dC (.int i))) Γ k :=
  e_take h0 h9 hp hm fun r _ _ => ⟨lay_ok (lay_int r 1) (by decide), lay_ok (lay_int i 1) (by decide), hk _⟩
-- SPLIT
/-! ### steps of draws -/
def clrS (k : Nat) : Sl → Sl
  | .own j x => if j = k then .any else .own j x
  | s => s
theorem s_ifT {t : DT} {A B : DS} {E : DEnds} {Γ : Gm} (h : ∀ k : Bool → Prop, (∀ c, k c) → t Γ k) (hA : A { E with nx := B E } Γ) (hB : B E Γ) : dSeq (dIfS t A dNext) B E Γ := by
  refine h _ fun c => ?_
  cases c
  · exact hB
  · exact hA
theorem s_ifAnd {t u : DT} {A B : DS} {E : DEnds} {Γ : Gm} {b : Bool} (h : ∀ k : Bool → Prop, k b → t Γ k) (h' : ∀ k : Bool → Prop, (∀ c, k c) → u Γ k) (hA : A E Γ) (hB : B E Γ) : dIfS (dAnd t u) A B E Γ := by
  refine h _ ?_
  cases b with
  | false => exact hB
  | true =>
    refine h' _ fun c => ?_
    cases c
    · exact hB
    · exact hA
theorem e_lstN {e0 e1 : DE} {Γ : Gm} {E : DEnds} (h : e0 Γ fun s => e1 Γ fun t => (match unD [s, t] with
    | some ds => ds.length ≤ 100000 ∧ E.rt (.d (.lst ds))
    | none => False)) : dRet (dLst (dCons e0 (dCons e1 dNil))) E Γ := h
theorem e_call2 {C : Ctr} {e0 e1 : DE} {Γ : Gm} {k : DK} {x y : Sl} (h0 : ∀ k : DK, k x → e0 Γ k) (h1 : ∀ k : DK, k y → e1 Γ k) (hn : 2 = C.n) (hk : C.f [x, y] k fun A p => xw0 A p Γ) : dCall C xw0 (dCons e0 (dCons e1 dNil)) Γ k := h0 _ (h1 _ ⟨hn, hk⟩)
theorem s_rng {g : DG} {b R : DS} {e : DE} {E : DEnds} {Γ : Gm} {lo hi : Int} (he : ∀ k : DK, (∀ r : Int, lo ≤ r → r ≤ hi → k (.d (.int r))) → e Γ k) (l0 : 0 ≤ lo) (l1 : hi ≤ 1000) (h : ∀ m : Int, lo ≤ m → m ≤ hi → forD g b { E with nx := R E } (intsFrom 0 m.toNat) Γ) : dSeq (dFor (diRange1 (dCons e dNil)) g b) R E Γ := he _ fun r r0 r1 => ⟨⟨by omega, by omega⟩, h r r0 r1⟩
/-! ### what is drawn -/
def c__law_line : Ctr where
  n := 1
  f := fun ss k _ => match ss with
    | [.pool] => ∀ p, RP p → k (.d p)
    | _ => False
  mono := fun {ss k k' x x'} hk _ h => by
    split at h
    · exact fun p hp => hk _ (h p hp)
    · exact h.elim
theorem ok__law_line (T : Txt P K mg a) : FnOk P w K mg base (L2.CX P w) 2 a.f__law_line a.d__law_line ["_law_pool_here"] (c__law_line.sp K) := by
  refine fn_ok0 c__law_line T.f__law_line.F sc__law_line rfl (fun cdv A outer s H E hr po => ⟨_, _, (pdss_cons (pds_if (pdt_eq hr.units (pd_call (ok__law_take T) (hr.mono (by decide)) T.f__law_take.m T.f__law_take.F.kp T.f__law_take.b (pda_cons (pd_v 0) (pda_cons pd_int pda_nil))) pd_int)
  (pdss_one (pds_ret pd_non))
  pdss_nil)
  (pdss_one (pds_ret (pd_lst (pda_cons (pd_call (ok__law_take T) (hr.mono (by decide)) T.f__law_take.m T.f__law_take.F.kp T.f__law_take.b (pda_cons (pd_v 0) (pda_cons pd_int pda_nil))) (pda_cons (pd_sub (pd_call (ok__law_take T) (hr.mono (by decide)) T.f__law_take.m T.f__law_take.F.kp T.f__law_take.b (pda_cons (pd_v 0) (pda_cons pd_int pda_nil))) pd_int) pda_nil)))))), ?_⟩)
  intro ss kk xx hl h
  unfold c__law_line at h
  dsimp only at h
  split at h
  · refine s_ifT (fun k hk => t_take (by decide) (by decide) rfl (fun k hk => hk) hk) ?_ ?_
    · exact h _ (.inl rfl)
    · refine e_lstN (e_take (n := 9) (by decide) (by decide) rfl (fun k hk => hk) fun r r0 r1 => e_take (n := 4) (by decide) (by decide) rfl (fun k hk => hk) fun q q0 q1 => ?_)
      exact ⟨len_ok rfl, h _ (.inr ⟨r, q - 1, r0, by omega, by omega, by omega, rfl⟩)⟩
  · exact h.elim
def c__law_items (n : Nat) : Ctr where
  n := 2
  f := fun ss k _ => match ss with
    | [.pool, .d (.int d)] => d = n ∧ ∀ xs, RIs n xs → k (.d (.lst xs))
    | _ => False
  mono := fun {ss k k' x x'} hk _ h => by
    split at h
    · exact ⟨h.1, fun xs hx => hk _ (h.2 xs hx)⟩
    · exact h.elim
def cPrevQ : Nat → Ctr
  | 0 => cNo2 2
  | n + 1 => c__law_items n
def itB (n : Nat) : DS := (dIfS (dAnd (dB (dOp (gI0 fun i j => .bl (decide (j < i))) (dVar 1) (dC (.int 0)))) (dB (dOp gEq (dCall cTake xw0 (dCons (dVar 0) (dCons (dC (.int 2)) dNil))) (dC (.int 0))))) (dApp 2 (dLst (dCons (dC (.str "times")) (dCons (dCall c__law_line xw0 (dCons (dVar 0) dNil)) (dCons (dCall (cPrevQ n) xw0 (dCons (dVar 0) (dCons (dOp (gI0 fun i j => .int (i - j)) (dVar 1) (dC (.int 1))) dNil))) dNil))))) (dApp 2 (dOp gIx (dLst (dCons (dC (.str "ann")) (dCons (dC (.str "bob")) (dCons (dC (.str "zz")) dNil)))) (dCall cTake xw0 (dCons (dVar 0) (dCons (dC (.int 3)) dNil))))))
theorem RI.wd {n : Nat} {s : Str} (m : s ∈ wdsL) : RI n (.str s) := by
  cases n with
  | zero => exact ⟨s, m, rfl⟩
  | succ n => exact .inl ⟨s, m, rfl⟩
theorem it_word {n : Nat} {E : DEnds} {Γ : Gm} {acc : List D} (h2 : Γ[2]? = some (.own 0 (.lst acc))) (h0 : Γ[0]? = some .pool) (l : acc.length < 100000) (h : ∀ x, RI n x → E.nx ((clr 0 Γ).set 2 (.own 0 (.lst (acc ++ [x]))))) : ((dApp 2 (dOp gIx (dLst (dCons (dC (.str "ann")) (dCons (dC (.str "bob")) (dCons (dC (.str "zz")) dNil)))) (dCall cTake xw0 (dCons (dVar 0) (dCons (dC (.int 3)) dNil))))) : DS) E Γ := by
  unfold dApp
  rw [h2]
  refine e_pick (n := 3) (xs := [D.str "ann", .str "bob", .str "zz"]) rfl (by decide) (by decide) (fun k hk => ⟨len_ok rfl, hk⟩) h0 (fun k hk => hk) (fun x mx => ?_)
  refine ⟨l, h x ?_⟩
  simp only [List.mem_cons, List.not_mem_nil, or_false] at mx
  rcases mx with rfl | rfl | rfl <;> exact RI.wd (by decide)
theorem it_loop {n : Nat} {E : DEnds} : ∀ (ts acc : List D) (s3 : Sl), (∀ k, clrS k s3 = s3) → acc.length + ts.length ≤ 3 → (∀ y ∈ acc, RI n y) → (∀ (acc' : List D) (s3 : Sl), acc'.length = acc.length + ts.length → (∀ y ∈ acc', RI n y) → E.nx [.pool, .d (.int n), .own 0 (.lst acc'), s3]) →
    forD (dgName 3) (itB n) E ts [.pool, .d (.int n), .own 0 (.lst acc), s3]
  | [], acc, s3, _, _, ha, h => h acc s3 (by simp) ha
  | x :: r, acc, s3, hs, l3, ha, h => by
    rw [List.length_cons] at l3
    have next : ∀ y, RI n y → forD (dgName 3) (itB n) E r [.pool, .d (.int n), .own 0 (.lst (acc ++ [y])), .d x] := fun y hy => it_loop r (acc ++ [y]) (.d x) (fun _ => rfl) (by rw [List.length_append]; show acc.length + 1 + r.length ≤ 3; omega) (fun z mz => by
      rcases List.mem_append.mp mz with mz | mz
      · exact ha z mz
      · rw [List.mem_singleton.mp mz]
        exact hy) (fun acc' s3 l' ha' => h acc' s3 (by
      rw [l', List.length_append, List.length_cons]
      show acc.length + 1 + r.length = acc.length + (r.length + 1)
      omega) ha')
    have word : ((dApp 2 (dOp gIx (dLst (dCons (dC (.str "ann")) (dCons (dC (.str "bob")) (dCons (dC (.str "zz")) dNil)))) (dCall cTake xw0 (dCons (dVar 0) (dCons (dC (.int 3)) dNil))))) : DS) { E with nx := forD (dgName 3) (itB n) E r, ct := forD (dgName 3) (itB n) E r, bk := E.nx } [.pool, .d (.int n), .own 0 (.lst acc), .d x] := it_word (n := n) rfl rfl (by omega) next
    show (itB n) { E with nx := forD (dgName 3) (itB n) E r, ct := forD (dgName 3) (itB n) E r, bk := E.nx } [.pool, .d (.int n), .own 0 (.lst acc), .d x]
    cases n with
    | zero => exact s_if1 (b := false) (fun k hk => t_and (b := false) (c := false) (fun k hk => t_b (b := false) (fun k hk => hk) hk) (fun q => nomatch q) hk) (fun q => nomatch q) (fun _ => word)
    | succ n =>
      refine s_ifAnd (b := true) (fun k hk => t_b (b := true) (fun k hk => ?_) hk) (fun k hk => t_take (by decide) (by decide) rfl (fun k hk => hk) hk) ?_ word
      · show k (.d (.bl (decide ((0 : Int) < ((n + 1 : Nat) : Int)))))
        rw [decide_eq_true (by omega)]
        exact hk
      unfold dApp
      refine ⟨rfl, fun p hp => ⟨rfl, by omega, fun ys hy => ⟨len_ok rfl, by omega, ?_⟩⟩⟩
      exact next _ (.inr ⟨p, ys, rfl, hp, hy.1, hy.2⟩)
theorem ok_itm0 (T : Txt P K mg a) {n : Nat} (ih : FnOk P w K mg base (L2.CX P w) (n + 3) a.f__law_items a.d__law_items ["_law_pool_here", "_law_deep_here"] ((cPrevQ n).sp K)) : FnOk P w K mg base (L2.CX P w) (n + 4) a.f__law_items a.d__law_items ["_law_pool_here", "_law_deep_here"] ((c__law_items n).sp K) := by
  refine fn_ok0 (c__law_items n) T.f__law_items.F sc__law_items rfl (fun cdv A outer s H E hr po => ⟨_, _, (pdss_own (i := 2) (k := 0) sc__law_items.nd
  (pdss_cons (pds_for po rfl (pdi_range1 T.n_range (pda_cons (pd_add pd_int (pd_call (ok__law_take T) (hr.mono (by omega)) T.f__law_take.m T.f__law_take.F.kp T.f__law_take.b (pda_cons (pd_v 0) (pda_cons pd_int pda_nil)))) pda_nil)) (pdg_name (i := 3) sc__law_items.nd)
  (pdss_one (pds_if (pdw_pt (pdw_and (pdt_gt (pd_v 1) pd_int) (pdw_and1 (pdt_eq hr.units (pd_call (ok__law_take T) (hr.mono (by omega)) T.f__law_take.m T.f__law_take.F.kp T.f__law_take.b (pda_cons (pd_v 0) (pda_cons pd_int pda_nil))) pd_int))))
  (pdss_one (pds_app (i := 2) (pd_lst (pda_cons pd_str (pda_cons (pd_call (ok__law_line T) (hr.mono (by omega)) T.f__law_line.m T.f__law_line.F.kp T.f__law_line.b (pda_cons (pd_v 0) pda_nil)) (pda_cons (pd_call ih (hr.mono (by omega)) T.f__law_items.m T.f__law_items.F.kp T.f__law_items.b (pda_cons (pd_v 0) (pda_cons (pd_sub (pd_v 1) pd_int) pda_nil))) pda_nil))))))
  (pdss_one (pds_app (i := 2) (pd_ix (pd_lst (pda_cons pd_str (pda_cons pd_str (pda_cons pd_str pda_nil)))) (pd_call (ok__law_take T) (hr.mono (by omega)) T.f__law_take.m T.f__law_take.F.kp T.f__law_take.b (pda_cons (pd_v 0) (pda_cons pd_int pda_nil)))))))))
  (pdss_one (pds_retR (pd_v 2))))), ?_⟩)
  intro ss kk xx hl h
  unfold c__law_items at h
  dsimp only at h
  split at h
  · rename_i d
    obtain ⟨rfl, h3⟩ := h
    refine s_rng (lo := 1) (hi := 3) (fun k hk => e_take1 (n := 3) (by decide) (by decide) rfl (fun k hk => hk) hk) (by decide) (by decide) fun m m1 m3 => ?_
    refine it_loop (intsFrom 0 m.toNat) [] .any (fun _ => rfl) (by rw [intsFrom_length]; show 0 + m.toNat ≤ 3; omega) (fun y my => nomatch my) fun acc' s3 l' ha' => ?_
    rw [intsFrom_length] at l'
    exact h3 acc' ⟨⟨by rw [l']; show 1 ≤ 0 + m.toNat; omega, by rw [l']; show 0 + m.toNat ≤ 3; omega⟩, ha'⟩
  · exact h.elim
theorem ok_itm_n (T : Txt P K mg a) : ∀ n : Nat, FnOk P w K mg base (L2.CX P w) (n + 4) a.f__law_items a.d__law_items ["_law_pool_here", "_law_deep_here"] ((c__law_items n).sp K)
  | 0 => ok_itm0 (n := 0) T no_sp2
  | n + 1 => ok_itm0 (n := n + 1) T (ok_itm_n T n)
theorem ok__law_items (T : Txt P K mg a) : FnOk P w K mg base (L2.CX P w) 7 a.f__law_items a.d__law_items ["_law_pool_here", "_law_deep_here"] ((c__law_items 3).sp K) := ok_itm_n T 3
/-! ### what is made of them -/
def c__law_made_line (a : Ad) : Ctr where
  n := 1
  f := fun ss k _ => match ss with
    | [.d p] => RP p ∧ k (.d (lineP a p))
    | _ => False
  mono := fun {ss k k' x x'} hk _ h => by
    split at h
    · exact ⟨h.1, hk _ h.2⟩
    · exact h.elim
theorem e_ixL {e : DE} {xs : List D} {y : D} {i : Int} {j : Nat} {Γ : Gm} {k : DK} (hi : i = (j : Int)) (hy : xs[j]? = some y) (he : ∀ k : DK, k (.d (.lst xs)) → e Γ k) (hk : k (.d y)) : dOp gIx e (dC (.int i)) Γ k := he _ (by
  show (match atI xs i with
    | some x => k (.d x)
    | none => False)
  rw [hi, atI_nat hy]
  exact hk)
theorem ok__law_made_line (T : Txt P K mg a) : FnOk P w K mg base (L2.CX P w) 6 a.f__law_made_line a.d__law_made_line ["_law_pair"] ((c__law_made_line a).sp K) := by
  refine fn_ok (c__law_made_line a) T.f__law_made_line.F sc__law_made_line rfl (fun cdv A outer s H E xw hr po => ⟨_, _, (pdss_one (pds_ret (pd_ifExp (pdt_isN (pd_v 0) pd_non) pd_non (pd_newA T.mk_Line (ok_Line___init__ T) (hr.mono (by decide)) T.k_Line.gC T.m_Line___init__.b (pda_cons (pd_ix (pd_v 0) pd_int) (pda_cons (pd_ix (pd_v 0) pd_int) pda_nil)))))), ?_⟩)
  intro ss kk xx hl h ew
  unfold c__law_made_line at h
  dsimp only at h
  split at h
  · obtain ⟨hp, h3⟩ := h
    rcases hp with rfl | ⟨i, j, i0, i8, j0, j2, rfl⟩
    · exact h3
    · refine s_ret (x := lineO a i j) (fun k hk => e_if (b := false) (fun k hk => t_b (b := false) (fun k hk => hk) hk) (fun q => nomatch q) (fun _ => ?_)) h3
      exact e_ixL (i := 0) (j := 0) (xs := [.int i, .int j]) rfl rfl (fun k hk => hk) (e_ixL (i := 1) (j := 1) (xs := [.int i, .int j]) rfl rfl (fun k hk => hk) ⟨rfl, by omega, by omega, by omega, by omega, hk⟩)
  · exact h.elim
def c__law_at : Ctr where
  n := 2
  f := fun ss k _ => match ss with
    | [.d p, .d (.int m)] => RP p ∧ mOk m ∧ k (.d (valP m p))
    | _ => False
  mono := fun {ss k k' x x'} hk _ h => by
    split at h
    · exact ⟨h.1, h.2.1, hk _ h.2.2⟩
    · exact h.elim
theorem ok__law_at (T : Txt P K mg a) : FnOk P w K mg base (L2.CX P w) 1 a.f__law_at a.d__law_at ["_law_pair", "_law_m"] (c__law_at.sp K) := by
  refine fn_ok c__law_at T.f__law_at.F sc__law_at rfl (fun cdv A outer s H E xw hr po => ⟨_, _, (pdss_one (pds_ret (pd_ifExp (pdt_isN (pd_v 0) pd_non) pd_non (pd_add (pd_ix (pd_v 0) pd_int) (pd_mul (pd_ix (pd_v 0) pd_int) (pd_v 1)))))), ?_⟩)
  intro ss kk xx hl h ew
  unfold c__law_at at h
  dsimp only at h
  split at h
  · rename_i p m
    obtain ⟨hp, mo, h3⟩ := h
    rcases hp with rfl | ⟨i, j, i0, i8, j0, j2, rfl⟩
    · exact h3
    · have nb : m.natAbs < 2 ^ 100 := by
        have f1 : top30 < 2 ^ 100 := by decide +kernel
        have := mo.1
        have := mo.2
        omega
      have jb : j.natAbs < 2 ^ 11 := by omega
      refine s_ret (x := .int (i + j * m)) (fun k hk => e_if (b := false) (fun k hk => t_b (b := false) (fun k hk => hk) hk) (fun q => nomatch q) (fun _ => ?_)) h3
      exact e_ixL (i := 0) (j := 0) (xs := [.int i, .int j]) rfl rfl (fun k hk => hk) (e_ixL (i := 1) (j := 1) (xs := [.int i, .int j]) rfl rfl (fun k hk => hk) ⟨mulW_of jb nb (by decide) (by decide) (by decide), hk⟩)
  · exact h.elim
def c__law_built (a : Ad) (n : Nat) : Ctr where
  n := 2
  f := fun ss k _ => match ss with
    | [.d (.lst xs), .d .non] => RIs n xs ∧ k (.d (.tup (xs.map (lnF a n))))
    | [.d (.lst xs), .d (.int m)] => mOk m ∧ RIs n xs ∧ k (.d (.tup (xs.map (vlF m n))))
    | _ => False
  mono := fun {ss k k' x x'} hk _ h => by
    split at h
    · exact ⟨h.1, hk _ h.2⟩
    · exact ⟨h.1, h.2.1, hk _ h.2.2⟩
    · exact h.elim
  no := fun {ss k x} h => by
    split at h
    · rfl
    · rfl
    · exact h.elim
def cPrevB (a : Ad) : Nat → Ctr
  | 0 => cNo2 2
  | n + 1 => c__law_built a n
def blB (a : Ad) (n : Nat) : DS := (dIfS (dB (dCB (gIs .str) (dCons (dVar 3) (dCons (dR (.ty "str")) dNil)))) (dApp 2 (dVar 3)) (dIfS (dB (dOp gIsN (dVar 1) (dC .non))) (dApp 2 (dTup (dCons (dC (.str "times")) (dCons (dCall (c__law_made_line a) xw0 (dCons (dOp gIx (dVar 3) (dC (.int 1))) dNil)) (dCons (dCall (cPrevB a n) xw0 (dCons (dOp gIx (dVar 3) (dC (.int 2))) (dCons (dVar 1) dNil))) dNil))))) (dApp 2 (dTup (dCons (dC (.str "times")) (dCons (dCall c__law_at xw0 (dCons (dOp gIx (dVar 3) (dC (.int 1))) (dCons (dVar 1) dNil))) (dCons (dCall (cPrevB a n) xw0 (dCons (dOp gIx (dVar 3) (dC (.int 2))) (dCons (dVar 1) dNil))) dNil)))))))
theorem app_to {E : DEnds} {Γ : Gm} {i kk : Nat} {e : DE} {acc : List D} {x : D} (ho : Γ[i]? = some (.own kk (.lst acc))) (l : acc.length < 100000) (he : ∀ k : DK, k (.d x) → e Γ k) (h : E.nx ((clr kk Γ).set i (.own kk (.lst (acc ++ [x]))))) : dApp i e E Γ := by
  unfold dApp
  rw [ho]
  exact he _ ⟨l, h⟩
theorem bl_loop {n : Nat} {E : DEnds} {d0 d1 : D} {g : D → D} (hd : (d1 = .non ∧ g = lnF a n) ∨ ∃ m, d1 = .int m ∧ mOk m ∧ g = vlF m n) : ∀ (xs acc : List D) (s3 : Sl), (∀ k, clrS k s3 = s3) → acc.length + xs.length ≤ 1000 → (∀ y ∈ xs, RI n y) → (∀ s3 : Sl, E.nx [.d d0, .d d1, .own 0 (.lst (acc ++ xs.map g)), s3]) →
    forD (dgName 3) (blB a n) E xs [.d d0, .d d1, .own 0 (.lst acc), s3]
  | [], acc, s3, _, _, _, h => by
    have q := h s3
    rw [List.map_nil, List.append_nil] at q
    exact q
  | x :: r, acc, s3, hs, l3, ha, h => by
    rw [List.length_cons] at l3
    have next : forD (dgName 3) (blB a n) E r [.d d0, .d d1, .own 0 (.lst (acc ++ [g x])), .d x] := bl_loop hd r (acc ++ [g x]) (.d x) (fun _ => rfl) (by rw [List.length_append]; show acc.length + 1 + r.length ≤ 1000; omega) (fun y my => ha y (List.mem_cons_of_mem _ my)) (fun s3 => by
      rw [List.append_assoc]
      exact h s3)
    have l4 : acc.length < 100000 := by omega
    show (blB a n) { E with nx := forD (dgName 3) (blB a n) E r, ct := forD (dgName 3) (blB a n) E r, bk := E.nx } [.d d0, .d d1, .own 0 (.lst acc), .d x]
    rcases (ha x List.mem_cons_self).cases with ⟨s, ms, rfl⟩ | ⟨m', p, ys, rfl, rfl, hp, hy⟩
    · have eg : g (.str s) = .str s := by
        rcases hd with ⟨_, rfl⟩ | ⟨m, _, _, rfl⟩
        · exact lnF_str _ _
        · exact vlF_str _ _ _
      rw [eg] at next
      exact s_if1 (b := true) (fun k hk => t_b (b := true) (fun k hk => ⟨rfl, rfl, hk⟩) hk) (fun _ => app_to (x := .str s) rfl l4 (fun k hk => hk) next) (fun q => nomatch q)
    · refine s_if1 (b := false) (fun k hk => t_b (b := false) (fun k hk => ⟨rfl, rfl, hk⟩) hk) (fun q => nomatch q) (fun _ => ?_)
      have i1 : ∀ (Γ : Gm) (k : DK), Γ[3]? = some (.d (.lst [.str "times", p, .lst ys])) → k (.d p) → (dOp gIx (dVar 3) (dC (.int 1))) Γ k := fun Γ k e hk => e_ixL (i := 1) (j := 1) (xs := [.str "times", p, .lst ys]) rfl rfl (fun k hk => by unfold dVar; rw [e]; exact hk) hk
      have i2 : ∀ (Γ : Gm) (k : DK), Γ[3]? = some (.d (.lst [.str "times", p, .lst ys])) → k (.d (.lst ys)) → (dOp gIx (dVar 3) (dC (.int 2))) Γ k := fun Γ k e hk => e_ixL (i := 2) (j := 2) (xs := [.str "times", p, .lst ys]) rfl rfl (fun k hk => by unfold dVar; rw [e]; exact hk) hk
      rcases hd with ⟨rfl, rfl⟩ | ⟨m, rfl, mo, rfl⟩
      · refine s_if1 (b := true) (fun k hk => t_b (b := true) (fun k hk => hk) hk) (fun _ => app_to (x := .tup [.str "times", lineP a p, .tup (ys.map (lnF a m'))]) rfl l4 (fun k hk => e_tup3 (fun k hk => hk) (fun k hk => e_call1 (x := .d p) (fun k hk => i1 _ _ rfl hk) rfl ⟨hp, hk⟩) (fun k hk => e_call2 (x := .d (.lst ys)) (y := .d .non) (fun k hk => i2 _ _ rfl hk) (fun k hk => hk) rfl ⟨hy, hk⟩) hk) next) (fun q => nomatch q)
      · refine s_if1 (b := false) (fun k hk => t_b (b := false) (fun k hk => hk) hk) (fun q => nomatch q) (fun _ => app_to (x := .tup [.str "times", valP m p, .tup (ys.map (vlF m m'))]) rfl l4 (fun k hk => e_tup3 (fun k hk => hk) (fun k hk => e_call2 (x := .d p) (y := .d (.int m)) (fun k hk => i1 _ _ rfl hk) (fun k hk => hk) rfl ⟨hp, mo, hk⟩) (fun k hk => e_call2 (x := .d (.lst ys)) (y := .d (.int m)) (fun k hk => i2 _ _ rfl hk) (fun k hk => hk) rfl ⟨mo, hy, hk⟩) hk) next)
theorem ok_blt0 (T : Txt P K mg a) {n : Nat} (ih : FnOk P w K mg base (L2.CX P w) (n + 6) a.f__law_built a.d__law_built ["_law_items_here", "_law_m"] ((cPrevB a n).sp K)) : FnOk P w K mg base (L2.CX P w) (n + 7) a.f__law_built a.d__law_built ["_law_items_here", "_law_m"] ((c__law_built a n).sp K) := by
  refine fn_ok (c__law_built a n) T.f__law_built.F sc__law_built rfl (fun cdv A outer s H E xw hr po => ⟨_, _, (pdss_own (i := 2) (k := 0) sc__law_built.nd
  (pdss_cons (pds_for po rfl (pdi_seq (pd_v 0)) (pdg_name (i := 3) sc__law_built.nd)
  (pdss_one (pds_if (pdt_val (pd_callB call_isi (oc_is .str) T.n_isinstance (by decide +kernel) (pda_cons (pd_v 3) (pda_cons (pd_ty (T := "str") T.n_str (by decide +kernel)) pda_nil))))
  (pdss_one (pds_app (i := 2) (pd_v 3)))
  (pdss_one (pds_if (pdt_isN (pd_v 1) pd_non)
  (pdss_one (pds_app (i := 2) (pd_tup (pda_cons pd_str (pda_cons (pd_call (ok__law_made_line T) (hr.mono (by omega)) T.f__law_made_line.m T.f__law_made_line.F.kp T.f__law_made_line.b (pda_cons (pd_ix (pd_v 3) pd_int) pda_nil)) (pda_cons (pd_call ih (hr.mono (by omega)) T.f__law_built.m T.f__law_built.F.kp T.f__law_built.b (pda_cons (pd_ix (pd_v 3) pd_int) (pda_cons (pd_v 1) pda_nil))) pda_nil))))))
  (pdss_one (pds_app (i := 2) (pd_tup (pda_cons pd_str (pda_cons (pd_call (ok__law_at T) (hr.mono (by omega)) T.f__law_at.m T.f__law_at.F.kp T.f__law_at.b (pda_cons (pd_ix (pd_v 3) pd_int) (pda_cons (pd_v 1) pda_nil))) (pda_cons (pd_call ih (hr.mono (by omega)) T.f__law_built.m T.f__law_built.F.kp T.f__law_built.b (pda_cons (pd_ix (pd_v 3) pd_int) (pda_cons (pd_v 1) pda_nil))) pda_nil)))))))))))
  (pdss_one (pds_retR (pd_callTy call_tuple_of oc_tupOf T.n_tuple (by decide +kernel) (pda_cons (pd_v 2) pda_nil)))))), ?_⟩)
  intro ss kk xx hl h ew
  unfold c__law_built at h
  dsimp only at h
  split at h
  · rename_i xs
    obtain ⟨ri, h3⟩ := h
    exact bl_loop (.inl ⟨rfl, rfl⟩) xs [] .any (fun _ => rfl) (by have := ri.1.2; show 0 + xs.length ≤ 1000; omega) ri.2 fun s3 => h3
  · rename_i xs m
    obtain ⟨mo, ri, h3⟩ := h
    exact bl_loop (.inr ⟨m, rfl, mo, rfl⟩) xs [] .any (fun _ => rfl) (by have := ri.1.2; show 0 + xs.length ≤ 1000; omega) ri.2 fun s3 => h3
  · exact h.elim
theorem ok_blt_n (T : Txt P K mg a) : ∀ n : Nat, FnOk P w K mg base (L2.CX P w) (n + 7) a.f__law_built a.d__law_built ["_law_items_here", "_law_m"] ((c__law_built a n).sp K)
  | 0 => ok_blt0 (n := 0) T no_sp2
  | n + 1 => ok_blt0 (n := n + 1) T (ok_blt_n T n)
theorem ok__law_built (T : Txt P K mg a) : FnOk P w K mg base (L2.CX P w) 47 a.f__law_built a.d__law_built ["_law_items_here", "_law_m"] ((c__law_built a 40).sp K) := ok_blt_n T 40
-- SPLIT
/-! ### == of lines within an except suite -/
theorem okS_Line___eq__ (T : Txt P K mg a) : FnS P w K mg base (L2.CX P w) 1 a.m_Line___eq__ a.e_Line___eq__ ["self", "other"] ((c_Line_eq a).sp K) := by
  refine fn_okS (c_Line_eq a) T.m_Line___eq__.F sc_Line___eq__ rfl (fun cdv A outer s H E p xw hr => ⟨_, _, (pdss_one (pds_ret (pd_and (pd_callB (call_isOwn T.k_Line.is) (oc_isC T.k_Line.is) T.n_isinstance (by decide +kernel) (pda_cons (pd_v 1) (pda_cons (pd_cls T.k_Line.gC) pda_nil))) (pd_and (pd_eq hr.units (pd_fld T.k_Line.cl T.na_Line_at_zero (pd_v 0)) (pd_fld T.k_Line.cl T.na_Line_at_zero (pd_v 1))) (pd_one (pd_eq hr.units (pd_fld T.k_Line.cl T.na_Line_slope (pd_v 0)) (pd_fld T.k_Line.cl T.na_Line_slope (pd_v 1)))))))), ?_⟩)
  intro ss kk xx hl h ew
  unfold c_Line_eq at h
  dsimp only at h
  split at h
  · rename_i C fs C' gs
    obtain ⟨rfl, rfl, i, j, rfl, rfl, sm, h5⟩ := h
    refine e_andV (b := true) (c := true) (fun k hk => ⟨rfl, rfl, ?_⟩) (fun _ k hk => e_andV (b := true) (c := true) (fun k hk => ⟨rfl, _, rfl, rfl, _, rfl, okD_int _, okD_int _, ?_⟩) (fun _ k hk => ⟨rfl, _, rfl, rfl, _, rfl, okD_int _, okD_int _, ?_⟩) hk) h5
    · rw [show isC a.C_Line (lineO a i j) = true from decide_eq_true rfl]
      exact hk
    · rw [deq_self (okD_int i)]
      exact hk
    · rw [deq_self (okD_int j)]
      exact hk
  · exact h.elim
theorem okL_s {X : Cx} {n : Nat} (hpn : ∃ p, p ∈ X.pn) (T : Txt X.prog X.K X.mg a) : ∀ x, okL a x → EqS X (n + 1) x := by
  rintro x ⟨i, j, rfl, sm⟩
  refine eqS_obj hpn T.eq_Line ((okS_Line___eq__ (base := X.base) (w := X.w) T).mono (by omega)) T.m_Line___eq__.b rfl ?_
  exact ⟨rfl, rfl, i, j, rfl, rfl, sm, rfl⟩
/-! ### what lined items are -/
def dpL (a : Ad) : Nat → List D
  | 0 => [.str "ann"]
  | n + 1 => [.tup [.str "times", lineO a 1 0, .tup (dpL a n)]]
def dpR : Nat → List D
  | 0 => [.str "ann"]
  | n + 1 => [.lst [.str "times", .lst [.int 1, .int 0], .lst (dpR n)]]
theorem dp_len (n : Nat) : (dpR n).length = 1 := by cases n <;> rfl
theorem dp_RI : ∀ (n : Nat), ∀ y ∈ dpR n, RI n y
  | 0, y, m => by
    rw [List.mem_singleton.mp m]
    exact RI.wd (by decide)
  | n + 1, y, m => by
    rw [List.mem_singleton.mp m]
    exact .inr ⟨_, _, rfl, .inr ⟨1, 0, by decide, by decide, by decide, by decide, rfl⟩, ⟨by rw [dp_len]; exact Nat.le_refl _, by rw [dp_len]; decide⟩, dp_RI n⟩
theorem dp_RIs (n : Nat) : RIs n (dpR n) := ⟨⟨by rw [dp_len]; exact Nat.le_refl _, by rw [dp_len]; decide⟩, dp_RI n⟩
theorem dp_eq : ∀ (n m : Nat), n ≤ m → dpL a n = (dpR n).map (lnF a m)
  | 0, m, _ => by
    show _ = [lnF a m (.str "ann")]
    rw [lnF_str]
    rfl
  | n + 1, 0, l => by omega
  | n + 1, m + 1, l => by
    show [D.tup [.str "times", lineO a 1 0, .tup (dpL a n)]] = [D.tup [.str "times", lineO a 1 0, .tup ((dpR n).map (lnF a m))]]
    rw [dp_eq n m (by omega)]
theorem hdOk_str {s : Str} (l : low s) : hdOk (.str s) := ⟨rfl, fun z e => by
  cases e
  exact l⟩
theorem okT_ln : ∀ (n m : Nat) (xs : List D), RIs m xs → OkT a n (.tup (xs.map (lnF a m)))
  | 0, _, _, _ => rfl
  | n + 1, m, xs, h => ⟨rfl, fun ys e => by
    injection e with e
    subst e
    refine ⟨by rw [List.length_map]; have := h.1.2; omega, fun y my => ?_⟩
    obtain ⟨x, mx, rfl⟩ := List.mem_map.mp my
    rcases (h.2 x mx).cases with ⟨s, ms, rfl⟩ | ⟨m', p, ys, rfl, rfl, hp, hy⟩
    · rw [lnF_str]
      refine ⟨rfl, fun z e => ?_, fun y r e => (nomatch e), fun e => (nomatch e)⟩
      cases e
      have := (wds_low ms).2
      omega
    · refine ⟨rfl, fun z e => (nomatch e), fun y r e => ?_, fun _ => ⟨hp.rok, fun _ => okT_ln n m' ys hy⟩⟩
      injection e with e
      injection e with e _
      subst e
      exact hdOk_str lowT⟩
/-! ### how many -/
def cn : Nat → D → Nat
  | n + 1, .lst [_, _, .lst ys] => 1 + (ys.map (cn n)).sum
  | _, _ => 1
theorem cn_pos (n : Nat) (x : D) : 1 ≤ cn n x := by
  unfold cn
  split <;> omega
theorem sum_pos {n : Nat} {xs : List D} (h : 1 ≤ xs.length) : 1 ≤ (xs.map (cn n)).sum := by
  cases xs with
  | nil => cases h
  | cons x r =>
    rw [List.map_cons, List.sum_cons]
    have := cn_pos n x
    omega
theorem lm_cnt : ∀ (n : Nat) (xs : List D) (many : Nat), (∀ y ∈ xs, RI n y) → many + (xs.map (cn n)).sum ≤ 2000 → lmL (lmM a n) a many (xs.map (lnF a n)) = some (many + (xs.map (cn n)).sum) := by
  intro n
  induction n using Nat.strongRecOn with
  | ind n ihn =>
  intro xs
  induction xs with
  | nil => exact fun _ _ _ => rfl
  | cons y r ihx =>
    intro many h l
    rw [List.map_cons, List.sum_cons] at l
    have hr : ∀ z ∈ r, RI n z := fun z mz => h z (List.mem_cons_of_mem _ mz)
    have el : lmL (lmM a n) a many ((y :: r).map (lnF a n)) = if isWord (lnF a n y) = true then (if many + 1 > 2000 then none else lmL (lmM a n) a (many + 1) (r.map (lnF a n))) else if (mkd "times" 3 (lnF a n y) && lnB a (itD (lnF a n y) 1)) = true then (match lmM a n (itD (lnF a n y) 2) with
      | none => none
      | some 0 => none
      | some (i + 1) => if many + 1 + (i + 1) > 2000 then none else lmL (lmM a n) a (many + 1 + (i + 1)) (r.map (lnF a n))) else none := rfl
    rw [el]
    rcases (h y List.mem_cons_self).cases with ⟨s, ms, e⟩ | ⟨m', p, ys, en, e, hp, hy⟩
    · subst e
      have e1 : cn n (.str s) = 1 := by cases n <;> rfl
      rw [e1] at l
      have wz : isWord (lnF a n (.str s)) = true := by
        rw [lnF_str]
        exact wds_word ms
      rw [if_pos wz, if_neg (by omega), ihx (many + 1) hr (by omega), List.map_cons, List.sum_cons, e1]
      congr 1
      omega
    · subst e en
      have e1 : cn (m' + 1) (.lst [.str "times", p, .lst ys]) = 1 + (ys.map (cn m')).sum := rfl
      rw [e1] at l
      have wz : ¬ isWord (lnF a (m' + 1) (.lst [.str "times", p, .lst ys])) = true := by
        show ¬ false = true
        decide
      have mk : (mkd "times" 3 (lnF a (m' + 1) (.lst [.str "times", p, .lst ys])) && lnB a (itD (lnF a (m' + 1) (.lst [.str "times", p, .lst ys])) 1)) = true := by
        show (true && lnB a (lineP a p)) = true
        rw [hp.lnB]
        rfl
      have sp := sum_pos (n := m') hy.1.1
      have inner : lmM a (m' + 1) (itD (lnF a (m' + 1) (.lst [.str "times", p, .lst ys])) 2) = some (((ys.map (cn m')).sum - 1) + 1) := by
        show lmL (lmM a m') a 0 (ys.map (lnF a m')) = _
        rw [ihn m' (by omega) ys 0 hy.2 (by omega)]
        congr 1
        omega
      rw [if_neg wz, if_pos mk, inner]
      show (if many + 1 + ((ys.map (cn m')).sum - 1 + 1) > 2000 then none else lmL (lmM a (m' + 1)) a (many + 1 + ((ys.map (cn m')).sum - 1 + 1)) (r.map (lnF a (m' + 1)))) = _
      rw [if_neg (by omega), ihx _ hr (by omega), List.map_cons, List.sum_cons, e1]
      congr 1
      omega
theorem sum_le {f : D → Nat} {b : Nat} : ∀ {xs : List D}, (∀ y ∈ xs, f y ≤ b) → (xs.map f).sum ≤ xs.length * b
  | [], _ => Nat.zero_le _
  | x :: r, h => by
    rw [List.map_cons, List.sum_cons, List.length_cons, Nat.add_mul]
    have h1 := h x List.mem_cons_self
    have h2 := sum_le (xs := r) fun y m => h y (List.mem_cons_of_mem _ m)
    omega
def bnd : Nat → Nat
  | 0 => 1
  | n + 1 => 1 + 3 * bnd n
theorem cn_le : ∀ (j n : Nat) (x : D), RI j x → j ≤ n → cn n x ≤ bnd j
  | j, n, x, h, l => by
    rcases h.cases with ⟨s, ms, rfl⟩ | ⟨m', p, ys, rfl, rfl, hp, hy⟩
    · have e1 : cn n (.str s) = 1 := by cases n <;> rfl
      rw [e1]
      cases j with
      | zero => exact Nat.le_refl _
      | succ j => show 1 ≤ 1 + 3 * bnd j; omega
    · obtain ⟨n', rfl⟩ : ∃ n', n = n' + 1 := ⟨n - 1, by omega⟩
      show 1 + (ys.map (cn n')).sum ≤ 1 + 3 * bnd m'
      have h1 := sum_le (f := cn n') (b := bnd m') fun y my => cn_le m' n' y (hy.2 y my) (by omega)
      have h2 : ys.length * bnd m' ≤ 3 * bnd m' := Nat.mul_le_mul_right _ hy.1.2
      omega
theorem cnt3 {xs : List D} (h : RIs 3 xs) : (xs.map (cn 40)).sum ≤ 2000 := by
  have h1 := sum_le (f := cn 40) (b := bnd 3) fun y my => cn_le 3 40 y (h.2 y my) (by decide)
  have h2 : xs.length * bnd 3 ≤ 3 * bnd 3 := Nat.mul_le_mul_right _ h.1.2
  have h3 : 3 * bnd 3 = 120 := rfl
  omega
theorem dp_cnt : ∀ (n m : Nat), n ≤ m → ((dpR n).map (cn m)).sum = n + 1
  | 0, m, _ => by
    show cn m (.str "ann") + 0 = _
    cases m <;> rfl
  | n + 1, 0, l => by omega
  | n + 1, m + 1, l => by
    show 1 + ((dpR n).map (cn m)).sum + 0 = _
    rw [dp_cnt n m (by omega)]
    omega
theorem dp_none : ∀ n : Nat, lmM a n (.tup (dpL a n)) = none
  | 0 => rfl
  | n + 1 => by
    show lmL (lmM a n) a 0 [.tup [.str "times", lineO a 1 0, .tup (dpL a n)]] = none
    have mk : (mkd "times" 3 (.tup [.str "times", lineO a 1 0, .tup (dpL a n)]) && lnB a (itD (.tup [.str "times", lineO a 1 0, .tup (dpL a n)]) 1)) = true := by
      show (true && (isNon (lineO a 1 0) || isC a.C_Line (lineO a 1 0))) = true
      rw [show isC a.C_Line (lineO a 1 0) = true from decide_eq_true rfl]
      rfl
    show (if false = true then _ else if (mkd "times" 3 (.tup [.str "times", lineO a 1 0, .tup (dpL a n)]) && lnB a (itD (.tup [.str "times", lineO a 1 0, .tup (dpL a n)]) 1)) = true then (match lmM a n (.tup (dpL a n)) with
      | none => none
      | some 0 => none
      | some (i + 1) => if 0 + 1 + (i + 1) > 2000 then none else lmL (lmM a n) a (0 + 1 + (i + 1)) []) else none) = none
    rw [if_neg (by decide), if_pos mk, dp_none n]
/-! ### == of the same -/
theorem okB_ln : ∀ {n : Nat} {x : D}, RI n x → okB (okL a) (2 * n) (lnF a n x)
  | n, x, h => by
    rcases h.cases with ⟨s, ms, rfl⟩ | ⟨m', p, ys, rfl, rfl, hp, hy⟩
    · rw [lnF_str]
      exact okB_s rfl
    · show okB (okL a) ((2 * m' + 1) + 1) (.tup [.str "times", lineP a p, .tup (ys.map (lnF a m'))])
      refine okB_t fun y my => ?_
      simp only [List.mem_cons, List.not_mem_nil, or_false] at my
      rcases my with rfl | rfl | rfl
      · exact okB_s rfl
      · rcases (hp.ln (a := a)) with e | e
        · rw [e]
          exact okB_s rfl
        · exact okB_o e
      · refine okB_t fun z mz => ?_
        obtain ⟨u, mu, rfl⟩ := List.mem_map.mp mz
        exact okB_ln (hy.2 u mu)
def samP (a : Ad) (x : D) : Prop := seqB (okL a) 84 x ∨ okD x = true
theorem sam_tup {xs : List D} (h : ∀ y ∈ xs, okB (okL a) 84 y) : samP a (.tup xs) := .inl ⟨xs, .inr rfl, h⟩
theorem sam_lst {xs : List D} (h : ∀ y ∈ xs, okB (okL a) 84 y) : samP a (.lst xs) := .inl ⟨xs, .inl rfl, h⟩
theorem okB_vs {vs : List D} (h : ∀ p ∈ vs, RP p) : ∀ y ∈ vs.map (lineP a), okB (okL a) 0 y := fun y my => by
  obtain ⟨p, mp, rfl⟩ := List.mem_map.mp my
  rcases ((h p mp).ln (a := a)) with e | e
  · rw [e]
    exact okB_s rfl
  · exact okB_o e
theorem okB_xs {n : Nat} {xs : List D} (h : RIs n xs) : ∀ y ∈ xs.map (lnF a n), okB (okL a) (2 * n) y := fun y my => by
  obtain ⟨p, mp, rfl⟩ := List.mem_map.mp my
  exact okB_ln (h.2 p mp)
/-! ### deep items -/
def c__law_deep (a : Ad) : Ctr where
  n := 1
  f := fun ss k _ => match ss with
    | [.d (.int m)] => 0 ≤ m ∧ m ≤ 1000 ∧ k (.d (.tup [.str "enough", .tup [], .tup (dpL a m.toNat)]))
    | _ => False
  mono := fun {ss k k' x x'} hk _ h => by
    split at h
    · exact ⟨h.1, h.2.1, hk _ h.2.2⟩
    · exact h.elim
def dpB (a : Ad) (xw : XW) : DS := (dAsg 1 (dTup (dCons (dTup (dCons (dC (.str "times")) (dCons (dNew (c_Line a) a.C_Line [.int (0)] xw (dCons (dC (.int 1)) dNil)) (dCons (dVar 1) dNil)))) dNil)))
theorem dp_loop {xw : XW} {E : DEnds} {d0 : D} : ∀ (ts : List D) (n : Nat) (s2 : Sl), (∀ s2, E.nx [.d d0, .d (.tup (dpL a (n + ts.length))), s2]) → forD (dgName 2) (dpB a xw) E ts [.d d0, .d (.tup (dpL a n)), s2]
  | [], n, s2, h => h s2
  | x :: r, n, s2, h => by
    show (dpB a xw) { E with nx := forD (dgName 2) (dpB a xw) E r, ct := forD (dgName 2) (dpB a xw) E r, bk := E.nx } [.d d0, .d (.tup (dpL a n)), .d x]
    have q := dp_loop (xw := xw) r (n + 1) (.d x) fun s2 => by
      have q := h s2
      rw [List.length_cons, show n + (r.length + 1) = n + 1 + r.length by omega] at q
      exact q
    exact ⟨rfl, by decide, by decide, by decide, by decide, len_ok rfl, len_ok rfl, q⟩
theorem ok__law_deep (T : Txt P K mg a) : FnOk P w K mg base (L2.CX P w) 6 a.f__law_deep a.d__law_deep ["_law_many"] ((c__law_deep a).sp K) := by
  refine fn_ok (c__law_deep a) T.f__law_deep.F sc__law_deep rfl (fun cdv A outer s H E xw hr po => ⟨_, _, (pdss_cons (pds_set (i := 1) (pd_tup (pda_cons pd_str pda_nil)) sc__law_deep.nd)
  (pdss_cons (pds_for po rfl (pdi_range1 T.n_range (pda_cons (pd_v 0) pda_nil)) (pdg_name (i := 2) sc__law_deep.nd)
  (pdss_one (pds_set (i := 1) (pd_tup (pda_cons (pd_tup (pda_cons pd_str (pda_cons (pd_newD T.mk_Line (ok_Line___init__ T) (hr.mono (by decide)) T.k_Line.gC T.m_Line___init__.b1 (pda_cons pd_int pda_nil)) (pda_cons (pd_v 1) pda_nil)))) pda_nil)) sc__law_deep.nd)))
  (pdss_one (pds_ret (pd_tup (pda_cons pd_str (pda_cons (pd_tup pda_nil) (pda_cons (pd_v 1) pda_nil)))))))), ?_⟩)
  intro ss kk xx hl h ew
  unfold c__law_deep at h
  dsimp only at h
  split at h
  · rename_i m
    obtain ⟨m0, m1, h3⟩ := h
    refine s_asg (x := .d (.tup (dpL a 0))) (fun k hk => ⟨len_ok rfl, hk⟩) ?_
    refine ⟨⟨by omega, by omega⟩, ?_⟩
    refine dp_loop (intsFrom 0 m.toNat) 0 .any fun s2 => ?_
    rw [intsFrom_length, Nat.zero_add]
    exact ⟨len_ok rfl, len_ok rfl, h3⟩
  · exact h.elim
/-! ### what is told -/
def ToldR (a : Ad) (x m : D) (k : DK) : Prop := (formD a x = false ∧ k (.d (.lst [.str "paper", .bl true]))) ∨ (formD a x = true ∧ btw 0 top30 m = false ∧ k (.d (.lst [.str "number", m]))) ∨ (formD a x = true ∧ btw 0 top30 m = true ∧ PapR a x m k)
def c__law_told (a : Ad) : Ctr where
  n := 2
  f := fun ss k _ => match ss with
    | [.d x, .d m] => AskP a x ∧ isObj m = false ∧ samP a x ∧ ToldR a x m k
    | _ => False
  mono := fun {ss k k' x x'} hk _ h => by
    split at h
    · refine ⟨h.1, h.2.1, h.2.2.1, ?_⟩
      rcases h.2.2.2 with ⟨h1, h2⟩ | ⟨h1, h2, h3⟩ | ⟨h1, h2, w, vs, xs, tl, i, h3, h4, h5, h6⟩
      · exact .inl ⟨h1, hk _ h2⟩
      · exact .inr (.inl ⟨h1, h2, hk _ h3⟩)
      · exact .inr (.inr ⟨h1, h2, w, vs, xs, tl, i, h3, h4, h5, hk _ h6⟩)
    · exact h.elim
theorem e_lst2 {k : DK} {Γ : Gm} {e0 e1 : DE} {x0 x1 : Dv.D} (h0 : ∀ k : DK, k (.d x0) → e0 Γ k) (h1 : ∀ k : DK, k (.d x1) → e1 Γ k) (h : k (.d (.lst [x0, x1]))) : dLst (dCons e0 (dCons e1 dNil)) Γ k := h0 _ (h1 _ ⟨len_ok rfl, h⟩)
theorem e_sam {e f : DE} {x : D} {Γ : Gm} {k : DK} (s : samP a x) (he : ∀ k : DK, k (.d x) → e Γ k) (hf : ∀ k : DK, k (.d x) → f Γ k) (hk : k (.d (.bl true))) : dOp (gSamB (okL a) 84 true gEq) e f Γ k := he _ (hf _ (by
  rcases s with s | s
  · exact .inl ⟨x, rfl, rfl, s, hk⟩
  · refine .inr ⟨s, s, ?_⟩
    rw [deq_self s]
    exact hk))
theorem ok__law_told (T : Txt P K mg a) : FnOk P w K mg base (L2.CX P w) 100 a.f__law_told a.d__law_told ["_law_paper", "_law_m"] ((c__law_told a).sp K) := by
  refine fn_ok (c__law_told a) T.f__law_told.F sc__law_told rfl (fun cdv A outer s H E xw hr po => ⟨_, _, (pdss_cons (pds_set (i := 2) pd_non sc__law_told.nd)
  (pdss_cons (pds_tries (i := 3) sc__law_told.nd (fun _ _ _ _ => (pdss_one (pds_set (i := 2) (pd_callX (ok_paper_at T) (hr.mono (by decide)) T.f_paper_at.m T.f_paper_at.F.kp T.f_paper_at.b (pda_cons (pd_v 0) (pda_cons (pd_v 1) pda_nil))) sc__law_told.nd)))
  (.cons ⟨rfl, by decide, .inl T.c_BadPaper.gC⟩ (fun _ _ cls0 dd0 _ hz hf => (pdss_one (pds_set (i := 2) (pd_lst (pda_cons pd_str (pda_cons (pd_samSu (n := 1) (okO := (okL a)) (d := 84) (okL_s ⟨_, List.mem_cons_self⟩ T) (roomS (k := 1 + 84 + 1) (hr.mono (by decide))) (pd_val (cls := cls0) (d := dd0) T.c_BadPaper hz hf (pd_v 3)) (pd_v 0)) pda_nil))) sc__law_told.nd))) (.cons ⟨rfl, by decide, .inl T.c_BadNumber.gC⟩ (fun _ _ cls0 dd0 _ hz hf => (pdss_one (pds_set (i := 2) (pd_lst (pda_cons pd_str (pda_cons (pd_val (cls := cls0) (d := dd0) T.c_BadNumber hz hf (pd_v 3)) pda_nil))) sc__law_told.nd))) .nil)))
  (pdss_one (pds_ret (pd_v 2))))), ?_⟩)
  intro ss kk xx hl h _
  unfold c__law_told at h
  dsimp only at h
  split at h
  · rename_i x m
    obtain ⟨g, om, sq, h3⟩ := h
    refine s_asg (x := .d .non) (fun k h => h) ⟨rfl, g, om, ?_⟩
    rcases h3 with ⟨f, h4⟩ | ⟨f, b, h4⟩ | ⟨f, b, h4⟩
    · rw [f]
      exact ⟨true, exm_self T.c_BadPaper, fun ad dd => e_lst2 (x0 := .str "paper") (x1 := .bl true) (fun k hk => hk) (fun k hk => e_sam sq (fun k hk => ⟨rfl, rfl, rfl, rfl, hk⟩) (fun k hk => hk) hk) h4⟩
    · rw [f, b]
      exact ⟨false, exm_other T.c_BadPaper T.x_BadNumber_BadPaper, true, exm_self T.c_BadNumber, fun ad dd => e_lst2 (x0 := .str "number") (x1 := m) (fun k hk => hk) (fun k hk => ⟨rfl, rfl, rfl, rfl, hk⟩) h4⟩
    · rw [f, b]
      exact h4
  · exact h.elim
-- SPLIT
/-! ### what an expression gives -/
theorem unD_map : ∀ xs : List D, unD (xs.map Sl.d) = some xs
  | [] => rfl
  | x :: r => by
    show (unD (r.map Sl.d)).map (x :: ·) = _
    rw [unD_map r]
    rfl
def Ev (e : DE) (Γ : Gm) (x : D) : Prop := ∀ k : DK, k (.d x) → e Γ k
def EvA (as : DA) (Γ : Gm) (xs : List D) : Prop := ∀ k : List Sl → Prop, k (xs.map Sl.d) → as Γ k
def EvF {α : Type} (e : DE) (Γ : Gm) (S : α → Prop) (F : α → D) : Prop := ∀ k : DK, (∀ z, S z → k (.d (F z))) → e Γ k
section
variable {Γ : Gm} {e f : DE} {as : DA} {x y : D} {xs ys : List D} {α : Type} {S : α → Prop}
theorem evn : EvA dNil Γ [] := fun k hk => hk
theorem evc (h : Ev e Γ x) (hs : EvA as Γ xs) : EvA (dCons e as) Γ (x :: xs) := fun k hk => h _ (hs _ hk)
theorem ev_lst (h : EvA as Γ xs) (l : xs.length ≤ 100000) : Ev (dLst as) Γ (.lst xs) := fun k hk => h _ (by
  show (match unD (xs.map Sl.d) with
    | some ds => ds.length ≤ 100000 ∧ k (.d (.lst ds))
    | none => False)
  rw [unD_map]
  exact ⟨l, hk⟩)
theorem ev_tup (h : EvA as Γ xs) (l : xs.length ≤ 100000) : Ev (dTup as) Γ (.tup xs) := fun k hk => h _ (by
  show (match unD (xs.map Sl.d) with
    | some ds => ds.length ≤ 100000 ∧ k (.d (.tup ds))
    | none => False)
  rw [unD_map]
  exact ⟨l, hk⟩)
theorem ev_addT (h : Ev e Γ (.tup xs)) (h' : Ev f Γ (.tup ys)) (l : xs.length + ys.length ≤ 100000) : Ev (dOp gAdd e f) Γ (.tup (xs ++ ys)) := fun k hk => h _ (h' _ ⟨l, hk⟩)
theorem ev_addL (h : Ev e Γ (.lst xs)) (h' : Ev f Γ (.lst ys)) (l : xs.length + ys.length ≤ 100000) : Ev (dOp gAdd e f) Γ (.lst (xs ++ ys)) := fun k hk => h _ (h' _ ⟨l, hk⟩)
theorem ev_list (h : Ev e Γ (.tup xs)) : Ev (dCB gListOf (dCons e dNil)) Γ (.lst xs) := fun k hk => h _ hk
theorem ev_ix {i : Int} {j : Nat} (h : Ev e Γ (.tup xs)) (hi : i = (j : Int)) (hy : xs[j]? = some y) : Ev (dOp gIx e (dC (.int i))) Γ y := fun k hk => e_ixN hi hy h hk
theorem ev_from {i : Int} (h : Ev e Γ (.tup xs)) (i0 : 0 ≤ i) : Ev (dCut e (doSome (dC (.int i))) doNone) Γ (.tup (xs.drop i.toNat)) := fun k hk => e_cut i0 h hk
theorem ev_to {i : Int} (h : Ev e Γ (.tup xs)) (i0 : 0 ≤ i) (il : i ≤ (xs.length : Int)) : Ev (dCut e doNone (doSome (dC (.int i)))) Γ (.tup (xs.take i.toNat)) := fun k hk => e_cutT i0 il h hk
theorem evf_tup1 {F : α → D} (h : EvF e Γ S F) : EvF (dTup (dCons e dNil)) Γ S (fun z => .tup [F z]) := fun k hk => h _ fun z hz => ⟨len_ok rfl, hk z hz⟩
theorem evf_lst1 {F : α → D} (h : EvF e Γ S F) : EvF (dLst (dCons e dNil)) Γ S (fun z => .lst [F z]) := fun k hk => h _ fun z hz => ⟨len_ok rfl, hk z hz⟩
theorem evf_addR {G : α → List D} (h : Ev e Γ (.tup xs)) (h' : EvF f Γ S (fun z => .tup (G z))) (l : ∀ z, xs.length + (G z).length ≤ 100000) : EvF (dOp gAdd e f) Γ S (fun z => .tup (xs ++ G z)) := fun k hk => h _ (h' _ fun z hz => ⟨l z, hk z hz⟩)
theorem evf_addRL {G : α → List D} (h : Ev e Γ (.lst xs)) (h' : EvF f Γ S (fun z => .lst (G z))) (l : ∀ z, xs.length + (G z).length ≤ 100000) : EvF (dOp gAdd e f) Γ S (fun z => .lst (xs ++ G z)) := fun k hk => h _ (h' _ fun z hz => ⟨l z, hk z hz⟩)
theorem evf_addL {G : α → List D} (h : EvF e Γ S (fun z => .tup (G z))) (h' : Ev f Γ (.tup ys)) (l : ∀ z, (G z).length + ys.length ≤ 100000) : EvF (dOp gAdd e f) Γ S (fun z => .tup (G z ++ ys)) := fun k hk => h _ fun z hz => h' _ ⟨l z, hk z hz⟩
end
/-! ### what is wrong -/
structure WrongP (a : Ad) (x : D) : Prop where
  ask : AskP a x
  no : formD a x = false
  sam : samP a x
def wt (w : Str) (V I : D) (tl : List D) : D := .tup ([.str w, V, I] ++ tl)
abbrev TlOk (w : Str) (tl : List D) : Prop := (w = "enough" ∧ tl = []) ∨ (w = "stuck" ∧ ∃ kn : List Str, tl = [.tup (kn.map D.str)] ∧ kn.length ≤ 10 ∧ ∀ z ∈ kn, low z)
theorem TlOk.low {w : Str} {tl : List D} (h : TlOk w tl) : low w := by
  rcases h with ⟨rfl, _⟩ | ⟨rfl, _⟩
  · exact lowE
  · exact lowS
theorem TlOk.l1 {w : Str} {tl : List D} (h : TlOk w tl) : tl.length ≤ 1 := by
  rcases h with ⟨_, rfl⟩ | ⟨_, kn, rfl, _⟩
  · exact Nat.zero_le _
  · exact Nat.le_refl _
theorem TlOk.eq {w : Str} {tl : List D} (h : TlOk w tl) : ∀ y ∈ tl, okB (okL a) 84 y := by
  rcases h with ⟨_, rfl⟩ | ⟨_, kn, rfl, _⟩
  · exact fun y my => (nomatch my)
  · intro y my
    rw [List.mem_singleton.mp my]
    refine okB_t (d := 83) fun z mz => ?_
    obtain ⟨s, _, rfl⟩ := List.mem_map.mp mz
    exact okB_s rfl
theorem heads_str {w : Str} (l : low w) {r : List D} : headsOk (.tup (.str w :: r)) := fun y r e => by
  injection e with e
  injection e with e _
  subst e
  exact hdOk_str l
theorem ask_wt {w : Str} {V I : D} {tl : List D} (t : TlOk w tl) (hV : linesOk a V) (hI : OkT a 41 I) : AskP a (wt w V I tl) where
  o := rfl
  hd := heads_str t.low
  ln := fun _ => ⟨hV, hI⟩
  tl := fun _ => by
    rcases t with ⟨_, rfl⟩ | ⟨_, kn, rfl, _⟩ <;> rfl
theorem no_wt {w : Str} {V I : D} {tl : List D} (h : linesD a V = false ∨ lmM a 41 I = none) : formD a (wt w V I tl) = false := by
  have q : (linesD a V && (lmM a 41 I).isSome) = false := by
    rcases h with h | h
    · rw [h]
      rfl
    · rw [h]
      cases linesD a V <;> rfl
  show ((mkd "enough" 3 (wt w V I tl) || (mkd "stuck" 4 (wt w V I tl) && isTy .tuple (itD (wt w V I tl) 3))) && (linesD a V && (lmM a 41 I).isSome)) = false
  rw [q, Bool.and_false]
theorem sam_wt {w : Str} {V I : D} {tl : List D} (t : TlOk w tl) (hV : okB (okL a) 84 V) (hI : okB (okL a) 84 I) : samP a (wt w V I tl) := sam_tup fun y my => by
  rcases List.mem_append.mp my with my | my
  · simp only [List.mem_cons, List.not_mem_nil, or_false] at my
    rcases my with rfl | rfl | rfl
    · exact okB_s rfl
    · exact hV
    · exact hI
  · exact t.eq y my
theorem wrong_wt {w : Str} {V I : D} {tl : List D} (t : TlOk w tl) (hV : linesOk a V) (hI : OkT a 41 I) (h : linesD a V = false ∨ lmM a 41 I = none) (eV : okB (okL a) 84 V) (eI : okB (okL a) 84 I) : WrongP a (wt w V I tl) := ⟨ask_wt t hV hI, no_wt h, sam_wt t eV eI⟩
theorem wrong_no {x : D} (o : isObj x = false) (hd : headsOk x) (m1 : mkd "enough" 3 x = false) (m2 : mkd "stuck" 4 x = false) (s : samP a x) : WrongP a x where
  ask := ⟨o, hd, fun h => by
    rw [m1, m2] at h
    exact h.elim (fun e => (nomatch e)) fun e => (nomatch e), fun h => by
    rw [m2] at h
    exact (nomatch h)⟩
  no := by
    unfold formD
    rw [m1, m2]
    rfl
  sam := s
/-! ### odd values, bad items -/
structure OddP (a : Ad) (y : D) : Prop where
  o : isObj y = false
  no : lnB a y = false
  eq : okB (okL a) 82 y
  rk : rOk a.C_Line y
def oddL : List D := [.int 5, .str "c", .bl true, .tup [], .lst [.non], .str "Ann"]
theorem odd_of {y : D} (m : y ∈ oddL) : OddP a y := by
  simp only [oddL, List.mem_cons, List.not_mem_nil, or_false] at m
  rcases m with rfl | rfl | rfl | rfl | rfl | rfl
  · exact ⟨rfl, rfl, okB_s rfl, trivial⟩
  · exact ⟨rfl, rfl, okB_s rfl, trivial⟩
  · exact ⟨rfl, rfl, okB_s rfl, trivial⟩
  · exact ⟨rfl, rfl, okB_t (d := 81) fun z mz => (nomatch mz), trivial⟩
  · exact ⟨rfl, rfl, okB_l (d := 81) fun z mz => by
      rw [List.mem_singleton.mp mz]
      exact okB_s rfl, trivial⟩
  · exact ⟨rfl, rfl, okB_s rfl, trivial⟩
structure BadY (a : Ad) (y : D) : Prop where
  ok : OkY (OkT a 40) a y
  no : ∀ many, lmL (lmM a 40) a many [y] = none
  eq : okB (okL a) 82 y
theorem okL_1 : okL a (lineO a 1 0) := ⟨1, 0, rfl, by decide, by decide, by decide, by decide⟩
def badL (a : Ad) : List D := [.tup [.str "times", .int 5, .tup [.str "ann"]], .tup [.str "times", .bl true, .tup [.str "ann"]], .tup [.str "turns", lineO a 1 0, .tup [.str "ann"]], .tup [.str "times", lineO a 1 0], .int 7, .str "A"]
def deepY (a : Ad) : D := .tup [.str "times", lineO a 1 0, .tup []]
theorem lowU : low "turns" := low_ascii (by decide +kernel)
theorem lm_no {y : D} (w : isWord y = false) (h : (mkd "times" 3 y && lnB a (itD y 1)) = false) (many : Nat) : lmL (lmM a 40) a many [y] = none := by
  show (if isWord y = true then (if many + 1 > 2000 then none else lmL (lmM a 40) a (many + 1) []) else if (mkd "times" 3 y && lnB a (itD y 1)) = true then _ else none) = none
  rw [w, h]
  rfl
theorem okB_t3 {x y : D} {w : Str} (hx : okB (okL a) 81 x) (hy : okB (okL a) 81 y) : okB (okL a) 82 (.tup [.str w, x, y]) := okB_t (d := 81) fun z mz => by
  simp only [List.mem_cons, List.not_mem_nil, or_false] at mz
  rcases mz with rfl | rfl | rfl
  · exact okB_s rfl
  · exact hx
  · exact hy
theorem okB_ann : okB (okL a) 81 (.tup [.str "ann"]) := okB_t (d := 80) fun z mz => by
  rw [List.mem_singleton.mp mz]
  exact okB_s rfl
theorem mkd_ne {w v : Str} {n : Nat} {r : List D} (h : v ≠ w ∨ r.length + 1 ≠ n) : mkd w n (.tup (.str v :: r)) = false := by
  show (decide (r.length + 1 = n) && decide (v = w)) = false
  rcases h with h | h
  · rw [decide_eq_false h, Bool.and_false]
  · rw [decide_eq_false h, Bool.false_and]
theorem okY_t {w : Str} {r : List D} (l : low w) (h : mkd "times" 3 (.tup (.str w :: r)) = true → rOk a.C_Line (itD (.tup (.str w :: r)) 1) ∧ (lnB a (itD (.tup (.str w :: r)) 1) = true → OkT a 40 (itD (.tup (.str w :: r)) 2))) : OkY (OkT a 40) a (.tup (.str w :: r)) := ⟨rfl, fun s e => (nomatch e), heads_str l, h⟩
theorem bad_of {y : D} (m : y ∈ badL a) : BadY a y := by
  simp only [badL, List.mem_cons, List.not_mem_nil, or_false] at m
  rcases m with rfl | rfl | rfl | rfl | rfl | rfl
  · exact ⟨okY_t lowT fun _ => ⟨trivial, fun e => (nomatch e)⟩, lm_no rfl (by rw [show lnB a (itD _ 1) = false from rfl, Bool.and_false]), okB_t3 (okB_s rfl) okB_ann⟩
  · exact ⟨okY_t lowT fun _ => ⟨trivial, fun e => (nomatch e)⟩, lm_no rfl (by rw [show lnB a (itD _ 1) = false from rfl, Bool.and_false]), okB_t3 (okB_s rfl) okB_ann⟩
  · have m0 : mkd "times" 3 (.tup [.str "turns", lineO a 1 0, .tup [.str "ann"]]) = false := mkd_ne (.inl (by decide +kernel))
    exact ⟨okY_t lowU fun h => by
      rw [m0] at h
      exact (nomatch h), lm_no rfl (by rw [m0]; rfl), okB_t3 (okB_o okL_1) okB_ann⟩
  · have m0 : mkd "times" 3 (.tup [.str "times", lineO a 1 0]) = false := rfl
    exact ⟨okY_t lowT fun h => by
      rw [m0] at h
      exact (nomatch h), lm_no rfl (by rw [m0]; rfl), okB_t (d := 81) fun z mz => by
      simp only [List.mem_cons, List.not_mem_nil, or_false] at mz
      rcases mz with rfl | rfl
      · exact okB_s rfl
      · exact okB_o okL_1⟩
  · exact ⟨⟨rfl, fun s e => (nomatch e), fun y r e => (nomatch e), fun e => (nomatch e)⟩, lm_no rfl rfl, okB_s rfl⟩
  · exact ⟨⟨rfl, fun s e => by
      cases e
      decide +kernel, fun y r e => (nomatch e), fun e => (nomatch e)⟩, lm_no (by decide +kernel) rfl, okB_s rfl⟩
theorem deep_bad : BadY a (deepY a) := by
  have mk : (mkd "times" 3 (deepY a) && lnB a (itD (deepY a) 1)) = true := by
    show (true && (isNon (lineO a 1 0) || isC a.C_Line (lineO a 1 0))) = true
    rw [show isC a.C_Line (lineO a 1 0) = true from decide_eq_true rfl]
    rfl
  refine ⟨okY_t lowT fun _ => ⟨rfl, fun _ => ⟨rfl, fun xs e => ?_⟩⟩, fun many => ?_, okB_t3 (okB_o okL_1) (okB_t (d := 80) fun z mz => (nomatch mz))⟩
  · injection e with e
    subst e
    exact ⟨Nat.zero_le _, fun y my => (nomatch my)⟩
  · show (if isWord (deepY a) = true then (if many + 1 > 2000 then none else lmL (lmM a 40) a (many + 1) []) else if (mkd "times" 3 (deepY a) && lnB a (itD (deepY a) 1)) = true then (match lmM a 40 (itD (deepY a) 2) with
      | none => none
      | some 0 => none
      | some (i + 1) => if many + 1 + (i + 1) > 2000 then none else lmL (lmM a 40) a (many + 1 + (i + 1)) []) else none) = none
    rw [mk, show isWord (deepY a) = false from rfl]
    rfl
theorem lm_app {rc : D → Option Nat} : ∀ (xs ys : List D) (many : Nat), (∀ m, lmL rc a m ys = none) → lmL rc a many (xs ++ ys) = none
  | [], ys, many, h => h many
  | x :: r, ys, many, h => by
    have ih := fun m => lm_app (rc := rc) r ys m h
    show (if isWord x = true then (if many + 1 > 2000 then none else lmL rc a (many + 1) (r ++ ys)) else if (mkd "times" 3 x && lnB a (itD x 1)) = true then (match rc (itD x 2) with
      | none => none
      | some 0 => none
      | some (i + 1) => if many + 1 + (i + 1) > 2000 then none else lmL rc a (many + 1 + (i + 1)) (r ++ ys)) else none) = none
    split
    · split
      · rfl
      · exact ih _
    · split
      · split
        · rfl
        · rfl
        · split
          · rfl
          · exact ih _
      · rfl
-- SPLIT
/-! ### papers with one wrong value -/
structure PapQ (w : Str) (vs xs tl : List D) : Prop where
  hv : ∀ p ∈ vs, RP p
  few : vs.length ≤ 10
  hx : RIs 40 xs
  cn : (xs.map (cn 40)).sum ≤ 2000
  ht : TlOk w tl
theorem PapQ.pk {w : Str} {vs xs tl : List D} (h : PapQ w vs xs tl) : PapOk w vs xs tl := ⟨h.hv, h.few, h.hx, h.ht⟩
section
variable {w : Str} {vs xs tl : List D}
theorem PapQ.lV (q : PapQ w vs xs tl) {r : List D} (l : r.length ≤ 1) (h : ∀ y ∈ r, rOk a.C_Line y) : linesOk a (.tup (vs.map (lineP a) ++ r)) := ⟨rfl, fun ws e => by
  injection e with e
  subst e
  refine ⟨by rw [List.length_append, List.length_map]; have := q.few; omega, fun y my => ?_⟩
  rcases List.mem_append.mp my with my | my
  · obtain ⟨p, mp, rfl⟩ := List.mem_map.mp my
    exact (q.hv p mp).rok
  · exact h y my⟩
theorem PapQ.lI (q : PapQ w vs xs tl) {r : List D} (l : r.length ≤ 1) (h : ∀ y ∈ r, OkY (OkT a 40) a y) : OkT a 41 (.tup (xs.map (lnF a 40) ++ r)) := ⟨rfl, fun ws e => by
  injection e with e
  subst e
  have q3 := (okT_ln (a := a) 41 40 xs q.hx).2 _ rfl
  refine ⟨by rw [List.length_append, List.length_map]; have := q.hx.1.2; omega, fun y my => ?_⟩
  rcases List.mem_append.mp my with my | my
  · exact q3.2 y my
  · exact h y my⟩
theorem PapQ.eV (q : PapQ w vs xs tl) : ∀ y ∈ vs.map (lineP a), okB (okL a) 82 y := fun y my => okB_up (Nat.zero_le _) (okB_vs q.hv y my)
theorem PapQ.eI (q : PapQ w vs xs tl) : ∀ y ∈ xs.map (lnF a 40), okB (okL a) 82 y := fun y my => okB_up (by decide) (okB_xs (n := 40) q.hx y my)
theorem app_ok {d : Nat} {ys : List D} {z : D} (h : ∀ y ∈ ys, okB (okL a) d y) (hz : okB (okL a) d z) : ∀ y ∈ ys ++ [z], okB (okL a) d y := fun y my => by
  rcases List.mem_append.mp my with my | my
  · exact h y my
  · rw [List.mem_singleton.mp my]
    exact hz
theorem up84 {x : D} (h : okB (okL a) 83 x) : okB (okL a) 84 x := okB_up (by decide) h
theorem PapQ.wI (q : PapQ w vs xs tl) {z : D} (b : BadY a z) : WrongP a (wt w (.tup (vs.map (lineP a))) (.tup (xs.map (lnF a 40) ++ [z])) tl) :=
  wrong_wt q.ht (by
    have t := q.lV (a := a) (r := []) (Nat.zero_le _) (fun y my => (nomatch my))
    rw [List.append_nil] at t
    exact t) (q.lI (Nat.le_refl _) fun y my => by
    rw [List.mem_singleton.mp my]
    exact b.ok) (.inr (lm_app _ _ 0 b.no)) (up84 (okB_t q.eV)) (up84 (okB_t (app_ok q.eI b.eq)))
theorem PapQ.wV (q : PapQ w vs xs tl) {z : D} (b : OddP a z) : WrongP a (wt w (.tup (vs.map (lineP a) ++ [z])) (.tup (xs.map (lnF a 40))) tl) :=
  wrong_wt q.ht (q.lV (Nat.le_refl _) fun y my => by
    rw [List.mem_singleton.mp my]
    exact b.rk) (by
    have t := q.lI (a := a) (r := []) (Nat.zero_le _) (fun y my => (nomatch my))
    rw [List.append_nil] at t
    exact t) (.inl (by
    show (vs.map (lineP a) ++ [z]).all (lnB a) = false
    rw [List.all_append]
    show (_ && (lnB a z && true)) = false
    rw [b.no]
    simp)) (up84 (okB_t (app_ok q.eV b.eq))) (up84 (okB_t q.eI))
theorem PapQ.wVl (q : PapQ w vs xs tl) : WrongP a (wt w (.lst (vs.map (lineP a))) (.tup (xs.map (lnF a 40))) tl) :=
  wrong_wt q.ht ⟨rfl, fun vs e => (nomatch e)⟩ (by
    have t := q.lI (a := a) (r := []) (Nat.zero_le _) (fun y my => (nomatch my))
    rw [List.append_nil] at t
    exact t) (.inl rfl) (up84 (okB_l q.eV)) (up84 (okB_t q.eI))
theorem PapQ.wIl (q : PapQ w vs xs tl) : WrongP a (wt w (.tup (vs.map (lineP a))) (.lst (xs.map (lnF a 40))) tl) :=
  wrong_wt q.ht (by
    have t := q.lV (a := a) (r := []) (Nat.zero_le _) (fun y my => (nomatch my))
    rw [List.append_nil] at t
    exact t) ⟨rfl, fun vs e => (nomatch e)⟩ (.inr rfl) (up84 (okB_t q.eV)) (up84 (okB_l q.eI))
theorem PapQ.eL (q : PapQ w vs xs tl) : ∀ y ∈ lead a w vs xs ++ tl, okB (okL a) 84 y := fun y my => by
  rcases List.mem_append.mp my with my | my
  · simp only [lead, List.mem_cons, List.not_mem_nil, or_false] at my
    rcases my with rfl | rfl | rfl
    · exact okB_s rfl
    · exact up84 (okB_t q.eV)
    · exact up84 (okB_t q.eI)
  · exact q.ht.eq y my
theorem PapQ.sam (q : PapQ w vs xs tl) : seqB (okL a) 84 (papL a w vs xs tl) := ⟨_, .inr rfl, q.eL⟩
theorem PapQ.wL (q : PapQ w vs xs tl) : WrongP a (.lst (lead a w vs xs ++ tl)) := wrong_no rfl (fun y r e => (nomatch e)) rfl rfl (sam_lst q.eL)
theorem PapQ.w2 (q : PapQ w vs xs tl) : WrongP a (.tup [.str w, .tup (vs.map (lineP a))]) := wrong_no rfl (heads_str q.ht.low) rfl rfl (sam_tup fun y my => by
  simp only [List.mem_cons, List.not_mem_nil, or_false] at my
  rcases my with rfl | rfl
  · exact okB_s rfl
  · exact up84 (okB_t q.eV))
theorem PapQ.w7 (q : PapQ w vs xs tl) : WrongP a (.tup (lead a w vs xs ++ tl ++ [.tup []])) := by
  refine wrong_no rfl (heads_str q.ht.low) ?_ ?_ (sam_tup fun y my => ?_)
  · refine mkd_ne (.inr ?_)
    show ([D.tup (vs.map (lineP a)), D.tup (xs.map (lnF a 40))] ++ tl ++ [D.tup []]).length + 1 ≠ 3
    simp
  · refine mkd_ne ?_
    rcases q.ht with ⟨rfl, rfl⟩ | ⟨rfl, kn, rfl, _⟩
    · exact .inl (by decide +kernel)
    · exact .inr (by
        show 5 ≠ 4
        decide)
  · rcases List.mem_append.mp my with my | my
    · exact q.eL y my
    · rw [List.mem_singleton.mp my]
      exact okB_t (d := 83) fun z mz => (nomatch mz)
theorem lowLi : low "lined" := low_ascii (by decide +kernel)
theorem PapQ.w8 (q : PapQ w vs xs tl) : WrongP a (.tup ([.str "lined"] ++ ([.tup (vs.map (lineP a)), .tup (xs.map (lnF a 40))] ++ tl))) := by
  refine wrong_no rfl (heads_str lowLi) (mkd_ne (.inl (by decide +kernel))) (mkd_ne (.inl (by decide +kernel))) (sam_tup fun y my => ?_)
  rcases List.mem_cons.mp my with rfl | my
  · exact okB_s rfl
  · exact q.eL y (List.mem_cons_of_mem _ my)
end
def l8 (a : Ad) (w : Str) (vs xs tl : List D) : List D := [.non, .int 5, .str "enough", .tup [], .lst (lead a w vs xs ++ tl), .tup [.str w, .tup (vs.map (lineP a))], .tup (lead a w vs xs ++ tl ++ [.tup []]), .tup ([.str "lined"] ++ ([.tup (vs.map (lineP a)), .tup (xs.map (lnF a 40))] ++ tl))]
def l10 (a : Ad) (w : Str) (vs xs tl : List D) (odd : D) : List D := [.tup ([.str w, .lst (vs.map (lineP a))] ++ ([.tup (xs.map (lnF a 40))] ++ tl)), .tup ([.str w, .tup (vs.map (lineP a) ++ [odd])] ++ ([.tup (xs.map (lnF a 40))] ++ tl))]
def l12 (a : Ad) (w : Str) (vs xs tl : List D) : List D := [.tup ([.str w, .tup (vs.map (lineP a))] ++ [.lst (xs.map (lnF a 40))] ++ tl), .tup ([.str w, .tup (vs.map (lineP a))] ++ [.tup (xs.map (lnF a 40) ++ [deepY a])] ++ tl)]
def l13 (a : Ad) (w : Str) (vs xs tl : List D) (z : D) : D := .tup ([.str w, .tup (vs.map (lineP a))] ++ [.tup (xs.map (lnF a 40) ++ [z])] ++ tl)
theorem wrongs {w : Str} {vs xs tl : List D} (q : PapQ w vs xs tl) {odd z : D} (ho : OddP a odd) (hz : BadY a z) : ∀ y ∈ l8 a w vs xs tl ++ l10 a w vs xs tl odd ++ l12 a w vs xs tl ++ [l13 a w vs xs tl z], WrongP a y := fun y my => by
  rcases List.mem_append.mp my with my | my
  rcases List.mem_append.mp my with my | my
  rcases List.mem_append.mp my with my | my
  · simp only [l8, List.mem_cons, List.not_mem_nil, or_false] at my
    rcases my with rfl | rfl | rfl | rfl | rfl | rfl | rfl | rfl
    · exact wrong_no rfl (fun y r e => (nomatch e)) rfl rfl (.inr (lay_ok (lay_non 1) (by decide)))
    · exact wrong_no rfl (fun y r e => (nomatch e)) rfl rfl (.inr (lay_ok (lay_int 5 1) (by decide)))
    · exact wrong_no rfl (fun y r e => (nomatch e)) rfl rfl (.inr (lay_ok (lay_str lowE 1) (by decide)))
    · exact wrong_no rfl (fun y r e => (nomatch e)) rfl rfl (sam_tup fun y my => (nomatch my))
    · exact q.wL
    · exact q.w2
    · exact q.w7
    · exact q.w8
  · simp only [l10, List.mem_cons, List.not_mem_nil, or_false] at my
    rcases my with rfl | rfl
    · exact q.wVl
    · exact q.wV ho
  · simp only [l12, List.mem_cons, List.not_mem_nil, or_false] at my
    rcases my with rfl | rfl
    · exact q.wIl
    · exact q.wI deep_bad
  · rw [List.mem_singleton.mp my]
    exact q.wI hz
def c__law_wrong (a : Ad) : Ctr where
  n := 2
  f := fun ss k _ => match ss with
    | [.pool, .d x] => ∃ w vs xs tl, x = papL a w vs xs tl ∧ PapQ w vs xs tl ∧ ∀ ys, ys.length ≤ 1000 → (∀ y ∈ ys, WrongP a y) → k (.d (.lst ys))
    | _ => False
  mono := fun {ss k k' x x'} hk _ h => by
    split at h
    · obtain ⟨w, vs, xs, tl, e, q, h⟩ := h
      exact ⟨w, vs, xs, tl, e, q, fun ys l hy => hk _ (h ys l hy)⟩
    · exact h.elim
theorem ev_line1 {a : Ad} {Γ : Gm} {xw : XW} : Ev (dNew (c_Line a) a.C_Line [.int (0)] xw (dCons (dC (.int 1)) dNil)) Γ (lineO a 1 0) := fun k hk => ⟨rfl, by decide, by decide, by decide, by decide, hk⟩
theorem ev_c {Γ : Gm} {x : D} : Ev (dC x) Γ x := fun k hk => hk
theorem ok__law_wrong (T : Txt P K mg a) : FnOk P w K mg base (L2.CX P w) 6 a.f__law_wrong a.d__law_wrong ["_law_pool_here", "_law_paper"] ((c__law_wrong a).sp K) := by
  refine fn_ok (c__law_wrong a) T.f__law_wrong.F sc__law_wrong rfl (fun cdv A outer s H E xw hr po => ⟨_, _, (pdss_cons (pds_set (i := 2) (pd_ix (pd_lst (pda_cons pd_int (pda_cons pd_str (pda_cons pd_bl (pda_cons (pd_tup pda_nil) (pda_cons (pd_lst (pda_cons pd_non pda_nil)) (pda_cons pd_str pda_nil))))))) (pd_call (ok__law_take T) (hr.mono (by decide)) T.f__law_take.m T.f__law_take.F.kp T.f__law_take.b (pda_cons (pd_v 0) (pda_cons pd_int pda_nil)))) sc__law_wrong.nd)
  (pdss_cons (pds_set (i := 3) (pd_tup (pda_cons pd_str (pda_cons (pd_newD T.mk_Line (ok_Line___init__ T) (hr.mono (by decide)) T.k_Line.gC T.m_Line___init__.b1 (pda_cons pd_int pda_nil)) (pda_cons (pd_tup pda_nil) pda_nil)))) sc__law_wrong.nd)
  (pdss_cons (pds_set (i := 4) (pd_lst (pda_cons pd_non (pda_cons pd_int (pda_cons pd_str (pda_cons (pd_tup pda_nil) (pda_cons (pd_callTy call_list_of oc_listOf T.n_list (by decide +kernel) (pda_cons (pd_v 1) pda_nil)) (pda_cons (pd_cut (pd_v 1) pdo_none (pdo_some pd_int)) (pda_cons (pd_add (pd_v 1) (pd_tup (pda_cons (pd_tup pda_nil) pda_nil))) (pda_cons (pd_add (pd_tup (pda_cons pd_str pda_nil)) (pd_cut (pd_v 1) (pdo_some pd_int) pdo_none)) pda_nil))))))))) sc__law_wrong.nd)
  (pdss_cons (pds_set (i := 4) (pd_add (pd_v 4) (pd_lst (pda_cons (pd_add (pd_tup (pda_cons (pd_ix (pd_v 1) pd_int) (pda_cons (pd_callTy call_list_of oc_listOf T.n_list (by decide +kernel) (pda_cons (pd_ix (pd_v 1) pd_int) pda_nil)) pda_nil))) (pd_cut (pd_v 1) (pdo_some pd_int) pdo_none)) (pda_cons (pd_add (pd_tup (pda_cons (pd_ix (pd_v 1) pd_int) (pda_cons (pd_add (pd_ix (pd_v 1) pd_int) (pd_tup (pda_cons (pd_v 2) pda_nil))) pda_nil))) (pd_cut (pd_v 1) (pdo_some pd_int) pdo_none)) pda_nil)))) sc__law_wrong.nd)
  (pdss_cons (pds_set (i := 4) (pd_add (pd_v 4) (pd_lst (pda_cons (pd_add (pd_add (pd_cut (pd_v 1) pdo_none (pdo_some pd_int)) (pd_tup (pda_cons (pd_callTy call_list_of oc_listOf T.n_list (by decide +kernel) (pda_cons (pd_ix (pd_v 1) pd_int) pda_nil)) pda_nil))) (pd_cut (pd_v 1) (pdo_some pd_int) pdo_none)) (pda_cons (pd_add (pd_add (pd_cut (pd_v 1) pdo_none (pdo_some pd_int)) (pd_tup (pda_cons (pd_add (pd_ix (pd_v 1) pd_int) (pd_tup (pda_cons (pd_v 3) pda_nil))) pda_nil))) (pd_cut (pd_v 1) (pdo_some pd_int) pdo_none)) pda_nil)))) sc__law_wrong.nd)
  (pdss_cons (pds_set (i := 5) (pd_lst (pda_cons (pd_tup (pda_cons pd_str (pda_cons pd_int (pda_cons (pd_tup (pda_cons pd_str pda_nil)) pda_nil)))) (pda_cons (pd_tup (pda_cons pd_str (pda_cons pd_bl (pda_cons (pd_tup (pda_cons pd_str pda_nil)) pda_nil)))) (pda_cons (pd_tup (pda_cons pd_str (pda_cons (pd_newD T.mk_Line (ok_Line___init__ T) (hr.mono (by decide)) T.k_Line.gC T.m_Line___init__.b1 (pda_cons pd_int pda_nil)) (pda_cons (pd_tup (pda_cons pd_str pda_nil)) pda_nil)))) (pda_cons (pd_tup (pda_cons pd_str (pda_cons (pd_newD T.mk_Line (ok_Line___init__ T) (hr.mono (by decide)) T.k_Line.gC T.m_Line___init__.b1 (pda_cons pd_int pda_nil)) pda_nil))) (pda_cons pd_int (pda_cons pd_str pda_nil))))))) sc__law_wrong.nd)
  (pdss_one (pds_ret (pd_add (pd_v 4) (pd_lst (pda_cons (pd_add (pd_add (pd_cut (pd_v 1) pdo_none (pdo_some pd_int)) (pd_tup (pda_cons (pd_add (pd_ix (pd_v 1) pd_int) (pd_tup (pda_cons (pd_ix (pd_v 5) (pd_call (ok__law_take T) (hr.mono (by decide)) T.f__law_take.m T.f__law_take.F.kp T.f__law_take.b (pda_cons (pd_v 0) (pda_cons pd_int pda_nil)))) pda_nil))) pda_nil))) (pd_cut (pd_v 1) (pdo_some pd_int) pdo_none)) pda_nil))))))))))), ?_⟩)
  intro ss kk xx hl h ew
  unfold c__law_wrong at h
  dsimp only at h
  split at h
  · obtain ⟨w, vs, xs, tl, rfl, q, h3⟩ := h
    have l1 := q.ht.l1
    have lV := q.few
    have lI := q.hx.1.2
    refine e_pick (n := 6) (xs := oddL) rfl (by decide) (by decide) (ev_lst (evc ev_c (evc ev_c (evc ev_c (evc (ev_tup evn (len_ok rfl)) (evc (ev_lst (evc ev_c evn) (len_ok rfl)) (evc ev_c evn)))))) (len_ok rfl)) rfl (fun k hk => hk) (fun odd mo => ?_)
    refine s_asg (x := .d (deepY a)) (ev_tup (evc ev_c (evc ev_line1 (evc (ev_tup evn (len_ok rfl)) evn))) (len_ok rfl)) ?_
    have p1 : ∀ {s4 s5 : Sl}, Ev (dVar 1) [.pool, .d (papL a w vs xs tl), .d odd, .d (deepY a), s4, s5] (.tup (lead a w vs xs ++ tl)) := fun k hk => hk
    have c2 : ∀ {s4 s5 : Sl}, Ev (dCut (dVar 1) doNone (doSome (dC (.int 2)))) [.pool, .d (papL a w vs xs tl), .d odd, .d (deepY a), s4, s5] (.tup [.str w, .tup (vs.map (lineP a))]) := ev_to (i := 2) p1 (by decide) (by
      show (2 : Int) ≤ ((tl.length + 3 : Nat) : Int)
      omega)
    have f1 : ∀ {s4 s5 : Sl}, Ev (dCut (dVar 1) (doSome (dC (.int 1))) doNone) [.pool, .d (papL a w vs xs tl), .d odd, .d (deepY a), s4, s5] (.tup ([.tup (vs.map (lineP a)), .tup (xs.map (lnF a 40))] ++ tl)) := ev_from (i := 1) p1 (by decide)
    have f2 : ∀ {s4 s5 : Sl}, Ev (dCut (dVar 1) (doSome (dC (.int 2))) doNone) [.pool, .d (papL a w vs xs tl), .d odd, .d (deepY a), s4, s5] (.tup ([.tup (xs.map (lnF a 40))] ++ tl)) := ev_from (i := 2) p1 (by decide)
    have f3 : ∀ {s4 s5 : Sl}, Ev (dCut (dVar 1) (doSome (dC (.int 3))) doNone) [.pool, .d (papL a w vs xs tl), .d odd, .d (deepY a), s4, s5] (.tup tl) := ev_from (i := 3) p1 (by decide)
    have i0 : ∀ {s4 s5 : Sl}, Ev (dOp gIx (dVar 1) (dC (.int 0))) [.pool, .d (papL a w vs xs tl), .d odd, .d (deepY a), s4, s5] (.str w) := ev_ix (i := 0) (j := 0) p1 rfl rfl
    have i1 : ∀ {s4 s5 : Sl}, Ev (dOp gIx (dVar 1) (dC (.int 1))) [.pool, .d (papL a w vs xs tl), .d odd, .d (deepY a), s4, s5] (.tup (vs.map (lineP a))) := ev_ix (i := 1) (j := 1) p1 rfl rfl
    have i2 : ∀ {s4 s5 : Sl}, Ev (dOp gIx (dVar 1) (dC (.int 2))) [.pool, .d (papL a w vs xs tl), .d odd, .d (deepY a), s4, s5] (.tup (xs.map (lnF a 40))) := ev_ix (i := 2) (j := 2) p1 rfl rfl
    have v2 : ∀ {s4 s5 : Sl}, Ev (dVar 2) [.pool, .d (papL a w vs xs tl), .d odd, .d (deepY a), s4, s5] odd := fun k hk => hk
    have v3 : ∀ {s4 s5 : Sl}, Ev (dVar 3) [.pool, .d (papL a w vs xs tl), .d odd, .d (deepY a), s4, s5] (deepY a) := fun k hk => hk
    refine s_asg (x := .d (.lst (l8 a w vs xs tl))) (ev_lst (evc ev_c (evc ev_c (evc ev_c (evc (ev_tup evn (len_ok rfl)) (evc (ev_list p1) (evc c2 (evc (ev_addT p1 (ev_tup (evc (ev_tup evn (len_ok rfl)) evn) (len_ok rfl)) ?_) (evc (ev_addT (ev_tup (evc ev_c evn) (len_ok rfl)) f1 ?_) evn)))))))) (len_ok rfl)) ?_
    · show tl.length + 3 + 1 ≤ 100000
      omega
    · show 1 + (tl.length + 2) ≤ 100000
      omega
    refine s_asg (x := .d (.lst (l8 a w vs xs tl ++ l10 a w vs xs tl odd))) (ev_addL (fun k hk => hk) (ev_lst (evc (ev_addT (ev_tup (evc i0 (evc (ev_list i1) evn)) (len_ok rfl)) f2 ?_) (evc (ev_addT (ev_tup (evc i0 (evc (ev_addT i1 (ev_tup (evc v2 evn) (len_ok rfl)) ?_) evn)) (len_ok rfl)) f2 ?_) evn)) (len_ok rfl)) (len_ok rfl)) ?_
    · show 2 + (tl.length + 1) ≤ 100000
      omega
    · show (vs.map (lineP a)).length + 1 ≤ 100000
      rw [List.length_map]
      omega
    · show 2 + (tl.length + 1) ≤ 100000
      omega
    refine s_asg (x := .d (.lst (l8 a w vs xs tl ++ l10 a w vs xs tl odd ++ l12 a w vs xs tl))) (ev_addL (fun k hk => hk) (ev_lst (evc (ev_addT (ev_addT c2 (ev_tup (evc (ev_list i2) evn) (len_ok rfl)) (len_ok rfl)) f3 ?_) (evc (ev_addT (ev_addT c2 (ev_tup (evc (ev_addT i2 (ev_tup (evc v3 evn) (len_ok rfl)) ?_) evn) (len_ok rfl)) (len_ok rfl)) f3 ?_) evn)) (len_ok rfl)) (len_ok rfl)) ?_
    · show 3 + tl.length ≤ 100000
      omega
    · show (xs.map (lnF a 40)).length + 1 ≤ 100000
      rw [List.length_map]
      omega
    · show 3 + tl.length ≤ 100000
      omega
    have ann : ∀ {Γ : Gm}, Ev (dTup (dCons (dC (.str "ann")) dNil)) Γ (.tup [.str "ann"]) := ev_tup (evc ev_c evn) (len_ok rfl)
    refine s_asg (x := .d (.lst (badL a))) (ev_lst (evc (ev_tup (evc ev_c (evc ev_c (evc ann evn))) (len_ok rfl)) (evc (ev_tup (evc ev_c (evc ev_c (evc ann evn))) (len_ok rfl)) (evc (ev_tup (evc ev_c (evc ev_line1 (evc ann evn))) (len_ok rfl)) (evc (ev_tup (evc ev_c (evc ev_line1 evn)) (len_ok rfl)) (evc ev_c (evc ev_c evn)))))) (len_ok rfl)) ?_
    refine evf_addRL (α := D) (S := fun z => z ∈ badL a) (G := fun z => [l13 a w vs xs tl z]) (fun k hk => hk) (evf_lst1 (evf_addL (G := fun z => [.str w, .tup (vs.map (lineP a))] ++ [.tup (xs.map (lnF a 40) ++ [z])]) (evf_addR (G := fun z => [.tup (xs.map (lnF a 40) ++ [z])]) c2 (evf_tup1 (evf_addR (G := fun z => [z]) i2 (evf_tup1 (F := fun z => z) (fun k hk => e_pick (n := 6) (xs := badL a) rfl (by decide) (by decide) (fun k hk => hk) rfl (fun k hk => hk) (fun z mz => hk z mz))) ?_)) (fun z => len_ok rfl)) f3 ?_)) (fun z => len_ok rfl) _ (fun z mz => ?_)
    · intro z
      show (xs.map (lnF a 40)).length + 1 ≤ 100000
      rw [List.length_map]
      omega
    · intro z
      show 3 + tl.length ≤ 100000
      omega
    · exact h3 _ (show (13 : Nat) ≤ 1000 by decide) (wrongs q (odd_of mo) (bad_of mz))
  · exact h.elim
-- SPLIT
/-! ### what is told -/
theorem form_ok {w : Str} {vs xs tl : List D} (q : PapQ w vs xs tl) : formD a (papL a w vs xs tl) = true := by
  have f1 : linesD a (.tup (vs.map (lineP a))) = true := by
    show (vs.map (lineP a)).all (lnB a) = true
    rw [List.all_map, List.all_eq_true]
    exact fun p mp => (q.hv p mp).lnB
  have f2 : (lmM a 41 (.tup (xs.map (lnF a 40)))).isSome = true := by
    show (lmL (lmM a 40) a 0 (xs.map (lnF a 40))).isSome = true
    rw [lm_cnt 40 xs 0 q.hx.2 (by have := q.cn; omega)]
    rfl
  show ((mkd "enough" 3 (papL a w vs xs tl) || (mkd "stuck" 4 (papL a w vs xs tl) && isTy .tuple (itD (papL a w vs xs tl) 3))) && (linesD a (.tup (vs.map (lineP a))) && (lmM a 41 (.tup (xs.map (lnF a 40)))).isSome)) = true
  rw [f1, f2, Bool.and_self, Bool.and_true]
  rcases q.ht with ⟨rfl, rfl⟩ | ⟨rfl, kn, rfl, _⟩
  · have m : mkd "enough" 3 (papL a "enough" vs xs []) = true := by
      show (decide (3 = 3) && decide (("enough" : Str) = "enough")) = true
      simp
    rw [m]
    rfl
  · have m : mkd "stuck" 4 (papL a "stuck" vs xs [.tup (kn.map D.str)]) = true := by
      show (decide (4 = 4) && decide (("stuck" : Str) = "stuck")) = true
      simp
    rw [m]
    show (_ || (true && true)) = true
    simp
theorem ask_ok {w : Str} {vs xs tl : List D} (q : PapQ w vs xs tl) : AskP a (papL a w vs xs tl) := ask_wt q.ht (by
    have t := q.lV (a := a) (r := []) (Nat.zero_le _) (fun y my => (nomatch my))
    rw [List.append_nil] at t
    exact t) (by
    have t := q.lI (a := a) (r := []) (Nat.zero_le _) (fun y my => (nomatch my))
    rw [List.append_nil] at t
    exact t)
theorem btw_of {i : Int} (h : mOk i) : btw 0 top30 (.int i) = true := by
  show (decide (0 ≤ i) && decide (i ≤ top30)) = true
  rw [decide_eq_true h.1, decide_eq_true h.2]
  rfl
section
variable {w : Str} {vs xs tl : List D} {e f : DE} {Γ : Gm}
theorem ev_told (q : PapQ w vs xs tl) {m : Int} (mo : mOk m) (he : Ev e Γ (papL a w vs xs tl)) (hf : Ev f Γ (.int m)) : Ev (dCall (c__law_told a) xw0 (dCons e (dCons f dNil))) Γ (papV m w vs xs tl) := fun k hk => he _ (hf _ ⟨rfl, ask_ok q, rfl, .inl q.sam, .inr (.inr ⟨form_ok q, btw_of mo, w, vs, xs, tl, m, rfl, q.pk, rfl, hk⟩)⟩)
theorem ev_toldN (q : PapQ w vs xs tl) {m : D} (o : isObj m = false) (b : btw 0 top30 m = false) (he : Ev e Γ (papL a w vs xs tl)) (hf : Ev f Γ m) : Ev (dCall (c__law_told a) xw0 (dCons e (dCons f dNil))) Γ (.lst [.str "number", m]) := fun k hk => he _ (hf _ ⟨rfl, ask_ok q, o, .inl q.sam, .inr (.inl ⟨form_ok q, b, hk⟩)⟩)
theorem ev_toldW {x m : D} (q : WrongP a x) (o : isObj m = false) (he : Ev e Γ x) (hf : Ev f Γ m) : Ev (dCall (c__law_told a) xw0 (dCons e (dCons f dNil))) Γ (.lst [.str "paper", .bl true]) := fun k hk => he _ (hf _ ⟨rfl, q.ask, o, q.sam, .inl ⟨q.no, hk⟩⟩)
theorem ev_ne {x : D} (o : okD x = true) (he : Ev e Γ x) (hf : Ev f Γ x) : Ev (dOp gNe e f) Γ (.bl false) := fun k hk => he _ (hf _ ⟨o, o, by
  show k (.d (.bl (!deq x x)))
  rw [deq_self o]
  exact hk⟩)
theorem ev_deep {i : Int} {n : Nat} (e : i = (n : Int)) (l : n ≤ 1000) : Ev (dCall (c__law_deep a) xw0 (dCons (dC (.int i)) dNil)) Γ (.tup [.str "enough", .tup [], .tup (dpL a n)]) := by
  subst e
  exact fun k hk => ⟨rfl, by omega, by omega, hk⟩
theorem ev_tupOf {ys : List D} (h : Ev e Γ (.lst ys)) : Ev (dCB gTupOf (dCons e dNil)) Γ (.tup ys) := fun k hk => h _ hk
end
theorem pap_deep : PapQ "enough" [] (dpR 40) [] := ⟨fun p mp => (nomatch mp), Nat.zero_le _, dp_RIs 40, by rw [dp_cnt 40 40 (Nat.le_refl _)]; decide, .inl ⟨rfl, rfl⟩⟩
theorem deep40 : (.tup [.str "enough", .tup [], .tup (dpL a 40)] : D) = papL a "enough" [] (dpR 40) [] := by
  rw [dp_eq 40 40 (Nat.le_refl _)]
  rfl
theorem deep41 : WrongP a (.tup [.str "enough", .tup [], .tup (dpL a 41)]) := by
  have ht : TlOk "enough" [] := .inl ⟨rfl, rfl⟩
  have eq : ∀ y ∈ dpL a 41, okB (okL a) 82 y := fun y my => by
    rw [dp_eq 41 41 (Nat.le_refl _)] at my
    exact okB_xs (n := 41) (dp_RIs 41) y my
  exact wrong_wt (V := .tup []) (I := .tup (dpL a 41)) ht ⟨rfl, fun vs e => by
    injection e with e
    subst e
    exact ⟨Nat.zero_le _, fun y my => (nomatch my)⟩⟩ (by
    rw [dp_eq 41 41 (Nat.le_refl _)]
    exact okT_ln 41 41 _ (dp_RIs 41)) (.inr (dp_none 41)) (up84 (okB_t fun y my => (nomatch my))) (up84 (okB_t eq))
/-! ### papers at a number can be laid -/
theorem lay_vp {m : Int} {p : D} (h : RP p) (n : Nat) : lay (valP m p) n := by
  rcases h with rfl | ⟨i, j, _, _, _, _, rfl⟩
  · exact lay_non n
  · exact lay_int _ n
theorem lay_vl {m : Int} : ∀ (n N : Nat) (x : D), RI n x → n ≤ N → lay (vlF m N x) (2 * n + 1) := by
  intro n
  induction n using Nat.strongRecOn with
  | ind n ih =>
    intro N x h l
    rcases h.cases with ⟨s, ms, rfl⟩ | ⟨n', p, ys, rfl, rfl, hp, hy⟩
    · rw [vlF_str]
      exact lay_str (wds_low ms).1 _
    · obtain ⟨N', rfl⟩ : ∃ N', N = N' + 1 := ⟨N - 1, by omega⟩
      show lay (.tup [.str "times", valP m p, .tup (ys.map (vlF m N'))]) (2 * n' + 2 + 1)
      refine lay_tup (layA_cons (lay_str lowT _) (layA_cons (lay_vp hp _) (layA_cons (lay_tup (layA_of fun d hd => ?_)) layA_nil)))
      obtain ⟨y, my, rfl⟩ := List.mem_map.mp hd
      exact ih n' (by omega) N' y (hy.2 y my) (by omega)
theorem okD_papV {m : Int} {w : Str} {vs xs tl : List D} (q : PapQ w vs xs tl) (h3 : RIs 3 xs) : okD (papV m w vs xs tl) = true := by
  have ht : ∀ d ∈ tl, lay d 8 := by
    rcases q.ht with ⟨_, rfl⟩ | ⟨_, kn, rfl, _, lo⟩
    · exact fun d hd => (nomatch hd)
    · intro d hd
      rw [List.mem_singleton.mp hd]
      refine lay_tup (layA_of fun y my => ?_)
      obtain ⟨s, ms, rfl⟩ := List.mem_map.mp my
      exact lay_str (lo s ms) _
  refine lay_ok (n := 9) (lay_tup (layA_of fun d hd => ?_)) (by decide)
  rcases List.mem_append.mp hd with hd | hd
  · simp only [List.mem_cons, List.not_mem_nil, or_false] at hd
    rcases hd with rfl | rfl | rfl
    · exact lay_str q.ht.low _
    · refine lay_tup (layA_of fun y my => ?_)
      obtain ⟨p, mp, rfl⟩ := List.mem_map.mp my
      exact lay_vp (q.hv p mp) _
    · refine lay_tup (layA_of fun y my => ?_)
      obtain ⟨p, mp, rfl⟩ := List.mem_map.mp my
      exact lay_vl 3 40 p (h3.2 p mp) (by decide)
  · exact ht d hd
theorem lay2 {w : Str} {m : D} (l : low w) (h : lay m 1) : okD (.lst [.str w, m]) = true := lay_ok (n := 2) (lay_lst (layA_cons (lay_str l _) (layA_cons h layA_nil))) (by decide)
theorem lowNu : low "number" := low_ascii (by decide +kernel)
theorem lowPa : low "paper" := low_ascii (by decide +kernel)
/-! ### draws -/
theorem lcD_draw {i : Nat} {e : DE} {Γ : Gm} {R : D → Prop} : ∀ (xs : List D) (k : List D → Prop), (∀ x ∈ xs, ∀ k' : DK, (∀ y, R y → k' (.d y)) → e (Γ.set i (.d x)) k') → (∀ ys : List D, ys.length = xs.length → (∀ y ∈ ys, R y) → k ys) → lcD i dYes e Γ xs k
  | [], k, _, h => h [] rfl fun y my => (nomatch my)
  | x :: r, k, he, h => he x List.mem_cons_self _ fun y hy => lcD_draw r _ (fun z hz => he z (List.mem_cons_of_mem _ hz)) fun ys l hys => h (y :: ys) (by rw [List.length_cons, List.length_cons, l]) fun z mz => by
    rcases List.mem_cons.mp mz with rfl | mz
    · exact hy
    · exact hys z mz
theorem e_takeB {n : Int} {m : DE} {Γ : Gm} {p : Nat} {k : DK} (h0 : 0 < n) (h9 : n.natAbs.log2 < 9000) (hp : Γ[p]? = some .pool) (hm : ∀ k : DK, k (.d (.int n)) → m Γ k) (hk : ∀ r : Int, 0 ≤ r → r < n → k (.d (.int r))) : dCall cTake xw0 (dCons (dVar p) (dCons m dNil)) Γ k := by
  have v : ∀ k2 : DK, k2 .pool → dVar p Γ k2 := fun k2 h => by
    unfold dVar
    rw [hp]
    exact h
  show dVar p Γ fun s => m Γ fun t => [s, t].length = cTake.n ∧ cTake.f [s, t] (fun u => k u) fun A p => xw0 A p Γ
  exact v _ (hm _ ⟨rfl, h0, h9, fun r r0 r1 => hk r r0 r1⟩)
theorem pow30 : (10 : Int) ^ (30 : Int).toNat = top30 := by decide +kernel
theorem ev_30 {Γ : Gm} : Ev (dOp (gI CPow fun i j => .int (i ^ j.toNat)) (dC (.int 10)) (dC (.int 30))) Γ (.int top30) := fun k hk => ⟨⟨by decide, by decide, by decide⟩, by
  show k (.d (.int ((10 : Int) ^ (30 : Int).toNat)))
  rw [pow30]
  exact hk⟩
theorem ev_31 {Γ : Gm} : Ev (dOp gAdd (dOp (gI CPow fun i j => .int (i ^ j.toNat)) (dC (.int 10)) (dC (.int 30))) (dC (.int 1))) Γ (.int (top30 + 1)) := fun k hk => ev_30 _ hk
theorem di_var {i : Nat} {xs : List D} {Γ : Gm} {k : List D → Prop} (h : Γ[i]? = some (.d (.lst xs))) (hk : k xs) : diSeq (dVar i) Γ k := by
  unfold diSeq dVar
  rw [h]
  exact hk
/-! ### the parts of a paper -/
section
variable {vs xs : List D} {Γ : Gm} {m : Int}
theorem ev_lines (hv : ∀ p ∈ vs, RP p) (l : vs.length ≤ 10) (h8 : Γ[8]? = some (.d (.lst vs))) (h14 : 14 < Γ.length) : Ev (dCB gTupOf (dCons (dLc 14 (diSeq (dVar 8)) dYes (dCall (c__law_made_line a) xw0 (dCons (dVar 14) dNil))) dNil)) Γ (.tup (vs.map (lineP a))) := ev_tupOf fun k hk => by
  refine di_var h8 ⟨by omega, ?_⟩
  have z := lcD_mapG (i := 14) (e := dCall (c__law_made_line a) xw0 (dCons (dVar 14) dNil)) (Γ := Γ) (f := id) (g := lineP a) vs (fun ys => k (.d (.lst ys))) (fun p mp k' hk' => ?_) hk
  · rw [List.map_id] at z
    exact z
  · refine e_call1 (x := .d p) (fun k hk => ?_) rfl ⟨hv p mp, hk'⟩
    unfold dVar
    rw [List.getElem?_set_self h14]
    exact hk
theorem ev_vals (mo : mOk m) (hv : ∀ p ∈ vs, RP p) (l : vs.length ≤ 10) (h8 : Γ[8]? = some (.d (.lst vs))) (h6 : Γ[6]? = some (.d (.int m))) (h14 : 14 < Γ.length) : Ev (dCB gTupOf (dCons (dLc 14 (diSeq (dVar 8)) dYes (dCall c__law_at xw0 (dCons (dVar 14) (dCons (dVar 6) dNil)))) dNil)) Γ (.tup (vs.map (valP m))) := ev_tupOf fun k hk => by
  refine di_var h8 ⟨by omega, ?_⟩
  have z := lcD_mapG (i := 14) (e := dCall c__law_at xw0 (dCons (dVar 14) (dCons (dVar 6) dNil))) (Γ := Γ) (f := id) (g := valP m) vs (fun ys => k (.d (.lst ys))) (fun p mp k' hk' => ?_) hk
  · rw [List.map_id] at z
    exact z
  · refine e_call2 (x := .d p) (y := .d (.int m)) (fun k hk => ?_) (fun k hk => ?_) rfl ⟨hv p mp, mo, hk'⟩
    · unfold dVar
      rw [List.getElem?_set_self h14]
      exact hk
    · unfold dVar
      rw [List.getElem?_set_ne (by decide), h6]
      exact hk
theorem ev_built (hx : RIs 40 xs) (h9 : Γ[9]? = some (.d (.lst xs))) : Ev (dCall (c__law_built a 40) xw0 (dCons (dVar 9) (dCons (dC .non) dNil))) Γ (.tup (xs.map (lnF a 40))) := fun k hk => e_call2 (x := .d (.lst xs)) (y := .d .non) (fun k hk => by
  unfold dVar
  rw [h9]
  exact hk) (fun k hk => hk) rfl ⟨hx, hk⟩
theorem ev_builtV (mo : mOk m) (hx : RIs 40 xs) (h9 : Γ[9]? = some (.d (.lst xs))) (h6 : Γ[6]? = some (.d (.int m))) : Ev (dCall (c__law_built a 40) xw0 (dCons (dVar 9) (dCons (dVar 6) dNil))) Γ (.tup (xs.map (vlF m 40))) := fun k hk => e_call2 (x := .d (.lst xs)) (y := .d (.int m)) (fun k hk => by
  unfold dVar
  rw [h9]
  exact hk) (fun k hk => by
  unfold dVar
  rw [h6]
  exact hk) rfl ⟨mo, hx, hk⟩
theorem ev_var {i : Nat} {x : D} (h : Γ[i]? = some (.d x)) : Ev (dVar i) Γ x := fun k hk => by
  unfold dVar
  rw [h]
  exact hk
theorem ev_paper {w : Str} {tl : List D} (q : PapQ w vs xs tl) (h8 : Γ[8]? = some (.d (.lst vs))) (h9 : Γ[9]? = some (.d (.lst xs))) (h10 : Γ[10]? = some (.d (.tup tl))) (h11 : Γ[11]? = some (.d (.str w))) (h14 : 14 < Γ.length) : Ev ((dOp gAdd (dTup (dCons (dVar 11) (dCons (dCB gTupOf (dCons (dLc 14 (diSeq (dVar 8)) dYes (dCall (c__law_made_line a) xw0 (dCons (dVar 14) dNil))) dNil)) (dCons (dCall (c__law_built a 40) xw0 (dCons (dVar 9) (dCons (dC .non) dNil))) dNil)))) (dVar 10))) Γ (papL a w vs xs tl) := ev_addT (ev_tup (evc (ev_var h11) (evc (ev_lines q.hv q.few h8 h14) (evc (ev_built q.hx h9) evn))) (len_ok rfl)) (ev_var h10) (by
  show 3 + tl.length ≤ 100000
  have := q.ht.l1
  omega)
theorem ev_due {w : Str} {tl : List D} (mo : mOk m) (q : PapQ w vs xs tl) (h6 : Γ[6]? = some (.d (.int m))) (h8 : Γ[8]? = some (.d (.lst vs))) (h9 : Γ[9]? = some (.d (.lst xs))) (h10 : Γ[10]? = some (.d (.tup tl))) (h11 : Γ[11]? = some (.d (.str w))) (h14 : 14 < Γ.length) : Ev ((dOp gAdd (dTup (dCons (dVar 11) (dCons (dCB gTupOf (dCons (dLc 14 (diSeq (dVar 8)) dYes (dCall c__law_at xw0 (dCons (dVar 14) (dCons (dVar 6) dNil)))) dNil)) (dCons (dCall (c__law_built a 40) xw0 (dCons (dVar 9) (dCons (dVar 6) dNil))) dNil)))) (dVar 10))) Γ (papV m w vs xs tl) := ev_addT (ev_tup (evc (ev_var h11) (evc (ev_vals mo q.hv q.few h8 h6 h14) (evc (ev_builtV mo q.hx h9 h6) evn))) (len_ok rfl)) (ev_var h10) (by
  show 3 + tl.length ≤ 100000
  have := q.ht.l1
  omega)
end
-- SPLIT
/-! ### the law -/
theorem s_asgP {i : Nat} {e : DE} {B : DS} {E : DEnds} {Γ : Gm} {R : D → Prop} (h : ∀ k : DK, (∀ x, R x → k (.d x)) → e Γ k) (h' : ∀ x, R x → B E (Γ.set i (.d x))) : dSeq (dAsg i e) B E Γ := h _ h'
theorem s_parP {i j : Nat} {e f : DE} {B : DS} {E : DEnds} {Γ : Gm} {R S : D → Prop} (he : ∀ k : DK, (∀ x, R x → k (.d x)) → e Γ k) (hf : ∀ k : DK, (∀ x, S x → k (.d x)) → f Γ k) (h : ∀ x y, R x → S y → B E ((Γ.set i (.d x)).set j (.d y))) : dSeq (dPar i j (dCons e (dCons f dNil))) B E Γ := he _ fun x hx => hf _ fun y hy => h x y hx hy
theorem e_lcR {i : Nat} {e f : DE} {Γ : Gm} {R : D → Prop} {lo hi : Int} {k : DK} (he : ∀ k : DK, (∀ r : Int, lo ≤ r → r ≤ hi → k (.d (.int r))) → e Γ k) (l0 : 0 ≤ lo) (l1 : hi ≤ 1000) (hf : ∀ x, ∀ k : DK, (∀ y, R y → k (.d y)) → f (Γ.set i (.d x)) k) (h : ∀ ys : List D, (ys.length : Int) ≤ hi → (∀ y ∈ ys, R y) → k (.d (.lst ys))) : dLc i (diRange1 (dCons e dNil)) dYes f Γ k := he _ fun r r0 r1 => ⟨⟨by omega, by omega⟩, by rw [intsFrom_length]; omega, lcD_draw (R := R) _ _ (fun x _ => hf x) fun ys l hy => h ys (by rw [l, intsFrom_length]; omega) hy⟩
theorem s_forP {e : DE} {g : DG} {b B : DS} {E : DEnds} {Γ : Gm} {α : Type} {S : α → Prop} {F : α → List D} (he : EvF e Γ S (fun z => .lst (F z))) (h : ∀ z, S z → forD g b { E with nx := B E } (F z) Γ) : dSeq (dFor (diSeq e) g b) B E Γ := he _ fun z hz => h z hz
theorem evf_lst4 {e0 e1 e2 e3 : DE} {Γ : Gm} {α : Type} {S : α → Prop} {F : α → D} {x0 x1 x3 : D} (h0 : Ev e0 Γ x0) (h1 : Ev e1 Γ x1) (h2 : EvF e2 Γ S F) (h3 : Ev e3 Γ x3) : EvF (dLst (dCons e0 (dCons e1 (dCons e2 (dCons e3 dNil))))) Γ S (fun z => .lst [x0, x1, F z, x3]) := fun k hk => h0 _ (h1 _ (h2 _ fun z hz => h3 _ ⟨len_ok rfl, hk z hz⟩))
theorem ev_one {e : DE} {Γ : Gm} {xs : List D} (h : Ev e Γ (.lst xs)) : EvF e Γ (fun _ : Unit => True) (fun _ => .lst xs) := fun k hk => h k (hk () trivial)
theorem e_knot {e f : DE} {Γ : Gm} {xs : List D} {lo hi : Int} {k : DK} (he : Ev e Γ (.lst xs)) (hf : ∀ k : DK, (∀ r : Int, lo ≤ r → r ≤ hi → k (.d (.int r))) → f Γ k) (hk : ∀ r : Int, lo ≤ r → r ≤ hi → k (.d (.tup (cutD xs none (some r))))) : dCB gTupOf (dCons (dCut e doNone (doSome f)) dNil) Γ k := he _ (hf _ hk)
theorem take_low : ∀ z ∈ ([("ann" : Str), "bob"] : List Str), low z := by
  have : ∀ z ∈ ([("ann" : Str), "bob"] : List Str), (z.cps.toList.all fun c => decide (c < 128)) = true := by decide +kernel
  exact fun z m => low_ascii (this z m)
theorem deq_tnil (p : D) (r : List D) : deq (.tup (p :: r)) (.tup []) = false := by simp [deq, toPy, toPys, PyData.eqv, PyData.eqvAll]
theorem lay_tl {w : Str} {tl : List D} (t : TlOk w tl) : lay (.tup tl) 3 := lay_tup (layA_of fun d hd => by
  rcases t with ⟨_, rfl⟩ | ⟨_, kn, rfl, _, lo⟩
  · exact (nomatch hd)
  · rw [List.mem_singleton.mp hd]
    refine lay_tup (layA_of fun y my => ?_)
    obtain ⟨s, ms, rfl⟩ := List.mem_map.mp my
    exact lay_str (lo s ms) _)
section
variable {w : Str} {vs xs tl : List D} {E : DEnds} {s0 s2 s4 : Sl}
theorem law_same (q : PapQ w vs xs tl) (h3 : RIs 3 xs) {s6 s7 s12 s13 s14 : Sl} (h : E.nx [s0, .d (.obj a.C_Net (netF a)), s2, .pool, s4, .d (papL a w vs xs tl), s6, s7, .d (.lst vs), .d (.lst xs), .d (.tup tl), .d (.str w), s12, s13, s14]) :
    ((dIfS (dB (dOp (gSamB (okL a) 84 false fun _ _ _ => False) (dVar 5) (dOp gAdd (dTup (dCons (dVar 11) (dCons (dCB gTupOf (dCons (dLc 14 (diSeq (dVar 8)) dYes (dCall (c__law_made_line a) xw0 (dCons (dVar 14) dNil))) dNil)) (dCons (dCall (c__law_built a 40) xw0 (dCons (dVar 9) (dCons (dC .non) dNil))) dNil)))) (dVar 10)))) (dRet (dC (.bl false))) dNext) : DS) E [s0, .d (.obj a.C_Net (netF a)), s2, .pool, s4, .d (papL a w vs xs tl), s6, s7, .d (.lst vs), .d (.lst xs), .d (.tup tl), .d (.str w), s12, s13, s14] := by
  refine s_ifZ (b := false) (fun k hk => t_b (b := false) (fun k hk => ?_) hk) (fun z => by cases z) (fun _ => h)
  refine ev_var (x := papL a w vs xs tl) rfl _ (ev_paper q rfl rfl rfl rfl (by exact (show 14 < 15 by decide)) _ (.inl ⟨_, rfl, rfl, q.sam, hk⟩))
theorem law_at1 (q : PapQ w vs xs tl) (h3 : RIs 3 xs) {m : Int} (mo : mOk m) {s7 s12 s13 s14 : Sl} (h : ∀ s12, E.nx [s0, .d (.obj a.C_Net (netF a)), s2, .pool, s4, .d (papL a w vs xs tl), .d (.int m), s7, .d (.lst vs), .d (.lst xs), .d (.tup tl), .d (.str w), s12, s13, s14]) :
    ((dSeq (dAsg 12 (dOp gAdd (dTup (dCons (dVar 11) (dCons (dCB gTupOf (dCons (dLc 14 (diSeq (dVar 8)) dYes (dCall c__law_at xw0 (dCons (dVar 14) (dCons (dVar 6) dNil)))) dNil)) (dCons (dCall (c__law_built a 40) xw0 (dCons (dVar 9) (dCons (dVar 6) dNil))) dNil)))) (dVar 10))) (dIfS (dOr (dB (dOp gNe (dCall (c__law_told a) xw0 (dCons (dVar 5) (dCons (dVar 6) dNil))) (dVar 12))) (dB (dOp gNe (dCall (c__law_told a) xw0 (dCons (dVar 5) (dCons (dVar 6) dNil))) (dVar 12)))) (dRet (dC (.bl false))) dNext)) : DS) E [s0, .d (.obj a.C_Net (netF a)), s2, .pool, s4, .d (papL a w vs xs tl), .d (.int m), s7, .d (.lst vs), .d (.lst xs), .d (.tup tl), .d (.str w), s12, s13, s14] := by
  refine s_asg (x := .d (papV m w vs xs tl)) (ev_due mo q rfl rfl rfl rfl rfl (by exact (show 14 < 15 by decide))) ?_
  have o := okD_papV (m := m) q h3
  refine s_ifZ (b := false) (fun k hk => t_or (b := false) (c := false) (fun k hk => t_b (b := false) (fun k hk => ev_ne o (ev_told q mo (ev_var rfl) (ev_var rfl)) (ev_var rfl) k hk) hk) (fun _ k hk => t_b (b := false) (fun k hk => ev_ne o (ev_told q mo (ev_var rfl) (ev_var rfl)) (ev_var rfl) k hk) hk) hk) (fun z => by cases z) (fun _ => h _)
theorem law_at2 (q : PapQ w vs xs tl) {m : D} (o : isObj m = false) (b : btw 0 top30 m = false) (lm : lay m 1) {s7 s12 s13 s14 : Sl} (h : E.nx [s0, .d (.obj a.C_Net (netF a)), s2, .pool, s4, .d (papL a w vs xs tl), .d m, s7, .d (.lst vs), .d (.lst xs), .d (.tup tl), .d (.str w), s12, s13, s14]) :
    ((dIfS (dB (dOp gNe (dCall (c__law_told a) xw0 (dCons (dVar 5) (dCons (dVar 6) dNil))) (dLst (dCons (dC (.str "number")) (dCons (dVar 6) dNil))))) (dRet (dC (.bl false))) dNext) : DS) E [s0, .d (.obj a.C_Net (netF a)), s2, .pool, s4, .d (papL a w vs xs tl), .d m, s7, .d (.lst vs), .d (.lst xs), .d (.tup tl), .d (.str w), s12, s13, s14] :=
  s_ifZ (b := false) (fun k hk => t_b (b := false) (fun k hk => ev_ne (lay2 lowNu lm) (ev_toldN q o b (ev_var rfl) (ev_var rfl)) (ev_lst (evc ev_c (evc (ev_var rfl) evn)) (len_ok rfl)) k hk) hk) (fun z => by cases z) (fun _ => h)
theorem law_at3 {x : D} (q : WrongP a x) {s5 s6 s8 s9 s10 s11 s12 s13 s14 : Sl} (h : E.nx [s0, .d (.obj a.C_Net (netF a)), s2, .pool, s4, s5, s6, .d x, s8, s9, s10, s11, s12, s13, s14]) :
    ((dIfS (dOr (dB (dOp gNe (dCall (c__law_told a) xw0 (dCons (dVar 7) (dCons (dC (.int 1)) dNil))) (dLst (dCons (dC (.str "paper")) (dCons (dC (.bl true)) dNil))))) (dB (dOp gNotB (dCall (c_is_lined a) xw0 (dCons (dVar 1) (dCons (dC (.int 0)) (dCons (dC (.int 1)) (dCons (dVar 7) dNil))))) (dC (.bl false))))) (dRet (dC (.bl false))) dNext) : DS) E [s0, .d (.obj a.C_Net (netF a)), s2, .pool, s4, s5, s6, .d x, s8, s9, s10, s11, s12, s13, s14] :=
  s_ifZ (b := false) (fun k hk => t_or (b := false) (c := false) (fun k hk => t_b (b := false) (fun k hk => ev_ne (lay2 lowPa (lay_bl true 1)) (ev_toldW q rfl (ev_var rfl) ev_c) (ev_lst (evc ev_c (evc ev_c evn)) (len_ok rfl)) k hk) hk) (fun _ k hk => t_b (b := false) (fun k hk => ⟨rfl, rfl, rfl, rfl, q.ask, q.no, hk⟩) hk) hk) (fun z => by cases z) (fun _ => h)
theorem law_uses (q : PapQ w vs xs tl) (h3 : RIs 3 xs) {s5 s6 s7 s12 s13 s14 : Sl} (h : ∀ s5 s6 s7 s12, E.nx [s0, .d (.obj a.C_Net (netF a)), s2, .pool, s4, s5, s6, s7, .d (.lst vs), .d (.lst xs), .d (.tup tl), .d (.str w), s12, s13, s14]) :
    ((dSeq (dAsg 5 (dOp gAdd (dTup (dCons (dVar 11) (dCons (dCB gTupOf (dCons (dLc 14 (diSeq (dVar 8)) dYes (dCall (c__law_made_line a) xw0 (dCons (dVar 14) dNil))) dNil)) (dCons (dCall (c__law_built a 40) xw0 (dCons (dVar 9) (dCons (dC .non) dNil))) dNil)))) (dVar 10))) (dSeq (dFor (diSeq (dLst (dCons (dC (.int 0)) (dCons (dC (.int 1)) (dCons (dCall cTake xw0 (dCons (dVar 3) (dCons (dOp gAdd (dOp (gI CPow fun i j => .int (i ^ j.toNat)) (dC (.int 10)) (dC (.int 30))) (dC (.int 1))) dNil))) (dCons (dOp (gI CPow fun i j => .int (i ^ j.toNat)) (dC (.int 10)) (dC (.int 30))) dNil)))))) (dgName 6) (dSeq (dAsg 12 (dOp gAdd (dTup (dCons (dVar 11) (dCons (dCB gTupOf (dCons (dLc 14 (diSeq (dVar 8)) dYes (dCall c__law_at xw0 (dCons (dVar 14) (dCons (dVar 6) dNil)))) dNil)) (dCons (dCall (c__law_built a 40) xw0 (dCons (dVar 9) (dCons (dVar 6) dNil))) dNil)))) (dVar 10))) (dIfS (dOr (dB (dOp gNe (dCall (c__law_told a) xw0 (dCons (dVar 5) (dCons (dVar 6) dNil))) (dVar 12))) (dB (dOp gNe (dCall (c__law_told a) xw0 (dCons (dVar 5) (dCons (dVar 6) dNil))) (dVar 12)))) (dRet (dC (.bl false))) dNext))) (dSeq (dFor (diSeq (dLst (dCons (dUnI (fun i => -i) (dC (.int 1))) (dCons (dOp gAdd (dOp (gI CPow fun i j => .int (i ^ j.toNat)) (dC (.int 10)) (dC (.int 30))) (dC (.int 1))) (dCons (dC .non) (dCons (dC (.bl true)) (dCons (dC (.str "1")) dNil))))))) (dgName 6) (dIfS (dB (dOp gNe (dCall (c__law_told a) xw0 (dCons (dVar 5) (dCons (dVar 6) dNil))) (dLst (dCons (dC (.str "number")) (dCons (dVar 6) dNil))))) (dRet (dC (.bl false))) dNext)) (dSeq (dFor (diSeq (dCall (c__law_wrong a) xw0 (dCons (dVar 3) (dCons (dVar 5) dNil)))) (dgName 7) (dIfS (dOr (dB (dOp gNe (dCall (c__law_told a) xw0 (dCons (dVar 7) (dCons (dC (.int 1)) dNil))) (dLst (dCons (dC (.str "paper")) (dCons (dC (.bl true)) dNil))))) (dB (dOp gNotB (dCall (c_is_lined a) xw0 (dCons (dVar 1) (dCons (dC (.int 0)) (dCons (dC (.int 1)) (dCons (dVar 7) dNil))))) (dC (.bl false))))) (dRet (dC (.bl false))) dNext)) (dIfS (dB (dOp (gSamB (okL a) 84 false fun _ _ _ => False) (dVar 5) (dOp gAdd (dTup (dCons (dVar 11) (dCons (dCB gTupOf (dCons (dLc 14 (diSeq (dVar 8)) dYes (dCall (c__law_made_line a) xw0 (dCons (dVar 14) dNil))) dNil)) (dCons (dCall (c__law_built a 40) xw0 (dCons (dVar 9) (dCons (dC .non) dNil))) dNil)))) (dVar 10)))) (dRet (dC (.bl false))) dNext))))) : DS) E [s0, .d (.obj a.C_Net (netF a)), s2, .pool, s4, s5, s6, s7, .d (.lst vs), .d (.lst xs), .d (.tup tl), .d (.str w), s12, s13, s14] := by
  refine s_asg (x := .d (papL a w vs xs tl)) (ev_paper q rfl rfl rfl rfl (by exact (show 14 < 15 by decide))) ?_
  refine (show ((dSeq (dFor (diSeq (dLst (dCons (dC (.int 0)) (dCons (dC (.int 1)) (dCons (dCall cTake xw0 (dCons (dVar 3) (dCons (dOp gAdd (dOp (gI CPow fun i j => .int (i ^ j.toNat)) (dC (.int 10)) (dC (.int 30))) (dC (.int 1))) dNil))) (dCons (dOp (gI CPow fun i j => .int (i ^ j.toNat)) (dC (.int 10)) (dC (.int 30))) dNil)))))) (dgName 6) (dSeq (dAsg 12 (dOp gAdd (dTup (dCons (dVar 11) (dCons (dCB gTupOf (dCons (dLc 14 (diSeq (dVar 8)) dYes (dCall c__law_at xw0 (dCons (dVar 14) (dCons (dVar 6) dNil)))) dNil)) (dCons (dCall (c__law_built a 40) xw0 (dCons (dVar 9) (dCons (dVar 6) dNil))) dNil)))) (dVar 10))) (dIfS (dOr (dB (dOp gNe (dCall (c__law_told a) xw0 (dCons (dVar 5) (dCons (dVar 6) dNil))) (dVar 12))) (dB (dOp gNe (dCall (c__law_told a) xw0 (dCons (dVar 5) (dCons (dVar 6) dNil))) (dVar 12)))) (dRet (dC (.bl false))) dNext))) (dSeq (dFor (diSeq (dLst (dCons (dUnI (fun i => -i) (dC (.int 1))) (dCons (dOp gAdd (dOp (gI CPow fun i j => .int (i ^ j.toNat)) (dC (.int 10)) (dC (.int 30))) (dC (.int 1))) (dCons (dC .non) (dCons (dC (.bl true)) (dCons (dC (.str "1")) dNil))))))) (dgName 6) (dIfS (dB (dOp gNe (dCall (c__law_told a) xw0 (dCons (dVar 5) (dCons (dVar 6) dNil))) (dLst (dCons (dC (.str "number")) (dCons (dVar 6) dNil))))) (dRet (dC (.bl false))) dNext)) (dSeq (dFor (diSeq (dCall (c__law_wrong a) xw0 (dCons (dVar 3) (dCons (dVar 5) dNil)))) (dgName 7) (dIfS (dOr (dB (dOp gNe (dCall (c__law_told a) xw0 (dCons (dVar 7) (dCons (dC (.int 1)) dNil))) (dLst (dCons (dC (.str "paper")) (dCons (dC (.bl true)) dNil))))) (dB (dOp gNotB (dCall (c_is_lined a) xw0 (dCons (dVar 1) (dCons (dC (.int 0)) (dCons (dC (.int 1)) (dCons (dVar 7) dNil))))) (dC (.bl false))))) (dRet (dC (.bl false))) dNext)) (dIfS (dB (dOp (gSamB (okL a) 84 false fun _ _ _ => False) (dVar 5) (dOp gAdd (dTup (dCons (dVar 11) (dCons (dCB gTupOf (dCons (dLc 14 (diSeq (dVar 8)) dYes (dCall (c__law_made_line a) xw0 (dCons (dVar 14) dNil))) dNil)) (dCons (dCall (c__law_built a 40) xw0 (dCons (dVar 9) (dCons (dC .non) dNil))) dNil)))) (dVar 10)))) (dRet (dC (.bl false))) dNext)))) : DS) E [s0, .d (.obj a.C_Net (netF a)), s2, .pool, s4, .d (papL a w vs xs tl), s6, s7, .d (.lst vs), .d (.lst xs), .d (.tup tl), .d (.str w), s12, s13, s14] from ?_)
  have f1 : (0 : Int) < top30 + 1 := by decide +kernel
  have f2 : (top30 + 1).natAbs.log2 < 9000 := by
    have : (top30 + 1).natAbs < 2 ^ 1900 := by decide +kernel
    exact Nat.lt_trans (log_lt this) (by decide)
  refine s_forP (evf_lst4 (α := Int) (S := fun r => 0 ≤ r ∧ r < top30 + 1) (F := D.int) ev_c ev_c (fun k hk => e_takeB f1 f2 rfl ev_31 (fun r r0 r1 => hk r ⟨r0, r1⟩)) ev_30) (fun r hr => ?_)
  obtain ⟨r0, r1⟩ := hr
  refine forD_inv (fun Γ => ∃ s6 s12, Γ = [s0, .d (.obj a.C_Net (netF a)), s2, .pool, s4, .d (papL a w vs xs tl), s6, s7, .d (.lst vs), .d (.lst xs), .d (.tup tl), .d (.str w), s12, s13, s14]) ?_ _ ?_ _ ⟨_, _, rfl⟩
  · rintro Γ ⟨s6, s12, rfl⟩
    refine (show ((dSeq (dFor (diSeq (dLst (dCons (dUnI (fun i => -i) (dC (.int 1))) (dCons (dOp gAdd (dOp (gI CPow fun i j => .int (i ^ j.toNat)) (dC (.int 10)) (dC (.int 30))) (dC (.int 1))) (dCons (dC .non) (dCons (dC (.bl true)) (dCons (dC (.str "1")) dNil))))))) (dgName 6) (dIfS (dB (dOp gNe (dCall (c__law_told a) xw0 (dCons (dVar 5) (dCons (dVar 6) dNil))) (dLst (dCons (dC (.str "number")) (dCons (dVar 6) dNil))))) (dRet (dC (.bl false))) dNext)) (dSeq (dFor (diSeq (dCall (c__law_wrong a) xw0 (dCons (dVar 3) (dCons (dVar 5) dNil)))) (dgName 7) (dIfS (dOr (dB (dOp gNe (dCall (c__law_told a) xw0 (dCons (dVar 7) (dCons (dC (.int 1)) dNil))) (dLst (dCons (dC (.str "paper")) (dCons (dC (.bl true)) dNil))))) (dB (dOp gNotB (dCall (c_is_lined a) xw0 (dCons (dVar 1) (dCons (dC (.int 0)) (dCons (dC (.int 1)) (dCons (dVar 7) dNil))))) (dC (.bl false))))) (dRet (dC (.bl false))) dNext)) (dIfS (dB (dOp (gSamB (okL a) 84 false fun _ _ _ => False) (dVar 5) (dOp gAdd (dTup (dCons (dVar 11) (dCons (dCB gTupOf (dCons (dLc 14 (diSeq (dVar 8)) dYes (dCall (c__law_made_line a) xw0 (dCons (dVar 14) dNil))) dNil)) (dCons (dCall (c__law_built a 40) xw0 (dCons (dVar 9) (dCons (dC .non) dNil))) dNil)))) (dVar 10)))) (dRet (dC (.bl false))) dNext))) : DS) E [s0, .d (.obj a.C_Net (netF a)), s2, .pool, s4, .d (papL a w vs xs tl), s6, s7, .d (.lst vs), .d (.lst xs), .d (.tup tl), .d (.str w), s12, s13, s14] from ?_)
    refine s_forP (ev_one (ev_lst (xs := [.int (-1), .int (top30 + 1), .non, .bl true, .str "1"]) (evc (fun k hk => hk) (evc ev_31 (evc ev_c (evc ev_c (evc ev_c evn))))) (len_ok rfl))) (fun _ _ => ?_)
    refine forD_inv (fun Γ => ∃ s6, Γ = [s0, .d (.obj a.C_Net (netF a)), s2, .pool, s4, .d (papL a w vs xs tl), s6, s7, .d (.lst vs), .d (.lst xs), .d (.tup tl), .d (.str w), s12, s13, s14]) ?_ _ ?_ _ ⟨_, rfl⟩
    · rintro Γ ⟨s6, rfl⟩
      refine (show ((dSeq (dFor (diSeq (dCall (c__law_wrong a) xw0 (dCons (dVar 3) (dCons (dVar 5) dNil)))) (dgName 7) (dIfS (dOr (dB (dOp gNe (dCall (c__law_told a) xw0 (dCons (dVar 7) (dCons (dC (.int 1)) dNil))) (dLst (dCons (dC (.str "paper")) (dCons (dC (.bl true)) dNil))))) (dB (dOp gNotB (dCall (c_is_lined a) xw0 (dCons (dVar 1) (dCons (dC (.int 0)) (dCons (dC (.int 1)) (dCons (dVar 7) dNil))))) (dC (.bl false))))) (dRet (dC (.bl false))) dNext)) (dIfS (dB (dOp (gSamB (okL a) 84 false fun _ _ _ => False) (dVar 5) (dOp gAdd (dTup (dCons (dVar 11) (dCons (dCB gTupOf (dCons (dLc 14 (diSeq (dVar 8)) dYes (dCall (c__law_made_line a) xw0 (dCons (dVar 14) dNil))) dNil)) (dCons (dCall (c__law_built a 40) xw0 (dCons (dVar 9) (dCons (dC .non) dNil))) dNil)))) (dVar 10)))) (dRet (dC (.bl false))) dNext)) : DS) E [s0, .d (.obj a.C_Net (netF a)), s2, .pool, s4, .d (papL a w vs xs tl), s6, s7, .d (.lst vs), .d (.lst xs), .d (.tup tl), .d (.str w), s12, s13, s14] from ?_)
      refine ⟨rfl, w, vs, xs, tl, rfl, q, fun ys ly wr => ?_⟩
      refine forD_inv (fun Γ => ∃ s7, Γ = [s0, .d (.obj a.C_Net (netF a)), s2, .pool, s4, .d (papL a w vs xs tl), s6, s7, .d (.lst vs), .d (.lst xs), .d (.tup tl), .d (.str w), s12, s13, s14]) ?_ _ ?_ _ ⟨_, rfl⟩
      · rintro Γ ⟨s7, rfl⟩
        exact law_same q h3 (h _ _ _ _)
      · rintro x hx Γ ⟨s7, rfl⟩ N hN
        exact law_at3 (E := { E with nx := N, ct := N, bk := (dIfS (dB (dOp (gSamB (okL a) 84 false fun _ _ _ => False) (dVar 5) (dOp gAdd (dTup (dCons (dVar 11) (dCons (dCB gTupOf (dCons (dLc 14 (diSeq (dVar 8)) dYes (dCall (c__law_made_line a) xw0 (dCons (dVar 14) dNil))) dNil)) (dCons (dCall (c__law_built a 40) xw0 (dCons (dVar 9) (dCons (dC .non) dNil))) dNil)))) (dVar 10)))) (dRet (dC (.bl false))) dNext) E }) (wr x hx) (hN _ ⟨_, rfl⟩)
    · rintro x hx Γ ⟨s6, rfl⟩ N hN
      have fx : isObj x = false ∧ btw 0 top30 x = false ∧ lay x 1 := by
        simp only [List.mem_cons, List.not_mem_nil, or_false] at hx
        rcases hx with rfl | rfl | rfl | rfl | rfl
        · exact ⟨rfl, by decide +kernel, lay_int _ _⟩
        · exact ⟨rfl, by decide +kernel, lay_int _ _⟩
        · exact ⟨rfl, rfl, lay_non _⟩
        · exact ⟨rfl, rfl, lay_bl _ _⟩
        · exact ⟨rfl, rfl, lay_str (low_ascii (by decide +kernel)) _⟩
      exact law_at2 (E := { E with nx := N, ct := N, bk := (dSeq (dFor (diSeq (dCall (c__law_wrong a) xw0 (dCons (dVar 3) (dCons (dVar 5) dNil)))) (dgName 7) (dIfS (dOr (dB (dOp gNe (dCall (c__law_told a) xw0 (dCons (dVar 7) (dCons (dC (.int 1)) dNil))) (dLst (dCons (dC (.str "paper")) (dCons (dC (.bl true)) dNil))))) (dB (dOp gNotB (dCall (c_is_lined a) xw0 (dCons (dVar 1) (dCons (dC (.int 0)) (dCons (dC (.int 1)) (dCons (dVar 7) dNil))))) (dC (.bl false))))) (dRet (dC (.bl false))) dNext)) (dIfS (dB (dOp (gSamB (okL a) 84 false fun _ _ _ => False) (dVar 5) (dOp gAdd (dTup (dCons (dVar 11) (dCons (dCB gTupOf (dCons (dLc 14 (diSeq (dVar 8)) dYes (dCall (c__law_made_line a) xw0 (dCons (dVar 14) dNil))) dNil)) (dCons (dCall (c__law_built a 40) xw0 (dCons (dVar 9) (dCons (dC .non) dNil))) dNil)))) (dVar 10)))) (dRet (dC (.bl false))) dNext)) E }) q fx.1 fx.2.1 fx.2.2 (hN _ ⟨_, rfl⟩)
  · rintro x hx Γ ⟨s6, s12, rfl⟩ N hN
    have fx : ∃ m, x = .int m ∧ mOk m := by
      have t0 : (0 : Int) ≤ top30 := by decide +kernel
      have t1 : (1 : Int) ≤ top30 := by decide +kernel
      simp only [List.mem_cons, List.not_mem_nil, or_false] at hx
      rcases hx with rfl | rfl | rfl | rfl
      · exact ⟨_, rfl, Int.le_refl _, t0⟩
      · exact ⟨_, rfl, by decide, t1⟩
      · exact ⟨_, rfl, r0, by omega⟩
      · exact ⟨_, rfl, t0, Int.le_refl _⟩
    obtain ⟨m, rfl, mo⟩ := fx
    exact law_at1 (E := { E with nx := N, ct := N, bk := (dSeq (dFor (diSeq (dLst (dCons (dUnI (fun i => -i) (dC (.int 1))) (dCons (dOp gAdd (dOp (gI CPow fun i j => .int (i ^ j.toNat)) (dC (.int 10)) (dC (.int 30))) (dC (.int 1))) (dCons (dC .non) (dCons (dC (.bl true)) (dCons (dC (.str "1")) dNil))))))) (dgName 6) (dIfS (dB (dOp gNe (dCall (c__law_told a) xw0 (dCons (dVar 5) (dCons (dVar 6) dNil))) (dLst (dCons (dC (.str "number")) (dCons (dVar 6) dNil))))) (dRet (dC (.bl false))) dNext)) (dSeq (dFor (diSeq (dCall (c__law_wrong a) xw0 (dCons (dVar 3) (dCons (dVar 5) dNil)))) (dgName 7) (dIfS (dOr (dB (dOp gNe (dCall (c__law_told a) xw0 (dCons (dVar 7) (dCons (dC (.int 1)) dNil))) (dLst (dCons (dC (.str "paper")) (dCons (dC (.bl true)) dNil))))) (dB (dOp gNotB (dCall (c_is_lined a) xw0 (dCons (dVar 1) (dCons (dC (.int 0)) (dCons (dC (.int 1)) (dCons (dVar 7) dNil))))) (dC (.bl false))))) (dRet (dC (.bl false))) dNext)) (dIfS (dB (dOp (gSamB (okL a) 84 false fun _ _ _ => False) (dVar 5) (dOp gAdd (dTup (dCons (dVar 11) (dCons (dCB gTupOf (dCons (dLc 14 (diSeq (dVar 8)) dYes (dCall (c__law_made_line a) xw0 (dCons (dVar 14) dNil))) dNil)) (dCons (dCall (c__law_built a 40) xw0 (dCons (dVar 9) (dCons (dC .non) dNil))) dNil)))) (dVar 10)))) (dRet (dC (.bl false))) dNext))) E }) q h3 mo (fun s12 => hN _ ⟨_, _, rfl⟩)
end
theorem law_turn {E : DEnds} {s0 s2 s4 s5 s6 s7 s8 s9 s10 s11 s12 s13 s14 : Sl} (h : ∀ s4 s5 s6 s7 s8 s9 s10 s11 s12, E.nx [s0, .d (.obj a.C_Net (netF a)), s2, .pool, s4, s5, s6, s7, s8, s9, s10, s11, s12, s13, s14]) :
    ((dSeq (dPar 8 9 (dCons (dLc 13 (diRange1 (dCons (dCall cTake xw0 (dCons (dVar 3) (dCons (dC (.int 5)) dNil))) dNil)) dYes (dCall c__law_line xw0 (dCons (dVar 3) dNil))) (dCons (dCall (c__law_items 3) xw0 (dCons (dVar 3) (dCons (dC (.int 3)) dNil))) dNil))) (dSeq (dAsg 4 (dCB gTupOf (dCons (dCut (dLst (dCons (dC (.str "ann")) (dCons (dC (.str "bob")) dNil))) doNone (doSome (dCall cTake xw0 (dCons (dVar 3) (dCons (dC (.int 3)) dNil))))) dNil))) (dSeq (dPar 10 11 (dCons (dOp gIx (dLst (dCons (dTup dNil) (dCons (dTup (dCons (dVar 4) dNil)) dNil))) (dCall cTake xw0 (dCons (dVar 3) (dCons (dC (.int 2)) dNil)))) (dCons (dC (.str "enough")) dNil))) (dSeq (dIfS (dB (dOp gNe (dVar 10) (dTup dNil))) (dAsg 11 (dC (.str "stuck"))) dNext) (dSeq (dAsg 5 (dOp gAdd (dTup (dCons (dVar 11) (dCons (dCB gTupOf (dCons (dLc 14 (diSeq (dVar 8)) dYes (dCall (c__law_made_line a) xw0 (dCons (dVar 14) dNil))) dNil)) (dCons (dCall (c__law_built a 40) xw0 (dCons (dVar 9) (dCons (dC .non) dNil))) dNil)))) (dVar 10))) (dSeq (dFor (diSeq (dLst (dCons (dC (.int 0)) (dCons (dC (.int 1)) (dCons (dCall cTake xw0 (dCons (dVar 3) (dCons (dOp gAdd (dOp (gI CPow fun i j => .int (i ^ j.toNat)) (dC (.int 10)) (dC (.int 30))) (dC (.int 1))) dNil))) (dCons (dOp (gI CPow fun i j => .int (i ^ j.toNat)) (dC (.int 10)) (dC (.int 30))) dNil)))))) (dgName 6) (dSeq (dAsg 12 (dOp gAdd (dTup (dCons (dVar 11) (dCons (dCB gTupOf (dCons (dLc 14 (diSeq (dVar 8)) dYes (dCall c__law_at xw0 (dCons (dVar 14) (dCons (dVar 6) dNil)))) dNil)) (dCons (dCall (c__law_built a 40) xw0 (dCons (dVar 9) (dCons (dVar 6) dNil))) dNil)))) (dVar 10))) (dIfS (dOr (dB (dOp gNe (dCall (c__law_told a) xw0 (dCons (dVar 5) (dCons (dVar 6) dNil))) (dVar 12))) (dB (dOp gNe (dCall (c__law_told a) xw0 (dCons (dVar 5) (dCons (dVar 6) dNil))) (dVar 12)))) (dRet (dC (.bl false))) dNext))) (dSeq (dFor (diSeq (dLst (dCons (dUnI (fun i => -i) (dC (.int 1))) (dCons (dOp gAdd (dOp (gI CPow fun i j => .int (i ^ j.toNat)) (dC (.int 10)) (dC (.int 30))) (dC (.int 1))) (dCons (dC .non) (dCons (dC (.bl true)) (dCons (dC (.str "1")) dNil))))))) (dgName 6) (dIfS (dB (dOp gNe (dCall (c__law_told a) xw0 (dCons (dVar 5) (dCons (dVar 6) dNil))) (dLst (dCons (dC (.str "number")) (dCons (dVar 6) dNil))))) (dRet (dC (.bl false))) dNext)) (dSeq (dFor (diSeq (dCall (c__law_wrong a) xw0 (dCons (dVar 3) (dCons (dVar 5) dNil)))) (dgName 7) (dIfS (dOr (dB (dOp gNe (dCall (c__law_told a) xw0 (dCons (dVar 7) (dCons (dC (.int 1)) dNil))) (dLst (dCons (dC (.str "paper")) (dCons (dC (.bl true)) dNil))))) (dB (dOp gNotB (dCall (c_is_lined a) xw0 (dCons (dVar 1) (dCons (dC (.int 0)) (dCons (dC (.int 1)) (dCons (dVar 7) dNil))))) (dC (.bl false))))) (dRet (dC (.bl false))) dNext)) (dIfS (dB (dOp (gSamB (okL a) 84 false fun _ _ _ => False) (dVar 5) (dOp gAdd (dTup (dCons (dVar 11) (dCons (dCB gTupOf (dCons (dLc 14 (diSeq (dVar 8)) dYes (dCall (c__law_made_line a) xw0 (dCons (dVar 14) dNil))) dNil)) (dCons (dCall (c__law_built a 40) xw0 (dCons (dVar 9) (dCons (dC .non) dNil))) dNil)))) (dVar 10)))) (dRet (dC (.bl false))) dNext))))))))) : DS) E [s0, .d (.obj a.C_Net (netF a)), s2, .pool, s4, s5, s6, s7, s8, s9, s10, s11, s12, s13, s14] := by
  refine s_parP (R := fun x => ∃ vs, x = .lst vs ∧ vs.length ≤ 10 ∧ ∀ p ∈ vs, RP p) (S := fun x => ∃ xs, x = .lst xs ∧ RIs 3 xs) (fun k hk => e_lcR (R := RP) (lo := 0) (hi := 4) (fun k hk => e_take (n := 5) (by decide) (by decide) rfl (fun k hk => hk) (fun r r0 r5 => hk r r0 (by omega))) (by decide) (by decide) (fun x k' hk' => ⟨rfl, hk'⟩) (fun ys l hy => hk _ ⟨ys, rfl, by omega, hy⟩)) (fun k hk => ⟨rfl, rfl, fun xs h3 => hk _ ⟨xs, rfl, h3⟩⟩) ?_
  rintro _ _ ⟨vs, rfl, lv, hv⟩ ⟨xs, rfl, h3⟩
  refine (show ((dSeq (dAsg 4 (dCB gTupOf (dCons (dCut (dLst (dCons (dC (.str "ann")) (dCons (dC (.str "bob")) dNil))) doNone (doSome (dCall cTake xw0 (dCons (dVar 3) (dCons (dC (.int 3)) dNil))))) dNil))) (dSeq (dPar 10 11 (dCons (dOp gIx (dLst (dCons (dTup dNil) (dCons (dTup (dCons (dVar 4) dNil)) dNil))) (dCall cTake xw0 (dCons (dVar 3) (dCons (dC (.int 2)) dNil)))) (dCons (dC (.str "enough")) dNil))) (dSeq (dIfS (dB (dOp gNe (dVar 10) (dTup dNil))) (dAsg 11 (dC (.str "stuck"))) dNext) (dSeq (dAsg 5 (dOp gAdd (dTup (dCons (dVar 11) (dCons (dCB gTupOf (dCons (dLc 14 (diSeq (dVar 8)) dYes (dCall (c__law_made_line a) xw0 (dCons (dVar 14) dNil))) dNil)) (dCons (dCall (c__law_built a 40) xw0 (dCons (dVar 9) (dCons (dC .non) dNil))) dNil)))) (dVar 10))) (dSeq (dFor (diSeq (dLst (dCons (dC (.int 0)) (dCons (dC (.int 1)) (dCons (dCall cTake xw0 (dCons (dVar 3) (dCons (dOp gAdd (dOp (gI CPow fun i j => .int (i ^ j.toNat)) (dC (.int 10)) (dC (.int 30))) (dC (.int 1))) dNil))) (dCons (dOp (gI CPow fun i j => .int (i ^ j.toNat)) (dC (.int 10)) (dC (.int 30))) dNil)))))) (dgName 6) (dSeq (dAsg 12 (dOp gAdd (dTup (dCons (dVar 11) (dCons (dCB gTupOf (dCons (dLc 14 (diSeq (dVar 8)) dYes (dCall c__law_at xw0 (dCons (dVar 14) (dCons (dVar 6) dNil)))) dNil)) (dCons (dCall (c__law_built a 40) xw0 (dCons (dVar 9) (dCons (dVar 6) dNil))) dNil)))) (dVar 10))) (dIfS (dOr (dB (dOp gNe (dCall (c__law_told a) xw0 (dCons (dVar 5) (dCons (dVar 6) dNil))) (dVar 12))) (dB (dOp gNe (dCall (c__law_told a) xw0 (dCons (dVar 5) (dCons (dVar 6) dNil))) (dVar 12)))) (dRet (dC (.bl false))) dNext))) (dSeq (dFor (diSeq (dLst (dCons (dUnI (fun i => -i) (dC (.int 1))) (dCons (dOp gAdd (dOp (gI CPow fun i j => .int (i ^ j.toNat)) (dC (.int 10)) (dC (.int 30))) (dC (.int 1))) (dCons (dC .non) (dCons (dC (.bl true)) (dCons (dC (.str "1")) dNil))))))) (dgName 6) (dIfS (dB (dOp gNe (dCall (c__law_told a) xw0 (dCons (dVar 5) (dCons (dVar 6) dNil))) (dLst (dCons (dC (.str "number")) (dCons (dVar 6) dNil))))) (dRet (dC (.bl false))) dNext)) (dSeq (dFor (diSeq (dCall (c__law_wrong a) xw0 (dCons (dVar 3) (dCons (dVar 5) dNil)))) (dgName 7) (dIfS (dOr (dB (dOp gNe (dCall (c__law_told a) xw0 (dCons (dVar 7) (dCons (dC (.int 1)) dNil))) (dLst (dCons (dC (.str "paper")) (dCons (dC (.bl true)) dNil))))) (dB (dOp gNotB (dCall (c_is_lined a) xw0 (dCons (dVar 1) (dCons (dC (.int 0)) (dCons (dC (.int 1)) (dCons (dVar 7) dNil))))) (dC (.bl false))))) (dRet (dC (.bl false))) dNext)) (dIfS (dB (dOp (gSamB (okL a) 84 false fun _ _ _ => False) (dVar 5) (dOp gAdd (dTup (dCons (dVar 11) (dCons (dCB gTupOf (dCons (dLc 14 (diSeq (dVar 8)) dYes (dCall (c__law_made_line a) xw0 (dCons (dVar 14) dNil))) dNil)) (dCons (dCall (c__law_built a 40) xw0 (dCons (dVar 9) (dCons (dC .non) dNil))) dNil)))) (dVar 10)))) (dRet (dC (.bl false))) dNext)))))))) : DS) E [s0, .d (.obj a.C_Net (netF a)), s2, .pool, s4, s5, s6, s7, .d (.lst vs), .d (.lst xs), s10, s11, s12, s13, s14] from ?_)
  refine s_asgP (R := fun x => ∃ r : Int, 0 ≤ r ∧ r ≤ 2 ∧ x = .tup (cutD [D.str "ann", .str "bob"] none (some r))) (fun k hk => e_knot (lo := 0) (hi := 2) (ev_lst (evc ev_c (evc ev_c evn)) (len_ok rfl)) (fun k hk => e_take (n := 3) (by decide) (by decide) rfl (fun k hk => hk) (fun r r0 r3 => hk r r0 (by omega))) (fun r r0 r2 => hk _ ⟨r, r0, r2, rfl⟩)) ?_
  rintro _ ⟨r, r0, r3, rfl⟩
  have cut : cutD [D.str "ann", .str "bob"] none (some r) = (([("ann" : Str), "bob"] : List Str).take r.toNat).map D.str := by
    rw [cut_to r0 (by show r ≤ 2; omega), List.map_take]
    rfl
  refine (show ((dSeq (dPar 10 11 (dCons (dOp gIx (dLst (dCons (dTup dNil) (dCons (dTup (dCons (dVar 4) dNil)) dNil))) (dCall cTake xw0 (dCons (dVar 3) (dCons (dC (.int 2)) dNil)))) (dCons (dC (.str "enough")) dNil))) (dSeq (dIfS (dB (dOp gNe (dVar 10) (dTup dNil))) (dAsg 11 (dC (.str "stuck"))) dNext) (dSeq (dAsg 5 (dOp gAdd (dTup (dCons (dVar 11) (dCons (dCB gTupOf (dCons (dLc 14 (diSeq (dVar 8)) dYes (dCall (c__law_made_line a) xw0 (dCons (dVar 14) dNil))) dNil)) (dCons (dCall (c__law_built a 40) xw0 (dCons (dVar 9) (dCons (dC .non) dNil))) dNil)))) (dVar 10))) (dSeq (dFor (diSeq (dLst (dCons (dC (.int 0)) (dCons (dC (.int 1)) (dCons (dCall cTake xw0 (dCons (dVar 3) (dCons (dOp gAdd (dOp (gI CPow fun i j => .int (i ^ j.toNat)) (dC (.int 10)) (dC (.int 30))) (dC (.int 1))) dNil))) (dCons (dOp (gI CPow fun i j => .int (i ^ j.toNat)) (dC (.int 10)) (dC (.int 30))) dNil)))))) (dgName 6) (dSeq (dAsg 12 (dOp gAdd (dTup (dCons (dVar 11) (dCons (dCB gTupOf (dCons (dLc 14 (diSeq (dVar 8)) dYes (dCall c__law_at xw0 (dCons (dVar 14) (dCons (dVar 6) dNil)))) dNil)) (dCons (dCall (c__law_built a 40) xw0 (dCons (dVar 9) (dCons (dVar 6) dNil))) dNil)))) (dVar 10))) (dIfS (dOr (dB (dOp gNe (dCall (c__law_told a) xw0 (dCons (dVar 5) (dCons (dVar 6) dNil))) (dVar 12))) (dB (dOp gNe (dCall (c__law_told a) xw0 (dCons (dVar 5) (dCons (dVar 6) dNil))) (dVar 12)))) (dRet (dC (.bl false))) dNext))) (dSeq (dFor (diSeq (dLst (dCons (dUnI (fun i => -i) (dC (.int 1))) (dCons (dOp gAdd (dOp (gI CPow fun i j => .int (i ^ j.toNat)) (dC (.int 10)) (dC (.int 30))) (dC (.int 1))) (dCons (dC .non) (dCons (dC (.bl true)) (dCons (dC (.str "1")) dNil))))))) (dgName 6) (dIfS (dB (dOp gNe (dCall (c__law_told a) xw0 (dCons (dVar 5) (dCons (dVar 6) dNil))) (dLst (dCons (dC (.str "number")) (dCons (dVar 6) dNil))))) (dRet (dC (.bl false))) dNext)) (dSeq (dFor (diSeq (dCall (c__law_wrong a) xw0 (dCons (dVar 3) (dCons (dVar 5) dNil)))) (dgName 7) (dIfS (dOr (dB (dOp gNe (dCall (c__law_told a) xw0 (dCons (dVar 7) (dCons (dC (.int 1)) dNil))) (dLst (dCons (dC (.str "paper")) (dCons (dC (.bl true)) dNil))))) (dB (dOp gNotB (dCall (c_is_lined a) xw0 (dCons (dVar 1) (dCons (dC (.int 0)) (dCons (dC (.int 1)) (dCons (dVar 7) dNil))))) (dC (.bl false))))) (dRet (dC (.bl false))) dNext)) (dIfS (dB (dOp (gSamB (okL a) 84 false fun _ _ _ => False) (dVar 5) (dOp gAdd (dTup (dCons (dVar 11) (dCons (dCB gTupOf (dCons (dLc 14 (diSeq (dVar 8)) dYes (dCall (c__law_made_line a) xw0 (dCons (dVar 14) dNil))) dNil)) (dCons (dCall (c__law_built a 40) xw0 (dCons (dVar 9) (dCons (dC .non) dNil))) dNil)))) (dVar 10)))) (dRet (dC (.bl false))) dNext))))))) : DS) E [s0, .d (.obj a.C_Net (netF a)), s2, .pool, .d (.tup (cutD [D.str "ann", .str "bob"] none (some r))), s5, s6, s7, .d (.lst vs), .d (.lst xs), s10, s11, s12, s13, s14] from ?_)
  rw [cut]
  have lk : (([("ann" : Str), "bob"] : List Str).take r.toNat).length ≤ 10 := by
    rw [List.length_take]
    exact Nat.le_trans (Nat.min_le_right _ _) (show 2 ≤ 10 by decide)
  have lo : ∀ z ∈ ([("ann" : Str), "bob"] : List Str).take r.toNat, low z := fun z m => take_low z (List.mem_of_mem_take m)
  revert lk lo
  generalize ([("ann" : Str), "bob"] : List Str).take r.toNat = kn
  intro lk lo
  refine s_parP (R := fun t => t ∈ [D.tup [], .tup [.tup (kn.map D.str)]]) (S := fun t => t = .str "enough") (fun k hk => e_pick (n := 2) (xs := [.tup [], .tup [.tup (kn.map D.str)]]) rfl (by decide) (by decide) (ev_lst (evc (ev_tup evn (len_ok rfl)) (evc (ev_tup (evc (ev_var rfl) evn) (len_ok rfl)) evn)) (len_ok rfl)) rfl (fun k hk => hk) (fun t mt => hk t mt)) (fun k hk => hk _ rfl) ?_
  rintro t _ mt rfl
  have q0 : ∀ {w : Str} {tl : List D}, TlOk w tl → PapQ w vs xs tl := fun ht => ⟨hv, lv, h3.le (by decide), cnt3 h3, ht⟩
  simp only [List.mem_cons, List.not_mem_nil, or_false] at mt
  rcases mt with rfl | rfl
  · have ht : TlOk "enough" [] := .inl ⟨rfl, rfl⟩
    refine s_if (b := false) (fun k hk => t_b (b := false) (ev_ne (lay_ok (lay_tl ht) (by decide)) (ev_var rfl) (ev_tup evn (len_ok rfl))) hk) (fun z => by cases z) (fun _ => ?_)
    exact law_uses (q0 ht) h3 fun s5 s6 s7 s12 => h _ _ _ _ _ _ _ _ _
  · have ht : TlOk "stuck" [.tup (kn.map D.str)] := .inr ⟨rfl, kn, rfl, lk, lo⟩
    refine s_if (b := true) (fun k hk => t_b (b := true) (fun k hk => ⟨Nat.zero_le _, lay_ok (lay_tl ht) (by decide), lay_ok (lay_tl (w := "enough") (tl := []) (.inl ⟨rfl, rfl⟩)) (by decide), ?_⟩) hk) (fun _ => ?_) (fun z => by cases z)
    · rw [deq_tnil]
      exact hk
    · exact law_uses (q0 ht) h3 fun s5 s6 s7 s12 => h _ _ _ _ _ _ _ _ _
theorem ev_net {Γ : Gm} : Ev ((dNew (c_Net a) a.C_Net [.non, .non] xw0 (dCons (dDisp (dpCons (dC (.str "ann")) (dNew c_Row a.C_Row [.tup []] xw0 dNil) (dpCons (dC (.str "bob")) (dNew c_Row a.C_Row [.tup []] xw0 dNil) dpNil))) dNil))) Γ (.obj a.C_Net (netF a)) := fun k hk => ⟨rfl, .inr "ann", _, rfl, rfl, rfl, .inr "bob", _, rfl, rfl, (show 2 ≤ 15 by decide), rfl, rfl, hk⟩
theorem ok_law (T : Txt P K mg a) : FnOk P w K mg base (L2.CX P w) 130 a.f_law a.d_law ["_law_script"] (cLaw.sp K) := by
  refine fn_ok0 cLaw T.f_law.F sc_law rfl (fun cdv A outer s H E hr po => ⟨_, _, (pdss_cons (pds_set (i := 1) (pd_newNN T.mk_Net (ok_Net___init__ T) (hr.mono (by decide)) T.k_Net.gC T.mm_Net___init__ (pda_cons (pd_disp (pdp_cons pd_str (pd_new0 T.mk_Row (ok_Row___init__ T) (hr.mono (by decide)) T.k_Row.gC T.m_Row___init__.b1) (pdp_cons pd_str (pd_new0 T.mk_Row (ok_Row___init__ T) (hr.mono (by decide)) T.k_Row.gC T.m_Row___init__.b1) pdp_nil))) pda_nil)) sc_law.nd)
  (pdss_cons (pds_if (pdw_pt (pdw_or (pdt_not (pdt_val (pd_callB call_isi (oc_is .tuple) T.n_isinstance (by decide +kernel) (pda_cons (pd_call (ok__law_told T) (hr.mono (by decide)) T.f__law_told.m T.f__law_told.F.kp T.f__law_told.b (pda_cons (pd_call (ok__law_deep T) (hr.mono (by decide)) T.f__law_deep.m T.f__law_deep.F.kp T.f__law_deep.b (pda_cons pd_int pda_nil)) (pda_cons pd_int pda_nil))) (pda_cons (pd_ty (T := "tuple") T.n_tuple (by decide +kernel)) pda_nil))))) (pdw_or1 (pdt_ne hr.units (pd_call (ok__law_told T) (hr.mono (by decide)) T.f__law_told.m T.f__law_told.F.kp T.f__law_told.b (pda_cons (pd_call (ok__law_deep T) (hr.mono (by decide)) T.f__law_deep.m T.f__law_deep.F.kp T.f__law_deep.b (pda_cons pd_int pda_nil)) (pda_cons pd_int pda_nil))) (pd_lst (pda_cons pd_str (pda_cons pd_bl pda_nil)))))))
  (pdss_one (pds_ret pd_bl))
  pdss_nil)
  (pdss_cons (pds_for po rfl (pdi_range1 T.n_range (pda_cons (pd_callB (call_max2 rfl) oc_I2 T.n_max (by decide +kernel) (pda_cons pd_int (pda_cons (pd_callB (call_min2 rfl) oc_I2 T.n_min (by decide +kernel) (pda_cons (pd_callB call_len oc_len T.n_len (by decide +kernel) (pda_cons (pd_v 0) pda_nil)) (pda_cons pd_int pda_nil))) pda_nil))) pda_nil)) (pdg_name (i := 2) sc_law.nd)
  (pdss_pool (i := 3) (ok__law_pool T) (hr.mono (by decide)) T.f__law_pool.m T.f__law_pool.F.kp T.f__law_pool.b sc_law.nd (pda_cons (pd_v 0) (pda_cons (pd_v 2) pda_nil))
  (pdss_cons (pds_par (i := 8) (j := 9) (pda_cons (pd_lc (i := 13) rfl sc_law.nd (pdi_range1 T.n_range (pda_cons (pd_call (ok__law_take T) (hr.mono (by decide)) T.f__law_take.m T.f__law_take.F.kp T.f__law_take.b (pda_cons (pd_v 3) (pda_cons pd_int pda_nil))) pda_nil)) (blkOk_by (N := ["_law_script", "_law_net", "_law_k", "_law_pool_here", "_law_knot", "_law_paper", "_law_m", "_law_thing", "_law_vector", "_law_items_here", "_law_tail", "_law_word", "_law_due", "_law_turn", "_law_pair"]) (sc := defScope s_law) (own := [("_law_turn", 13)]) (by decide +kernel)) (fun _ _ _ _ _ => pg_name (i := 13) sc_law.nd rfl (Or.inl rfl)) (fun _ _ _ _ _ => pdts_nil) (fun _ _ _ _ _ => (pd_call (ok__law_line T) (hr.mono (by decide)) T.f__law_line.m T.f__law_line.F.kp T.f__law_line.b (pda_cons (pd_v 3) pda_nil)))) (pda_cons (pd_call (ok__law_items T) (hr.mono (by decide)) T.f__law_items.m T.f__law_items.F.kp T.f__law_items.b (pda_cons (pd_v 3) (pda_cons pd_int pda_nil))) pda_nil)) rfl sc_law.nd)
  (pdss_cons (pds_set (i := 4) (pd_callTy call_tuple_of oc_tupOf T.n_tuple (by decide +kernel) (pda_cons (pd_cut (pd_lst (pda_cons pd_str (pda_cons pd_str pda_nil))) pdo_none (pdo_some (pd_call (ok__law_take T) (hr.mono (by decide)) T.f__law_take.m T.f__law_take.F.kp T.f__law_take.b (pda_cons (pd_v 3) (pda_cons pd_int pda_nil))))) pda_nil)) sc_law.nd)
  (pdss_cons (pds_par (i := 10) (j := 11) (pda_cons (pd_ix (pd_lst (pda_cons (pd_tup pda_nil) (pda_cons (pd_tup (pda_cons (pd_v 4) pda_nil)) pda_nil))) (pd_call (ok__law_take T) (hr.mono (by decide)) T.f__law_take.m T.f__law_take.F.kp T.f__law_take.b (pda_cons (pd_v 3) (pda_cons pd_int pda_nil)))) (pda_cons pd_str pda_nil)) rfl sc_law.nd)
  (pdss_cons (pds_if (pdt_ne hr.units (pd_v 10) (pd_tup pda_nil))
  (pdss_one (pds_set (i := 11) pd_str sc_law.nd))
  pdss_nil)
  (pdss_cons (pds_set (i := 5) (pd_add (pd_tup (pda_cons (pd_v 11) (pda_cons (pd_callTy call_tuple_of oc_tupOf T.n_tuple (by decide +kernel) (pda_cons (pd_lc (i := 14) rfl sc_law.nd (pdi_seq (pd_v 8)) (blkOk_by (N := ["_law_script", "_law_net", "_law_k", "_law_pool_here", "_law_knot", "_law_paper", "_law_m", "_law_thing", "_law_vector", "_law_items_here", "_law_tail", "_law_word", "_law_due", "_law_turn", "_law_pair"]) (sc := defScope s_law) (own := [("_law_pair", 14)]) (by decide +kernel)) (fun _ _ _ _ _ => pg_name (i := 14) sc_law.nd rfl (Or.inl rfl)) (fun _ _ _ _ _ => pdts_nil) (fun _ _ _ _ _ => (pd_call (ok__law_made_line T) (hr.mono (by decide)) T.f__law_made_line.m T.f__law_made_line.F.kp T.f__law_made_line.b (pda_cons (pd_v 14) pda_nil)))) pda_nil)) (pda_cons (pd_call (ok__law_built T) (hr.mono (by decide)) T.f__law_built.m T.f__law_built.F.kp T.f__law_built.b (pda_cons (pd_v 9) (pda_cons pd_non pda_nil))) pda_nil)))) (pd_v 10)) sc_law.nd)
  (pdss_cons (pds_for po rfl (pdi_seq (pd_lst (pda_cons pd_int (pda_cons pd_int (pda_cons (pd_call (ok__law_take T) (hr.mono (by decide)) T.f__law_take.m T.f__law_take.F.kp T.f__law_take.b (pda_cons (pd_v 3) (pda_cons (pd_add (pd_pow pd_int pd_int) pd_int) pda_nil))) (pda_cons (pd_pow pd_int pd_int) pda_nil)))))) (pdg_name (i := 6) sc_law.nd)
  (pdss_cons (pds_set (i := 12) (pd_add (pd_tup (pda_cons (pd_v 11) (pda_cons (pd_callTy call_tuple_of oc_tupOf T.n_tuple (by decide +kernel) (pda_cons (pd_lc (i := 14) rfl sc_law.nd (pdi_seq (pd_v 8)) (blkOk_by (N := ["_law_script", "_law_net", "_law_k", "_law_pool_here", "_law_knot", "_law_paper", "_law_m", "_law_thing", "_law_vector", "_law_items_here", "_law_tail", "_law_word", "_law_due", "_law_turn", "_law_pair"]) (sc := defScope s_law) (own := [("_law_pair", 14)]) (by decide +kernel)) (fun _ _ _ _ _ => pg_name (i := 14) sc_law.nd rfl (Or.inl rfl)) (fun _ _ _ _ _ => pdts_nil) (fun _ _ _ _ _ => (pd_call (ok__law_at T) (hr.mono (by decide)) T.f__law_at.m T.f__law_at.F.kp T.f__law_at.b (pda_cons (pd_v 14) (pda_cons (pd_v 6) pda_nil))))) pda_nil)) (pda_cons (pd_call (ok__law_built T) (hr.mono (by decide)) T.f__law_built.m T.f__law_built.F.kp T.f__law_built.b (pda_cons (pd_v 9) (pda_cons (pd_v 6) pda_nil))) pda_nil)))) (pd_v 10)) sc_law.nd)
  (pdss_one (pds_if (pdw_pt (pdw_or (pdt_ne hr.units (pd_call (ok__law_told T) (hr.mono (by decide)) T.f__law_told.m T.f__law_told.F.kp T.f__law_told.b (pda_cons (pd_v 5) (pda_cons (pd_v 6) pda_nil))) (pd_v 12)) (pdw_or1 (pdt_ne hr.units (pd_call (ok__law_told T) (hr.mono (by decide)) T.f__law_told.m T.f__law_told.F.kp T.f__law_told.b (pda_cons (pd_v 5) (pda_cons (pd_v 6) pda_nil))) (pd_v 12)))))
  (pdss_one (pds_ret pd_bl))
  pdss_nil))))
  (pdss_cons (pds_for po rfl (pdi_seq (pd_lst (pda_cons (pd_neg pd_int) (pda_cons (pd_add (pd_pow pd_int pd_int) pd_int) (pda_cons pd_non (pda_cons pd_bl (pda_cons pd_str pda_nil))))))) (pdg_name (i := 6) sc_law.nd)
  (pdss_one (pds_if (pdt_ne hr.units (pd_call (ok__law_told T) (hr.mono (by decide)) T.f__law_told.m T.f__law_told.F.kp T.f__law_told.b (pda_cons (pd_v 5) (pda_cons (pd_v 6) pda_nil))) (pd_lst (pda_cons pd_str (pda_cons (pd_v 6) pda_nil))))
  (pdss_one (pds_ret pd_bl))
  pdss_nil)))
  (pdss_cons (pds_for po rfl (pdi_seq (pd_call (ok__law_wrong T) (hr.mono (by decide)) T.f__law_wrong.m T.f__law_wrong.F.kp T.f__law_wrong.b (pda_cons (pd_v 3) (pda_cons (pd_v 5) pda_nil)))) (pdg_name (i := 7) sc_law.nd)
  (pdss_one (pds_if (pdw_pt (pdw_or (pdt_ne hr.units (pd_call (ok__law_told T) (hr.mono (by decide)) T.f__law_told.m T.f__law_told.F.kp T.f__law_told.b (pda_cons (pd_v 7) (pda_cons pd_int pda_nil))) (pd_lst (pda_cons pd_str (pda_cons pd_bl pda_nil)))) (pdw_or1 (pdt_notB (pd_call (ok_is_lined T) (hr.mono (by decide)) T.f_is_lined.m T.f_is_lined.F.kp T.f_is_lined.b (pda_cons (pd_v 1) (pda_cons pd_int (pda_cons pd_int (pda_cons (pd_v 7) pda_nil))))) pd_bl))))
  (pdss_one (pds_ret pd_bl))
  pdss_nil)))
  (pdss_one (pds_if (pdt_samB (n := 1) (okO := (okL a)) (d := 84) (okL_q T) (hr.mono (show 1 + 84 + 1 ≤ _ by decide)) (pd_v 5) (pd_add (pd_tup (pda_cons (pd_v 11) (pda_cons (pd_callTy call_tuple_of oc_tupOf T.n_tuple (by decide +kernel) (pda_cons (pd_lc (i := 14) rfl sc_law.nd (pdi_seq (pd_v 8)) (blkOk_by (N := ["_law_script", "_law_net", "_law_k", "_law_pool_here", "_law_knot", "_law_paper", "_law_m", "_law_thing", "_law_vector", "_law_items_here", "_law_tail", "_law_word", "_law_due", "_law_turn", "_law_pair"]) (sc := defScope s_law) (own := [("_law_pair", 14)]) (by decide +kernel)) (fun _ _ _ _ _ => pg_name (i := 14) sc_law.nd rfl (Or.inl rfl)) (fun _ _ _ _ _ => pdts_nil) (fun _ _ _ _ _ => (pd_call (ok__law_made_line T) (hr.mono (by decide)) T.f__law_made_line.m T.f__law_made_line.F.kp T.f__law_made_line.b (pda_cons (pd_v 14) pda_nil)))) pda_nil)) (pda_cons (pd_call (ok__law_built T) (hr.mono (by decide)) T.f__law_built.m T.f__law_built.F.kp T.f__law_built.b (pda_cons (pd_v 9) (pda_cons pd_non pda_nil))) pda_nil)))) (pd_v 10)))
  (pdss_one (pds_ret pd_bl))
  pdss_nil))))))))))))
  (pdss_one (pds_ret pd_bl))))), ?_⟩)
  intro ss kk xx hl h
  unfold cLaw at h
  dsimp only at h
  split at h
  · rename_i xs
    obtain ⟨⟨ns, rfl, h63⟩, h⟩ := h
    have ln : (intD ns).length = ns.length := List.length_map ..
    refine s_asg (x := .d (.obj a.C_Net (netF a))) ev_net ?_
    refine s_if (b := false) (fun k hk => t_or (b := false) (c := false) (fun k hk => t_not (b := true) (fun k hk => t_b (b := true) (fun k hk => ?_) hk) hk) (fun _ k hk => t_b (b := false) (ev_ne (lay2 lowPa (lay_bl true 1)) (ev_toldW deep41 rfl (ev_deep (n := 41) rfl (by decide)) ev_c) (ev_lst (evc ev_c (evc ev_c evn)) (len_ok rfl))) hk) hk) (fun z => by cases z) (fun _ => ?_)
    · refine e_is (T := .tuple) (y := papV 0 "enough" [] (dpR 40) []) (ev_told pap_deep ⟨Int.le_refl _, by decide +kernel⟩ (fun k hk => ?_) ev_c) rfl hk
      rw [← deep40] at hk
      exact ev_deep (n := 40) rfl (by decide) k hk
    refine ⟨⟨?_, ?_⟩, ?_⟩
    · dsimp only
      (repeat' split) <;> omega
    · dsimp only
      (repeat' split) <;> omega
    refine forD_inv (fun Γ => ∃ s2 s3 s4 s5 s6 s7 s8 s9 s10 s11 s12, Γ = [.d (.scr (intD ns)), .d (.obj a.C_Net (netF a)), s2, s3, s4, s5, s6, s7, s8, s9, s10, s11, s12, .any, .any]) ?_ _ ?_ _ ⟨_, _, _, _, _, _, _, _, _, _, _, rfl⟩
    · rintro Γ ⟨s2, s3, s4, s5, s6, s7, s8, s9, s10, s11, s12, rfl⟩
      exact h
    · rintro x hx Γ ⟨s2, s3, s4, s5, s6, s7, s8, s9, s10, s11, s12, rfl⟩ N hN
      obtain ⟨i, rfl, i0, i1⟩ := intsFrom_mem hx
      refine ⟨⟨ns, rfl, h63⟩, i0, ?_, ?_⟩
      · revert i1
        dsimp only
        (repeat' split) <;> omega
      exact law_turn fun s4 s5 s6 s7 s8 s9 s10 s11 s12 => hN _ ⟨_, _, _, _, _, _, _, _, _, _, _, rfl⟩
  · exact h.elim
-- SPLIT
open PySem.Spec PyProof.Rows L2 Dv He Hz
def adOf (K : PySem.W.Frag) : Ad := ⟨ga K "is_integer", fdAt K (ga K "is_integer"), ga K "is_word", fdAt K (ga K "is_word"), ga K "is_between", fdAt K (ga K "is_between"), ga K "check_number", fdAt K (ga K "check_number"), ga K "parts_many", fdAt K (ga K "parts_many"), ga K "part_many", fdAt K (ga K "part_many"), ga K "check_row", fdAt K (ga K "check_row"), ga K "part_text", fdAt K (ga K "part_text"), ga K "parts_text", fdAt K (ga K "parts_text"), ga K "inner_parts", fdAt K (ga K "inner_parts"), ga K "channels_in_parts", fdAt K (ga K "channels_in_parts"), ga K "channels_of", fdAt K (ga K "channels_of"), ga K "ends_in", fdAt K (ga K "ends_in"), ga K "are_programs", fdAt K (ga K "are_programs"), ga K "ends_of_channels", fdAt K (ga K "ends_of_channels"), ga K "are_first", fdAt K (ga K "are_first"), ga K "are_stores", fdAt K (ga K "are_stores"), ga K "check_net", fdAt K (ga K "check_net"), ga K "is_marked", fdAt K (ga K "is_marked"), ga K "check_line_number", fdAt K (ga K "check_line_number"), ga K "line_text", fdAt K (ga K "line_text"), ga K "are_lines", fdAt K (ga K "are_lines"), ga K "lined_many", fdAt K (ga K "lined_many"), ga K "is_lined_form", fdAt K (ga K "is_lined_form"), ga K "value_at", fdAt K (ga K "value_at"), ga K "items_at", fdAt K (ga K "items_at"), ga K "paper_at", fdAt K (ga K "paper_at"), ga K "check_first_step", fdAt K (ga K "check_first_step"), ga K "is_lined", fdAt K (ga K "is_lined"), ga K "_law_pool", fdAt K (ga K "_law_pool"), ga K "_law_take", fdAt K (ga K "_law_take"), ga K "_law_line", fdAt K (ga K "_law_line"), ga K "_law_items", fdAt K (ga K "_law_items"), ga K "_law_made_line", fdAt K (ga K "_law_made_line"), ga K "_law_at", fdAt K (ga K "_law_at"), ga K "_law_built", fdAt K (ga K "_law_built"), ga K "_law_told", fdAt K (ga K "_law_told"), ga K "_law_wrong", fdAt K (ga K "_law_wrong"), ga K "_law_deep", fdAt K (ga K "_law_deep"), ga K "law", fdAt K (ga K "law"), tkAt K "MOST_WORD", tkAt K "MOST_NUMBER", tkAt K "MOST_PARTS", tkAt K "MOST_PROCESSES", tkAt K "MOST_CHANNELS", tkAt K "MOST_LINE", tkAt K "MOST_STEP", tkAt K "MOST_DEEP_lines", tkAt K "MOST_ITEMS_lines", tkAt K "LETTERS", ga K "RoomError", ma K (ga K "RoomError") "__init__", ga K "BadRow", ga K "BadNumber", ga K "BadNet", ga K "BadLine", ga K "BadPaper", ga K "Row", ga K "Net", ga K "Rooms", ga K "Moment", ga K "Course", ga K "Walk", ga K "Line", ma K (ga K "Row") "__init__", fdAt K (ma K (ga K "Row") "__init__"), ma K (ga K "Net") "__init__", fdAt K (ma K (ga K "Net") "__init__"), ma K (ga K "Rooms") "__init__", fdAt K (ma K (ga K "Rooms") "__init__"), ma K (ga K "Moment") "__init__", fdAt K (ma K (ga K "Moment") "__init__"), ma K (ga K "Course") "__init__", fdAt K (ma K (ga K "Course") "__init__"), ma K (ga K "Walk") "__init__", fdAt K (ma K (ga K "Walk") "__init__"), ma K (ga K "Line") "__init__", fdAt K (ma K (ga K "Line") "__init__"), ma K (ga K "Line") "__call__", fdAt K (ma K (ga K "Line") "__call__"), ma K (ga K "Line") "__eq__", fdAt K (ma K (ga K "Line") "__eq__")⟩
theorem txt {P : Program} {w : World} {K : PySem.W.Frag} {h : Heap} {mg : Str → Option Value} (X : K.In h) (G : h.Ns mainGlobals mg) (c : Says (headD P) w K) : Txt P K mg (adOf K) := ⟨fn_at X G (c.f 0 0) (c.x 0 0) (fun _ _ _ _ _ _ us hl => match us, hl with | [_], _ => rfl),
  fn_at X G (c.f 0 1) (c.x 0 1) (fun _ _ _ _ _ _ us hl => match us, hl with | [_], _ => rfl),
  fn_at X G (c.f 0 2) (c.x 0 2) (fun _ _ _ _ _ _ us hl => match us, hl with | [_, _, _], _ => rfl),
  fn_at X G (c.f 0 3) (c.x 0 3) (fun _ _ _ _ _ _ us hl => match us, hl with | [_], _ => rfl),
  fn_at X G (c.f 0 4) (c.x 0 4) (fun _ _ _ _ _ _ us hl => match us, hl with | [_, _, _], _ => rfl),
  fn_at X G (c.f 0 5) (c.x 0 5) (fun _ _ _ _ _ _ us hl => match us, hl with | [_, _, _], _ => rfl),
  fn_at X G (c.f 0 6) (c.x 0 6) (fun _ _ _ _ _ _ us hl => match us, hl with | [_], _ => rfl),
  fn_at X G (c.f 0 7) (c.x 0 7) (fun _ _ _ _ _ _ us hl => match us, hl with | [_], _ => rfl),
  fn_at X G (c.f 0 8) (c.x 0 8) (fun _ _ _ _ _ _ us hl => match us, hl with | [_], _ => rfl),
  fn_at X G (c.f 0 9) (c.x 0 9) (fun _ _ _ _ _ _ us hl => match us, hl with | [_], _ => rfl),
  fn_at X G (c.f 0 10) (c.x 0 10) (fun _ _ _ _ _ _ us hl => match us, hl with | [_], _ => rfl),
  fn_at X G (c.f 0 11) (c.x 0 11) (fun _ _ _ _ _ _ us hl => match us, hl with | [_], _ => rfl),
  fn_at X G (c.f 1 0) (c.x 1 0) (fun _ _ _ _ _ _ us hl => match us, hl with | [_, _], _ => rfl),
  fn_at X G (c.f 1 1) (c.x 1 1) (fun _ _ _ _ _ _ us hl => match us, hl with | [_], _ => rfl),
  fn_at X G (c.f 1 2) (c.x 1 2) (fun _ _ _ _ _ _ us hl => match us, hl with | [_, _], _ => rfl),
  fn_at X G (c.f 1 3) (c.x 1 3) (fun _ _ _ _ _ _ us hl => match us, hl with | [_, _], _ => rfl),
  fn_at X G (c.f 1 4) (c.x 1 4) (fun _ _ _ _ _ _ us hl => match us, hl with | [_, _, _], _ => rfl),
  fn_at X G (c.f 1 5) (c.x 1 5) (fun _ _ _ _ _ _ us hl => match us, hl with | [_], _ => rfl),
  fn_at X G (c.f 1 6) (c.x 1 6) (fun _ _ _ _ _ _ us hl => match us, hl with | [_, _, _], _ => rfl),
  fn_at X G (c.f 1 7) (c.x 1 7) (fun _ _ _ _ _ _ us hl => match us, hl with | [_], _ => rfl),
  fn_at X G (c.f 1 8) (c.x 1 8) (fun _ _ _ _ _ _ us hl => match us, hl with | [_, _], _ => rfl),
  fn_at X G (c.f 1 9) (c.x 1 9) (fun _ _ _ _ _ _ us hl => match us, hl with | [_], _ => rfl),
  fn_at X G (c.f 1 10) (c.x 1 10) (fun _ _ _ _ _ _ us hl => match us, hl with | [_, _], _ => rfl),
  fn_at X G (c.f 1 11) (c.x 1 11) (fun _ _ _ _ _ _ us hl => match us, hl with | [_], _ => rfl),
  fn_at X G (c.f 2 0) (c.x 2 0) (fun _ _ _ _ _ _ us hl => match us, hl with | [_, _], _ => rfl),
  fn_at X G (c.f 2 1) (c.x 2 1) (fun _ _ _ _ _ _ us hl => match us, hl with | [_, _], _ => rfl),
  fn_at X G (c.f 2 2) (c.x 2 2) (fun _ _ _ _ _ _ us hl => match us, hl with | [_, _], _ => rfl),
  fn_at X G (c.f 2 3) (c.x 2 3) (fun _ _ _ _ _ _ us hl => match us, hl with | [_, _], _ => rfl),
  fn_at X G (c.f 2 4) (c.x 2 4) (fun _ _ _ _ _ _ us hl => match us, hl with | [_, _, _, _], _ => rfl),
  fn_at X G (c.f 2 5) (c.x 2 5) (fun _ _ _ _ _ _ us hl => match us, hl with | [_, _], _ => rfl),
  fn_at X G (c.f 2 6) (c.x 2 6) (fun _ _ _ _ _ _ us hl => match us, hl with | [_, _], _ => rfl),
  fn_at X G (c.f 2 7) (c.x 2 7) (fun _ _ _ _ _ _ us hl => match us, hl with | [_], _ => rfl),
  fn_at X G (c.f 2 8) (c.x 2 8) (fun _ _ _ _ _ _ us hl => match us, hl with | [_, _], _ => rfl),
  fn_at X G (c.f 2 9) (c.x 2 9) (fun _ _ _ _ _ _ us hl => match us, hl with | [_], _ => rfl),
  fn_at X G (c.f 2 10) (c.x 2 10) (fun _ _ _ _ _ _ us hl => match us, hl with | [_, _], _ => rfl),
  fn_at X G (c.f 2 11) (c.x 2 11) (fun _ _ _ _ _ _ us hl => match us, hl with | [_, _], _ => rfl),
  fn_at X G (c.f 3 0) (c.x 3 0) (fun _ _ _ _ _ _ us hl => match us, hl with | [_, _], _ => rfl),
  fn_at X G (c.f 3 1) (c.x 3 1) (fun _ _ _ _ _ _ us hl => match us, hl with | [_, _], _ => rfl),
  fn_at X G (c.f 3 2) (c.x 3 2) (fun _ _ _ _ _ _ us hl => match us, hl with | [_], _ => rfl),
  fn_at X G (c.f 3 3) (c.x 3 3) (fun _ _ _ _ _ _ us hl => match us, hl with | [_], _ => rfl),
  free_ok X G (c.x 3 4),
  free_ok X G (c.x 3 5),
  free_ok X G (c.x 3 6),
  free_ok X G (c.x 3 7),
  free_ok X G (c.x 3 8),
  free_ok X G (c.x 3 9),
  free_ok X G (c.x 3 10),
  free_ok X G (c.x 3 11),
  free_ok X G (c.x 4 0),
  free_ok X G (c.x 4 1),
  free_ok X G (c.x 4 2),
  free_ok X G (c.x 4 3),
  free_ok X G (c.x 4 4),
  free_ok X G (c.x 4 5),
  free_ok X G (c.x 4 6),
  free_ok X G (c.x 4 7),
  free_ok X G (c.x 4 8),
  int_at X G (c.x 4 9),
  int_at X G (c.x 4 10),
  int_at X G (c.x 4 11),
  int_at X G (c.x 5 0),
  int_at X G (c.x 5 1),
  int_at X G (c.x 5 2),
  int_at X G (c.x 5 3),
  int_at X G (c.x 5 4),
  int_at X G (c.x 5 5),
  str_at X G (c.x 5 6),
  room_of X G (c.f 3 4) (c.x 5 7) rfl,
  err_of X G (c.x 5 8),
  errI_of (c.x 5 9),
  err_of X G (c.x 5 10),
  errI_of (c.x 5 11),
  err_of X G (c.x 6 0),
  errI_of (c.x 6 1),
  err_of X G (c.x 6 2),
  errI_of (c.x 6 3),
  err_of X G (c.x 6 4),
  errI_of (c.x 6 5),
  cls_at X G (c.x 6 6),
  cls_at X G (c.x 6 7),
  cls_at X G (c.x 6 8),
  cls_at X G (c.x 6 9),
  cls_at X G (c.x 6 10),
  cls_at X G (c.x 6 11),
  cls_at X G (c.x 7 0),
  met0_of (n := 1) (c.f 3 5) (c.x 7 1) rfl (fun _ _ _ _ _ _ _ us its hl hi => match us, its, hl, hi with | [_, _], [_], _, _ => ⟨_, rfl, rfl⟩) (fun _ _ _ _ _ _ _ us its hl hi => match us, its, hl, hi with | [_], [_], _, _ => ⟨_, rfl, rfl⟩),
  metN_of (n := 3) (c.f 3 6) (c.x 7 2) rfl (fun _ _ _ _ _ _ _ us its hl hi => match us, its, hl, hi with | [_, _, _, _], [_, _], _, _ => ⟨_, rfl, rfl⟩) (fun _ _ _ _ _ _ _ us its hl hi => match us, its, hl, hi with | [_, _, _], [_, _], _, _ => ⟨_, rfl, rfl⟩),
  bothN_of (n := 2) (c.f 3 6) (c.x 7 2) rfl (fun _ _ _ _ _ _ _ us its hl hi => match us, its, hl, hi with | [_, _], [_, _], _, _ => ⟨_, rfl, rfl⟩),
  met_of (c.f 3 7) (c.x 7 3) (fun _ _ _ _ _ _ us hl => match us, hl with | [_, _], _ => rfl),
  met_of (c.f 3 8) (c.x 7 4) (fun _ _ _ _ _ _ us hl => match us, hl with | [_, _, _, _, _, _], _ => rfl),
  met0_of (n := 1) (c.f 3 9) (c.x 7 5) rfl (fun _ _ _ _ _ _ _ us its hl hi => match us, its, hl, hi with | [_, _], [_], _, _ => ⟨_, rfl, rfl⟩) (fun _ _ _ _ _ _ _ us its hl hi => match us, its, hl, hi with | [_], [_], _, _ => ⟨_, rfl, rfl⟩),
  met_of (c.f 3 10) (c.x 7 6) (fun _ _ _ _ _ _ us hl => match us, hl with | [_, _], _ => rfl),
  met1_of (n := 2) (c.f 3 11) (c.x 7 7) rfl (fun _ _ _ _ _ _ _ us its hl hi => match us, its, hl, hi with | [_, _, _], [_], _, _ => ⟨_, rfl, rfl⟩) (fun _ _ _ _ _ _ _ us its hl hi => match us, its, hl, hi with | [_, _], [_], _, _ => ⟨_, rfl, rfl⟩),
  met_of (c.f 4 0) (c.x 7 8) (fun _ _ _ _ _ _ us hl => match us, hl with | [_, _], _ => rfl),
  met_of (c.f 4 1) (c.x 7 9) (fun _ _ _ _ _ _ us hl => match us, hl with | [_, _], _ => rfl),
  mkr_ok (x := "Row") (c.x 7 10),
  noat_ok (c.x 7 11),
  noat_ok (c.x 8 0),
  noat_ok (c.x 8 1),
  mkr_ok (x := "Net") (c.x 8 2),
  noat_ok (c.x 8 3),
  noat_ok (c.x 8 4),
  noat_ok (c.x 8 5),
  noat_ok (c.x 8 6),
  noat_ok (c.x 8 7),
  noat_ok (c.x 8 8),
  mkr_ok (x := "Rooms") (c.x 8 9),
  mkr_ok (x := "Moment") (c.x 8 10),
  mkr_ok (x := "Course") (c.x 8 11),
  mkr_ok (x := "Walk") (c.x 9 0),
  mkr_ok (x := "Line") (c.x 9 1),
  noat_ok (c.x 9 2),
  noat_ok (c.x 9 3),
  noat_ok (c.x 9 4),
  eq_of (c.x 9 5),
  call_of (c.x 9 6),
  subF_ok (c.x 9 7),
  subF_ok (c.x 9 8)⟩
end
open PySem.Spec PyProof.Rows L2 Dv He Hz
theorem walk : PySem.W.WalkO (PySem.W.view R.prog [156]) names (PySem.W.XL (PySem.W.view R.prog [156]) []) (hook (headD PySem.Challenge.rw_leastrooms_k51_lined_papers_at_m.prog)).says R.toRowW (HandSHeadRun.topDef R.prog 156) [] (fun f vs => PySem.call f vs) := by
  refine walk_ofH (l := PySem.Challenge.rw_leastrooms_k51_lined_papers_at_m) (n := 63) (k := 130) (x := "_law_script") (CX := fun w => L2.CX PySem.Challenge.rw_leastrooms_k51_lined_papers_at_m.prog w) rfl (by decide) (by kernel_rfl) ⟨rfl, by decide, by decide⟩ ?F (fun _ _ _ _ _ z => law_cx z)
  intro w mg fa h Y G hmg0
  obtain ⟨K, KX, c⟩ := Y
  have hmg : mg ("law" : PySem.Str) = some (.ref fa) := by
    have e : (HandSHeadRun.topDef R.prog 156).name = ("law" : PySem.Str) := by kernel_rfl
    rw [← e]
    exact hmg0
  have T := txt KX G c
  have e := hmg.symm.trans T.f_law.m
  cases e
  exact ⟨K, _, cLaw.sp K, KX, binds_one (c.f 3 3) (ba (c.x 3 3)).2 (fun _ _ _ _ _ _ _ => rfl), fun H a ns hl _ hS => law_sp hl hS, fun base _ _ => ok_law T⟩
end G

open PySem PySem.W PySem.Calls PyProof.Rows in
set_option maxRecDepth 100000 in
set_option maxHeartbeats 0 in
theorem PySem.Challenge.cw_leastrooms_k51_lined_papers_at_m_holds : PySem.Challenge.rw_leastrooms_k51_lined_papers_at_m.Holds := by
  w_on; o_law
  refine HandSHeadRun.head_any (r := OpenLaw.row PySem.Challenge.rw_leastrooms_k51_lined_papers_at_m) (q := view (OpenLaw.row PySem.Challenge.rw_leastrooms_k51_lined_papers_at_m).prog [156]) (H := Hz.hook (_root_.G.headD PySem.Challenge.rw_leastrooms_k51_lined_papers_at_m.prog)) (ob := Hz.ob (_root_.G.headD PySem.Challenge.rw_leastrooms_k51_lined_papers_at_m.prog)) (M := 40000) (loose := _root_.G.names) (d := HandSHeadRun.topDef (OpenLaw.row PySem.Challenge.rw_leastrooms_k51_lined_papers_at_m).prog 156) (kwd := []) (Hz.ob_eq _)
    (by kernel_rfl) (fun s => by kernel_rfl) _root_.G.run (by kernel_rfl) (by kernel_rfl) (by kernel_rfl) (by rfl) (by first | assumption | decide +kernel) (by decide +kernel) ⟨rfl, rfl, rfl, rfl, rfl, by decide +kernel⟩ ?hw ?hc
  case hw => w_witness2
  case hc => exact _root_.G.walk
