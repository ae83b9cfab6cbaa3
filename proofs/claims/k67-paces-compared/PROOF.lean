import PyProof.Rows.All
import Wide.All
import OpenK.AllK
import Wide.FinOn
import PyProof.EqAt
import PyProof.EqKinds
import PyProof.TupleCall
import KE.OsGo
import KE.KExcSuper
import KE.KExcTry
import KE.KExcStr
import KE.KExcIs
import KE.KIsAll
import HandS.ExcIs
import HandS.IsInst
import HandS.ForExc
import HandS.ForMost
import HandS.Wide
import HandS.Flow
import HandS.TupAny
import HandS.Style
import PySem.Challenge.RW_leastrooms_k67_paces_compared
set_option Elab.async false
set_option linter.all false
set_option maxRecDepth 100000
set_option maxHeartbeats 4000000
/-! RoomX: the errors of the program: class RoomError(ValueError) with super().__init__(value); self.value = value, and the classes under it. -/
namespace PySem
namespace RoomX
open PySem.W PySem.Calls PyProof.Rows PySem.HandSPX
/-! ### the text of __init__ -/
def iA (p1 p2 : Pos) : Arguments := { posonlyargs := [], args := [{ arg := "self", annotation := none, pos := p1 }, { arg := "value", annotation := none, pos := p2 }], vararg := none, kwonlyargs := [], kw_defaults := [], kwarg := none, defaults := [] }
def iB (q1 q2 q3 q4 q5 q6 r1 r2 r3 r4 : Pos) : List Stmt :=
  [.Expr (.Call (.Attribute (.Call (.Name "super" q1) [] [] q2) "__init__" q3) [.Name "value" q4] [] q5) q6,
   .Assign [.Attribute (.Name "self" r1) "value" r2] (.Name "value" r3) r4]
def iS : Scope := { kind := .function, names := [(PySem.Str.ofString "self", .local), (PySem.Str.ofString "value", .local), (PySem.Str.ofString "__class__", .free), (PySem.Str.ofString "super", .globalImplicit)], isGenerator := false, isCoroutine := false, more := [] }
/-- what the written part says of RoomError, at D, and of its __init__, at fI -/
structure RoomTxt (prog : Program) (K : Frag) (mg : Str → Option Value) (D fI : Addr) : Prop where
  fn : ∃ (oc : Value) (od : Option Addr) (doc pm : Value) (an : Option Addr) (cda cc : Addr) (ct : Value) (osl : Array (Option Value)) (p1 p2 q1 q2 q3 q4 q5 q6 r1 r2 r3 r4 : Pos),
    K.lookup fI = some ⟨oc, od, .func (ksFn "__init__" "RoomError.__init__" (iA p1 p2) (iB q1 q2 q3 q4 q5 q6 r1 r2 r3 r4) iS .none .none doc pm an (.ref cda) ct cc), osl⟩ ∧ codeIn K (.ref cda) "RoomError.__init__" = true ∧ (q3.endLine == q5.line) = true ∧
    (∃ ccl cdd vs ccs file tf, K.lookup cda = some ⟨ccl, cdd, .fields vs, ccs⟩ ∧ vs[2]? = some (.str file tf) ∧ ((prog.main.file : Str) == file) = true) ∧
    (∃ cl cld csl, K.lookup cc = some ⟨cl, cld, .cell (some (.ref D)), csl⟩)
  cD : ∃ cd, clsIn K D = some cd
  msup : mg "super" = none
  mtop : (prog.main.scope.names.lookup ("super" : Str)).isSome = false
  tp : nsIn K cStatics "thirdparty.any" = some none
/-- .. of a class of errors, at C, called nm in the text -/
structure RoomCls (K : Frag) (mg : Str → Option Value) (nm : Str) (C D fI : Addr) : Prop where
  gC : mg nm = some (.ref C)
  cls : ∃ nm q N bs bm sn sub ab col dd k0 k1 k2 k3 k5, K.lookup C = some (excClassObj nm q C N bs bm true sn sub ab col dd k0 k1 k2 k3 k5 "ValueError.__new__") ∧ refsVE bm = true
  sa : findIn K (.ref C) "__setattr__" = some (some (.builtin "object.__setattr__"))
  ga : findIn K (.ref C) "__getattribute__" = some (some (.builtin "BaseException.__getattribute__"))
  gg : findIn K (.ref C) "__getattr__" = some none
  noN : findIn K (.ref C) "value" = some none
  iC : findIn K (.ref C) "__init__" = some (some (.ref fI))
  tC : typeIn K (.ref fI) = some (.type "function")
  kC : keepIn K (.ref C) = true
  exC : subIn K (.ref C) (.type "BaseException") = some true
  veC : subIn K (.ref C) (.type "ValueError") = some true
  tyC : typeIn K (.ref C) = some (.type "type")
  hdC : hasDictIn K C = true
  icl : isClsIn K C = true
  scC : subIn K (.ref C) (.ref C) = some true
  sup : ks_superIn K C D "__init__" = some (some (.builtin "ValueError.__init__"))
  mro : mroIn K C (.ref D) = some true
theorem one_size (v : Value) : [v].length ≤ sizeLine := by
  rw [sizeLine_eq]
  exact (by decide : 1 ≤ 16777216)
theorem ldX {M : Model} {s : Shared} {name : Str} {scope : Scope} {L a : Addr} {cd : Value} {cc : Addr} {m : Str → Option Value} {x : Str} {pos : Pos} {v : Value} {Q : Value → Shared → Prop} {A : Around} {E : Value → Shared → Prop} (hn : s.heap.Ns L m) (hv : m x = some v) (h : Q v s)
    (hk : scope.kind = .function := by rfl) (hl : (ksEnv name scope L a cd cc).kindOf x = some .local := by rfl) (hd : (x == ("__debug__" : Str)) = false := by decide) :
    wpAny M A (eval (.Name x pos) (ksEnv name scope L a cd cc)) Q E s := wpAny_Name (wpAny_loadName_local hk hl hn hv h) hd
/-- the bound ValueError.__init__ called: the args are laid anew -/
theorem call_mw {prog : Program} {w : World} {A : Around} {E : Value → Shared → Prop} {h : Heap} {g : Array GenState} {d : Drawn} {t : Nat} {os : OsState}
    {nm q : Str} {C N : Addr} {bs bm : List Value} {hdct : Bool} {sn : List Str} {sub : List Value} {ab : Bool} {col : Option Bool} {dd : Option Addr} {k0 k1 k2 k3 k5 : Option Value} {u e t0 : Addr} {rest : List Value} {Q : Value → Shared → Prop}
    (hC : h.get? C = some (excClassObj nm q C N bs bm hdct sn sub ab col dd k0 k1 k2 k3 k5 "ValueError.__new__")) (he : h.get? e = some (excO C t0)) (hu : h.get? u = some (kxs_mw "ValueError.__init__" e)) (hrest : rest.length ≤ sizeLine)
    (hq : ∀ h' t1, (∀ b o, b ≠ e → h.get? b = some o → h'.get? b = some o) → h'.get? e = some (excO C t1) → Q .none ⟨h', g, d, t, os⟩) :
    wpAny (model prog w) A (call (.ref u) rest) Q E ⟨h, g, d, t, os⟩ := by
  refine wpAny_call (codeAny_of_tree ?_)
  show wpAny _ A.in1 (callAny (.ref u) ⟨rest, []⟩) _ _ _
  simp only [callAny]
  refine wpAny_bind (wpAny_load hu ?_)
  simp only [kxs_mw, show (Value.type "method-wrapper" == Value.type "method" || Value.type "method-wrapper" == Value.type "builtin_function_or_method" || Value.type "method-wrapper" == Value.type "method-wrapper") = true by decide, if_true]
  refine KFB.if_so (by decide) ?_
  refine wpAny_bind (check_bound_init F.excBase_ValueError.toExcCallFacts hC he rfl ?_)
  refine wpAny_bind (wpAny_pure (wpAny_pure ?_))
  refine ⟨plainId_quiet F.excBase_ValueError.init.plain _, codeAny_builtin F.excBase_ValueError.initEntry ?_⟩
  rw [Around.under_plainId F.excBase_ValueError.init.plain _]
  wp_walk
  refine hq _ h.objs.size (fun b o hb ho => ?_) ?_
  · rw [Heap.get?_update_other _ _ (Ne.symm hb)]
    exact Heap.get?_push_of_some _ ho
  · rw [Heap.get?_update_self _ (Heap.get?_push_of_some _ he) rfl]
    rfl
/-- what __init__ leaves of a fresh exception at x -/
structure InitEnd (h h' : Heap) (x C dx : Addr) (v : Value) : Prop where
  keep : ∀ b o, b ≠ x → h.get? b = some o → h'.get? b = some o
  obj : ∃ t1 : Addr, h'.get? x = some { cls := .ref C, dict := some dx, data := .fields #[.ref t1, .none, .none, .none, .bool false, .none] }
  dbig : h.objs.size ≤ dx
  dne : dx ≠ x
  ns : h'.Ns1 dx (fun y => if y = "value" then some v else none)
/-- a made error -/
structure OwnMade (h h' : Heap) (e C d : Addr) (v : Value) : Prop where
  keep : ∀ b o, h.get? b = some o → h'.get? b = some o
  new : h.objs.size ≤ e
  obj : ∃ oe vs, h'.get? e = some oe ∧ oe.cls = .ref C ∧ oe.dict = some d ∧ oe.data = .fields vs ∧ vs[1]? = some .none
  dbig : h.objs.size ≤ d
  dne : d ≠ e
  ns : h'.Ns1 d (fun y => if y = "value" then some v else none)
section
variable {prog : Program} {w : World} {A : Around} {E : Value → Shared → Prop} {R : Result → Shared → Prop} {s : Shared} {K : Frag} {mg : Str → Option Value} {nm : Str} {C D fI : Addr}
theorem room_init (T : RoomTxt prog K mg D fI) (U : RoomCls K mg nm C D fI) {x t0 : Addr} {v : Value} (X : K.In s.heap) (hlim : s.heap.NoLimit) (hG : s.heap.Ns mainGlobals mg) (hB : ∃ mb, s.heap.Ns builtinsNs mb ∧ ∀ x : Str, x ≠ "__name__" → mb x = bootBuiltins x)
    (hx : s.heap.get? x = some (excO C t0)) (hnx : K.lookup x = none) (hroom : A.depth < recursionLimit)
    (hq : ∀ h' tk dx, InitEnd s.heap h' x C dx v → R (.ok (.ret .none)) { s with heap := h', toks := tk }) :
    codeAny (model prog w) A (.call (.ref fI) ⟨[.ref x, v], []⟩) R s := by
  obtain ⟨oc, od, doc, pm, an, cda, cc, ct, osl, p1, p2, q1, q2, q3, q4, q5, q6, r1, r2, r3, r4, ho, hcd, hline, ⟨ccl, cdd, cvs, ccs, file, tf, hcode, hvs, hfile⟩, ⟨cl, cld, csl, hcell⟩⟩ := T.fn
  obtain ⟨cn, q, N, bs, bm, sn, sub, ab, col, dd, k0, k1, k2, k3, k5, hC, hbm⟩ := U.cls
  obtain ⟨cdD, hD⟩ := T.cD
  obtain ⟨mb, hBn, hBx⟩ := hB
  have hcl : clsIn K C = some { name := cn, bases := bs, mro := .ref C :: bm, ns := N, qualname := q, hasDict := true, slotNames := sn, subclasses := sub, abstract := ab, collection := col, hasDel := false } := by unfold clsIn; rw [hC] <;> rfl
  refine ks_codeAny_call_defAt (fd := ksFn "__init__" "RoomError.__init__" (iA p1 p2) (iB q1 q2 q3 q4 q5 q6 r1 r2 r3 r4) iS .none .none doc pm an (.ref cda) ct cc) (body := iB q1 q2 q3 q4 q5 q6 r1 r2 r3 r4) (binds := [("self", .ref x), ("value", v)]) hroom (X _ _ ho) rfl hlim (codeRec_of X hcd) rfl
    (BindsTo.of_eq (by first | rfl | with_unfolding_all rfl)) (show ∀ x ∈ iS.names, x.2 ≠ NameKind.cell from by decide) (fun y hy => by
      rcases List.mem_cons.mp hy with rfl | hy
      · rfl
      rcases List.mem_cons.mp hy with rfl | hy
      · rfl
      · cases hy) (fun h₁ hn k => ?_) rfl rfl rfl
  have hxL : s.heap.objs.size ≠ x := Nat.ne_of_gt (Heap.lt_size hx)
  have X₁ : K.In h₁ := X.keeps k
  have hx₁ := k _ _ hx
  obtain ⟨hp, g, d, t, os⟩ := s
  show _root_.PySem.wpAt _ _ _ (execs (iB q1 q2 q3 q4 q5 q6 r1 r2 r3 r4) (ksEnv "RoomError.__init__" iS hp.objs.size fI (.ref cda) cc)) _ _ _
  have I₁ : InstAt h₁ x (excO C t0) C none := ⟨hx₁, rfl, rfl, trivial⟩
  obtain ⟨oD, hD1, hD2⟩ : ∃ oD, h₁.get? D = some oD ∧ oD.data = .cls cdD := by
    unfold clsIn at hD
    split at hD
    · rename_i c d cd' sl ho
      cases hD
      exact ⟨_, X₁ _ _ ho, rfl⟩
    · cases hD
  -- super().__init__(value)
  refine ks_wpAt_execs_cons (ks_wpAt_Expr_any (ks_wpAt_MethodCall (pl := (do return (← importBound (.Call (.Name "super" q1) [] [] q2) (ksEnv "RoomError.__init__" iS hp.objs.size fI (.ref cda) cc)).getD true)) ?_ ?he))
  case he =>
    show (do
      let ov ← attributeBase (.Call (.Name "super" q1) [] [] q2) "__init__" (ksEnv "RoomError.__init__" iS hp.objs.size fI (.ref cda) cc) (eval (.Call (.Name "super" q1) [] [] q2) (ksEnv "RoomError.__init__" iS hp.objs.size fI (.ref cda) cc))
      standAt q3.atName
      methodCall (.Call (.Name "super" q1) [] [] q2) "__init__" q3 q5 (ksEnv "RoomError.__init__" iS hp.objs.size fI (.ref cda) cc) ov 1 (backTo q5 (starEach [.Name "value" q4] (ksEnv "RoomError.__init__" iS hp.objs.size fI (.ref cda) cc))) []) = _
    have e1 : methodCallForm 1 (backTo q5 (starEach [.Name "value" q4] (ksEnv "RoomError.__init__" iS hp.objs.size fI (.ref cda) cc))) [] = true := rfl
    unfold methodCall methodCallPos calleeOf
    rw [e1]
    simp only [hline, if_true, Bool.not_true, Bool.or_true, pure_bind]
    try rfl
  refine ks_wpAt_super_base (env := ksEnv "RoomError.__init__" iS hp.objs.size fI (.ref cda) cc) (by rfl) (by rfl) (by decide) rfl (X₁ _ _ ho) rfl (ar := { arg := "self", annotation := none, pos := p1 }) rfl rfl (X₁ _ _ hcode) rfl hvs hfile T.mtop ?_
  refine ks_loadName_global rfl (by rfl) (loadGlobal_builtin (env := ksEnv "RoomError.__init__" iS hp.objs.size fI (.ref cda) cc) (hG.keeps k) T.msup (hBn.keeps k) ((hBx _ (by decide +kernel)).trans (by decide +kernel)) ⟨rfl, ?_⟩)
  refine wpAny_loadName_free rfl (by rfl) rfl ⟨_, X₁ _ _ hcell, rfl⟩ ?_
  refine wpAny_loadName_local rfl (by rfl) hn (by first | rfl | with_unfolding_all rfl | kernel_rfl) ?_
  refine ks_wpAny_isType_cls hD1 hD2 ⟨rfl, ?_⟩
  refine ks_wpAny_call_super hD1 hD2 I₁.at_ I₁.cls (fun c e => ?_) (looks_mroIn X₁ U.mro) (fun h₂ hso k₂ => ?_)
  · cases e
  have X₂ : K.In h₂ := X₁.keeps k₂
  have hx₂ := k₂ _ _ hx₁
  have I₂ : InstAt h₂ x (excO C t0) C none := ⟨hx₂, rfl, rfl, trivial⟩
  have hsup : alongIn K "__init__" (((.ref C :: bm : List Value).dropWhile (· != .ref D)).drop 1) = some (some (.builtin "ValueError.__init__")) := by
    have z := U.sup
    unfold ks_superIn at z
    rw [hcl] at z
    exact z
  refine kxs_getMethod kxs_ValueError hso (looks_opaque X₂ T.tp) (l₀ := .ref C :: bm) ?_ rfl X₂ hsup (I₂.type.andThen (looks_subIn X₂ U.veC)) (ks_ne X₂ I₂ hcl) (by decide) ?_
  · exact fun A Q E s k q => wpAny_bind ((looks_clsIn X₂ hcl) A _ E s k (wpAny_pure q))
  have k₃ : ∀ b o, h₂.get? b = some o → (h₂.push (kxs_mw "ValueError.__init__" x)).get? b = some o := fun b o e => Heap.get?_push_of_some _ e
  have hn₃ : (h₂.push (kxs_mw "ValueError.__init__" x)).Ns hp.objs.size (fun y => ([("self", .ref x), ("value", v)] : List (Str × Value)).reverse.lookup y) := (hn.keeps k₂).keeps k₃
  have hu₃ : (h₂.push (kxs_mw "ValueError.__init__" x)).get? h₂.objs.size = some (kxs_mw "ValueError.__init__" x) := Heap.get?_push_at rfl rfl
  dsimp only
  refine kxs_callWith (i := "ValueError.__init__") (x := x) rfl ?_
  rw [show starEach [Expr.Name "value" q4] (ksEnv "RoomError.__init__" iS hp.objs.size fI (.ref cda) cc) = [(false, eval (.Name "value" q4) (ksEnv "RoomError.__init__" iS hp.objs.size fI (.ref cda) cc))] from rfl]
  refine evalArgs_plain ?_
  refine Calls.spliced_cons (ldX (v := v) hn₃ (by first | rfl | with_unfolding_all rfl | kernel_rfl) (Calls.spliced_nil ⟨hu₃, ?_⟩))
  refine call_mw (e := x) (t0 := t0) (rest := [v]) (k₃ _ _ (X₂ _ _ hC)) (k₃ _ _ hx₂) hu₃ (one_size v) (fun h₄ t1 k₄ hx₄ => ?_)
  -- self.value = value
  have hn₄ : h₄.Ns hp.objs.size (fun y => ([("self", .ref x), ("value", v)] : List (Str × Value)).reverse.lookup y) := by
    obtain ⟨oL, es, ep, hL, r⟩ := hn₃
    exact ⟨oL, es, ep, k₄ _ _ hxL hL, r⟩
  have X₄ : K.In h₄ := fun a o e => k₄ a o (fun z => by rw [z, hnx] at e; cases e) (k₃ _ _ (X₂ a o e))
  refine wpAt_of_wpAny ?_
  refine wpAny_execs_cons (plainObj_wpAny_Assign_Attribute ?_)
  refine ldX (v := v) hn₄ (by first | rfl | with_unfolding_all rfl | kernel_rfl) (ldX (v := .ref x) hn₄ (by first | rfl | with_unfolding_all rfl | kernel_rfl) ?_)
  refine set_plain X₄ (ox := excO C t1) (od := none) ⟨hx₄, rfl, rfl, trivial⟩ U.sa ?_
  refine exc_osa X₄ hx₄ hcl (show refsVE (.ref C :: bm) = true from hbm) rfl U.noN (fun h₅ tk₅ dx k₅ dn dne hx₅ hn₅ => ?_)
  show wpAny _ _ (execs _ _) _ _ _
  have all : ∀ b o, b ≠ x → hp.get? b = some o → h₄.get? b = some o := fun b o hb e => k₄ b o hb (k₃ _ _ (k₂ _ _ (k b o e)))
  have sz : hp.objs.size ≤ h₄.objs.size := Nat.le_of_lt hn₄.lt
  exact wpAny_execs_nil (hq h₅ tk₅ dx ⟨fun b o hb e => k₅ b o hb (all b o hb e), ⟨t1, hx₅⟩, Nat.le_trans sz dn, dne, hn₅⟩)
theorem room_made (T : RoomTxt prog K mg D fI) (U : RoomCls K mg nm C D fI) {v : Value} (X : K.In s.heap) (hlim : s.heap.NoLimit) (hG : s.heap.Ns mainGlobals mg) (hB : ∃ mb, s.heap.Ns builtinsNs mb ∧ ∀ x : Str, x ≠ "__name__" → mb x = bootBuiltins x) (hroom : A.depth + 1 < recursionLimit)
    (hq : ∀ h' tk e d, OwnMade s.heap h' e C d v → R (.ok (.ret (.ref e))) { s with heap := h', toks := tk }) :
    codeAny (model prog w) A (.call (.ref C) ⟨[v], []⟩) R s := by
  obtain ⟨nm, q, N, bs, bm, sn, sub, ab, col, dd, k0, k1, k2, k3, k5, hC, hbm⟩ := U.cls
  obtain ⟨hp, g, dr, tk, os⟩ := s
  have k : ∀ b o, hp.get? b = some o → ((hp.push (kdv_tup [v])).push (excO C hp.objs.size)).get? b = some o := fun b o e => Heap.get?_push_of_some _ (Heap.get?_push_of_some _ e)
  have hget : ((hp.push (kdv_tup [v])).push (excO C hp.objs.size)).get? (hp.objs.size + 1) = some (excO C hp.objs.size) := by heap_get
  have hnx : K.lookup (hp.objs.size + 1) = none := by
    cases e : K.lookup (hp.objs.size + 1) with
    | none => rfl
    | some o =>
      have z : hp.get? (hp.objs.size + 1) = some o := X _ _ e
      exact absurd (Nat.lt_of_succ_lt (Heap.lt_size z)) (Nat.lt_irrefl _)
  obtain ⟨mb, hBn, hBx⟩ := hB
  refine call_own F.excBase_ValueError (fun X => refsVE_contains X bm hbm) (X _ _ hC) (looks_findIn X U.iC) (fun self => bind_fn X self U.tC) (one_size v) ?_
  refine room_init (s := ⟨(hp.push (kdv_tup [v])).push (excO C hp.objs.size), g, dr, tk, os⟩) T U (X.keeps k) (hlim.keeps k) (hG.keeps k) ⟨mb, hBn.keeps k, hBx⟩ hget hnx ?_ fun h' tk' dx ⟨k', ⟨t1, hx⟩, dn, dne, hns⟩ => ?_
  · show A.depth + 1 < recursionLimit
    exact hroom
  · have old : ∀ b o, hp.get? b = some o → h'.get? b = some o := fun b o e => k' b o (Nat.ne_of_lt (Nat.lt_succ_of_lt (Heap.lt_size e))) (k b o e)
    have z : hp.objs.size + 1 + 1 ≤ dx := by
      first
        | (simpa only [Heap.size_push] using dn)
        | exact dn
        | (have q := dn; rw [Heap.size_push, Heap.size_push] at q; exact q)
    exact ⟨rfl, hq h' tk' (hp.objs.size + 1) dx ⟨old, Nat.le_succ _, ⟨_, _, hx, rfl, rfl, rfl, rfl⟩, Nat.le_trans (Nat.le_trans (Nat.le_succ _) (Nat.le_succ _)) z, dne, hns⟩⟩
end
end RoomX
end PySem
namespace L2
open PySem PySem.Spec PyProof.Rows
theorem relO_one {f0 : Str} {v : V} {v' : Value} (r : RelV v v') (f : Str) : RelO (List.lookup f [(f0, v)]) (if f = f0 then some v' else none) := by
  by_cases hw : f = f0
  · subst hw
    rw [if_pos rfl]
    have q : List.lookup f [(f, v)] = some v := by simp [List.lookup]
    rw [q]
    exact r
  · rw [if_neg hw]
    have qw : (f == f0) = false := by simpa using hw
    have q2 : List.lookup f [(f0, v)] = none := by simp [List.lookup, qw]
    rw [q2]
    trivial
section
variable {X : Cx} {nm : Str} {C D fI : Addr}
/-- the dict of an error with this value -/
abbrev xval (v : V) : HO := .xd [(("value" : Str), v)]
/-- C(e) -/
def tMkRoom (C : Addr) (ta : TA) : St → Hp → XK → Prop := fun σ H Q => ta σ H fun vs H1 => ∃ v, vs = [v] ∧ ∀ d, H1 d = none → Q (.ref C) (some d) (upd H1 d (xval v))
theorem pmk_room {a : Expr} {ta : TA} {p pos : Pos} {k : Nat} (T : PySem.RoomX.RoomTxt X.prog X.K X.mg D fI) (U : PySem.RoomX.RoomCls X.K X.mg nm C D fI) (hr : Room k X.A) (ha : PA X [a] ta) (hg : Gl X nm := by rfl)
    (he : starEach (a :: []) X.env = (false, eval a X.env) :: starEach [] X.env := by rfl) (hpl : (backTo pos (starEach [] X.env)).any (·.1) = false := by rfl) (hdb : (nm == ("__debug__" : Str)) = false := by decide) :
    PMk X (.Call (.Name nm p) [a] [] pos) (tMkRoom C ta) := by
  intro pins s σ H Q I h
  refine wpAny_Call_Name_kw (ld_glob I hg U.gC ?_ hdb)
  refine PySem.W.callWith_K (h₀ := X.base) I.ok.mod.kin U.kC (thn (ha.run pos pins s σ H _ I h) fun us s1 hh => ?_) he hpl
  obtain ⟨vs, H1, I1, r1, v, ev, q1⟩ := hh
  subst ev
  refine ⟨I1.kIn, ?_⟩
  cases r1 with
  | cons rv rn =>
    rename_i v' us'
    cases rn
    show wpAny _ _ (call (.ref C) [v']) _ _ _
    have hlim := I1.nolimit
    have hG := I1.mod.glob.keeps I1.bk
    obtain ⟨mb, hBn, hBx⟩ := I1.mod.blt
    have hBn' := hBn.keeps I1.bk
    obtain ⟨hp, g, dr, tk, os⟩ := s1
    refine wpAny_call (PySem.RoomX.room_made T U I1.kIn hlim hG ⟨mb, hBn', hBx⟩ (by have := hr.dp; omega) fun h' tk' e d M => ?_)
    show MkP X pins σ Q (.ref e) ⟨h', g, dr, tk', os⟩
    obtain ⟨oe, fv, hoe, hc, hd, hdat, h1⟩ := M.obj
    have hns := M.ns
    obtain ⟨G', g1, g2⟩ := restrict h' fun b => decide (b ≠ e)
    have gk : ∀ b, b ≠ e → G'.get? b = h'.get? b := fun b hb => g1 b (decide_eq_true hb)
    have ge : G'.get? e = none := g2 e (by simp)
    have old : ∀ b o, hp.get? b = some o → G'.get? b = some o := fun b o q => (gk b (Nat.ne_of_lt (Nat.lt_of_lt_of_le (Heap.lt_size q) M.new))).trans (M.keep b o q)
    have ob : ObjOk X.prog X.w (upd H1 d (xval v)) G' d (xval v) :=
      ⟨_, hns.at (fun o q => (gk d M.dne).trans q), fun f => relO_one rv f⟩
    have J : Inv X pins σ (upd H1 d (xval v)) ⟨G', g, dr, tk', os⟩ := I1.laid (t' := tk') old M.dbig ob
    refine ⟨e, oe, fv, ⟨G', g, dr, tk', os⟩, _, .ref C, some d, rfl, J, fun b o q => ?_, ge, hoe, ⟨hc, hd⟩, hdat, h1, ?_, rfl, I1.bare, raises_own U.exC U.tyC, q1 d (I1.hok.fresh M.dbig)⟩
    · by_cases hb : b = e
      · have q' : G'.get? b = some o := q
        rw [hb, ge] at q'; cases q'
      · exact (gk b hb).symm.trans q
    · rw [upd_ne (Ne.symm M.dne)]
      exact I1.hok.fresh M.new
/-- raise C(e) -/
def tRaiseRoom (C : Addr) (W : WX) (ta : TA) : TS := fun _ σ H => tMkRoom C ta σ H fun cls d H' => W cls d σ H'
theorem ps_raiseRoom {a : Expr} {ta : TA} {W : WX} {p pos pos2 : Pos} {k : Nat} (hc : X.calm = true) (T : PySem.RoomX.RoomTxt X.prog X.K X.mg D fI) (U : PySem.RoomX.RoomCls X.K X.mg nm C D fI) (hr : Room k X.A) (tk : Takes X W) (ha : PA X [a] ta) (hg : Gl X nm := by rfl)
    (he : starEach (a :: []) X.env = (false, eval a X.env) :: starEach [] X.env := by rfl) (hpl : (backTo pos (starEach [] X.env)).any (·.1) = false := by rfl) (hdb : (nm == ("__debug__" : Str)) = false := by decide) :
    PS X (.Raise (some (.Call (.Name nm p) [a] [] pos)) none pos2) (tRaiseRoom C W ta) := ps_raise hc tk (pmk_room T U hr ha hg he hpl hdb)
/-- e.value, e the exception that the suite holds (at a; its class cls, its dict d) -/
def tValRoom (C : Addr) (a : Addr) (cls : Value) (d : Option Addr) (te : TE) : TE := fun σ H Q => te σ H fun x H1 => x = .ref a ∧ cls = .ref C ∧ ∃ (dd : Addr) (v : V), d = some dd ∧ H1 dd = some (xval v) ∧ Q v H1
theorem pe_valRoom {a : Addr} {oe : Obj} {cls : Value} {d : Option Addr} {pn : List (Addr × Obj)} {e : Expr} {te : TE} {pos : Pos} (U : PySem.RoomX.RoomCls X.K X.mg nm C D fI) (hz : Zc cls d oe) (hf : ∃ vs, oe.data = .fields vs) (he : PE (X.suite a ((a, oe) :: pn)) e te)
    (hb : attributeBase e "value" X.env (eval e X.env) = eval e X.env := by rfl) :
    PE (X.suite a ((a, oe) :: pn)) (.Attribute e "value" pos) (tValRoom C a cls d te) := by
  refine ⟨fun pins s σ H Q I h => ?_⟩
  refine attr_of hb (thn (he.run pins s σ H _ I h) fun u s1 hh => ?_)
  obtain ⟨x, H1, I1, rx, ex, ec, dd, v, ed, ea, q⟩ := hh
  subst ex
  obtain rfl : u = Value.ref a := rx
  subst ec
  subst ed
  obtain ⟨ha, _⟩ := I1.pin (a, oe) (List.mem_append_left _ List.mem_cons_self)
  obtain ⟨vs, hd⟩ := hf
  have hx : ObjOk X.prog X.w H1 s1.heap dd (xval v) := I1.hok dd _ ea
  obtain ⟨mA, hns, hr⟩ := hx
  obtain ⟨od, ho, hl⟩ := lookIn_ns hns
  have l : List.lookup ("value" : Str) [(("value" : Str), v)] = some v := by simp [List.lookup]
  obtain ⟨u, hu, ru⟩ := RelO.some_of (v := v) (o := mA "value") (by rw [← l]; exact hr "value")
  have J : PySem.W.InstAt s1.heap a oe C (some od) := ⟨ha, hz.1, by unfold PySem.W.notCls; rw [hd] <;> rfl, by rw [hz.2]; exact ho⟩
  exact HandSPX.exc_get I1.kIn J U.ga U.gg U.exC (PySem.W.findObj_own U.hdC U.noN rfl (by rw [hl, hu])) (handed_of ru) ⟨v, H1, I1.tok _, ru, q⟩
/-- what the class must say more, so that isinstance asks its instances rightly -/
structure RoomIs (K : PySem.W.Frag) (C : Addr) : Prop where
  ha : PySem.W.findIn K (.ref C) "__class__" = some (some (.builtin "object.__class__"))
  hn : PySem.W.specialIn K (.builtin "object.__class__") "__get__" = some (some (.builtin "getset_descriptor.__get__"))
  ht : PySem.W.takesIn K (.builtin "object.__class__") = some true
  hm : PySem.W.mroIn K C (.type "object") = some true
/-- isinstance(e, c), e the exception that the suite holds -/
def rIsR (K : PySem.W.Frag) (C a : Addr) (d : Option Addr) : List V → Hp → VK → Prop := fun xs H Q => ∃ (c : V) (cv : Value) (b : Bool) (dd : Addr) (fs : List (Str × V)), xs = [.ref a, c] ∧ (∀ u, RelV c u → u = cv) ∧ PySem.W.kitOne K (.ref C) cv = some b ∧ d = some dd ∧ H dd = some (.xd fs) ∧ Q (.bl b) H
theorem call_isR {a : Addr} {oe : Obj} {d : Option Addr} {pn : List (Addr × Obj)} (U : PySem.RoomX.RoomCls X.K X.mg nm C D fI) (Y : RoomIs X.K C) (hz : Zc (.ref C) d oe) (hf : ∃ vs, oe.data = .fields vs) : CallR (X.suite a ((a, oe) :: pn)) (.builtin "isinstance") (rIsR X.K C a d) := by
  intro pins s σ H xs us Q I r h
  obtain ⟨c, cv, b, dd, fs, rfl, hcv, e, ed, ea, q⟩ := h
  subst ed
  cases r with
  | cons rx rr =>
    cases rr with
    | cons rt rr =>
      cases rr
      cases rx
      have ec := hcv _ rt
      subst ec
      obtain ⟨hget, _⟩ := I.pin (a, oe) (List.mem_append.mpr (.inl List.mem_cons_self))
      obtain ⟨vs, hv⟩ := hf
      have hx : ObjOk X.prog X.w H s.heap dd (.xd fs) := I.hok dd _ ea
      obtain ⟨mA, hns, hr⟩ := hx
      obtain ⟨od, ho, hl⟩ := lookIn_ns hns
      have J : PySem.W.InstAt s.heap a oe C (some od) := ⟨hget, hz.1, by unfold PySem.W.notCls; rw [hv] <;> rfl, by rw [hz.2]; exact ho⟩
      have hcl : (PySem.W.clsIn X.K C).isSome = true := U.icl
      exact PySem.W.kia_one (PySem.W.kitx_exc hcl U.ga U.gg U.exC Y.ha Y.hn Y.ht Y.hm) I.kIn J e (fun z => nomatch z) fun tk => ⟨.bl b, H, I.kept (t' := tk) fun _ _ z => z, rfl, q⟩
end
end L2
set_option Elab.async false
set_option linter.all false
set_option maxRecDepth 100000
set_option maxHeartbeats 4000000
/-! Dv: readings over plain data. What a def does to data that nobody changes is told without the heap. -/
namespace Dv
open PySem L2
/-! ### data -/
inductive D where
  | non | bl (b : Bool) | int (i : Int) | str (x : Str) | lst (xs : List D) | tup (xs : List D) | obj (C : Addr) (fs : List (Str × D)) | dic (kvs : List (Key × D)) | scr (xs : List D)
/-- numbers of a pool -/
def PoolL (l : List V) : Prop := ∃ a b : Int, l = [.int a, .int b] ∧ 0 ≤ b ∧ b < 4294967296
/-- what may change (F), what holds all the time (I), the pools -/
structure Cfg where
  K : PySem.W.Frag
  F : Addr → Prop
  I : Hp → Prop
  pl : Addr → Prop
  mono : ∀ {H H' : Hp}, (∀ a o, H a = some o → H' a = some o) → I H → I H'
  live : ∀ {H : Hp} {a : Addr}, I H → F a → H a ≠ none
  plF : ∀ {p : Addr}, pl p → F p
  plAt : ∀ {H : Hp} {p : Addr}, I H → pl p → ∃ l, H p = some (.lst l) ∧ PoolL l
  plPut : ∀ {H : Hp} {p : Addr} {l : List V}, I H → pl p → PoolL l → I (upd H p (.lst l))
/-- a list, a tuple of the written part -/
def KL (K : PySem.W.Frag) (a : Addr) (xs : List V) : Prop := ∃ (o : Obj) (its : Array Value) (n : Nat), K.lookup a = some o ∧ o.cls = .type "list" ∧ o.dict = none ∧ o.data = .seq its n ∧ its.size ≤ sizeLine ∧ Vals xs its.toList
def KT (K : PySem.W.Frag) (a : Addr) (xs : List V) : Prop := ∃ (o : Obj) (its : Array Value) (n : Nat), K.lookup a = some o ∧ o.cls = .type "tuple" ∧ o.data = .seq its n ∧ its.size ≤ sizeLine ∧ Vals xs its.toList
def InL (c : Cfg) (H : Hp) (a : Addr) (xs : List V) : Prop := (¬ c.F a ∧ Rd H a (.lst xs)) ∨ KL c.K a xs
def InT (c : Cfg) (H : Hp) (a : Addr) (xs : List V) : Prop := (¬ c.F a ∧ Rd H a (.tup xs)) ∨ KT c.K a xs
theorem InL.sq {c : Cfg} {H : Hp} {a : Addr} {xs : List V} (h : InL c H a xs) : SqL c.K H a xs := h.elim (fun z => .inl z.2) .inr
theorem InT.sq {c : Cfg} {H : Hp} {a : Addr} {xs : List V} (h : InT c H a xs) : SqT c.K H a xs := h.elim (fun z => .inl z.2) .inr
mutual
inductive Rp (c : Cfg) (H : Hp) : V → D → Prop
  | non : Rp c H .non .non
  | bl (b : Bool) : Rp c H (.bl b) (.bl b)
  | int (i : Int) : Rp c H (.int i) (.int i)
  | str (x : Str) : Rp c H (.str x) (.str x)
  | lst {a : Addr} {xs : List V} {ds : List D} : ¬ c.F a → Rd H a (.lst xs) → RpAll c H xs ds → Rp c H (.ref a) (.lst ds)
  | scr {a : Addr} {xs : List V} {ds : List D} : InL c H a xs → RpAll c H xs ds → Rp c H (.ref a) (.scr ds)
  | tup {a : Addr} {xs : List V} {ds : List D} : InT c H a xs → RpAll c H xs ds → Rp c H (.ref a) (.tup ds)
  | obj {a C dx : Addr} {fs : List (Str × V)} {ds : List (Str × D)} : ¬ c.F a → H a = some (.ins C dx fs) → RpFs c H fs ds → Rp c H (.ref a) (.obj C ds)
  | dic {a : Addr} {kvs : List (Key × V)} {ds : List (Key × D)} : ¬ c.F a → Rd H a (.dK kvs) → RpKv c H kvs ds → Rp c H (.ref a) (.dic ds)
inductive RpAll (c : Cfg) (H : Hp) : List V → List D → Prop
  | nil : RpAll c H [] []
  | cons {v : V} {d : D} {vs : List V} {ds : List D} : Rp c H v d → RpAll c H vs ds → RpAll c H (v :: vs) (d :: ds)
inductive RpFs (c : Cfg) (H : Hp) : List (Str × V) → List (Str × D) → Prop
  | nil : RpFs c H [] []
  | cons {n : Str} {v : V} {d : D} {vs : List (Str × V)} {ds : List (Str × D)} : Rp c H v d → RpFs c H vs ds → RpFs c H ((n, v) :: vs) ((n, d) :: ds)
inductive RpKv (c : Cfg) (H : Hp) : List (Key × V) → List (Key × D) → Prop
  | nil : RpKv c H [] []
  | cons {n : Key} {v : V} {d : D} {vs : List (Key × V)} {ds : List (Key × D)} : Rp c H v d → RpKv c H vs ds → RpKv c H ((n, v) :: vs) ((n, d) :: ds)
end
/-- what stands outside of F stands -/
def Kp (F : Addr → Prop) (H H' : Hp) : Prop := ∀ a o, ¬ F a → H a = some o → H' a = some o
structure Go (c : Cfg) (H H' : Hp) : Prop where
  keep : Kp c.F H H'
  inv : c.I H'
theorem Kp.self {F : Addr → Prop} {H : Hp} : Kp F H H := fun _ _ _ e => e
theorem Kp.trans {F : Addr → Prop} {H H1 H2 : Hp} (a : Kp F H H1) (b : Kp F H1 H2) : Kp F H H2 := fun x o n e => b x o n (a x o n e)
theorem Kp.le {F G : Addr → Prop} {H H1 : Hp} (h : ∀ a, F a → G a) (a : Kp F H H1) : Kp G H H1 := fun x o n e => a x o (fun z => n (h x z)) e
theorem Go.self {c : Cfg} {H : Hp} (h : c.I H) : Go c H H := ⟨Kp.self, h⟩
theorem Go.trans {c : Cfg} {H H1 H2 : Hp} (a : Go c H H1) (b : Go c H1 H2) : Go c H H2 := ⟨a.keep.trans b.keep, b.inv⟩
theorem Kp.new {F : Addr → Prop} {H : Hp} {p : Addr} {o : HO} (h : H p = none) : Kp F H (upd H p o) := fun a u _ e => by
  rw [upd_ne (ne_of_none e h)]
  exact e
theorem Go.new {c : Cfg} {H : Hp} {p : Addr} {o : HO} (hi : c.I H) (h : H p = none) : Go c H (upd H p o) := ⟨Kp.new h, c.mono (fun a u e => by
  rw [upd_ne (ne_of_none e h)]
  exact e) hi⟩
theorem Cfg.fresh (c : Cfg) {H : Hp} {p : Addr} (hi : c.I H) (h : H p = none) : ¬ c.F p := fun z => c.live hi z h
theorem rd_kp {F : Addr → Prop} {H H' : Hp} {a : Addr} {u : HO} (k : Kp F H H') (n : ¬ F a) (h : Rd H a u) : Rd H' a u := by
  rcases h with h | ⟨o, h⟩
  · exact .inl (k a _ n h)
  · exact .inr ⟨o, k a _ n h⟩
theorem InL.to {c c' : Cfg} {H H' : Hp} {a : Addr} {xs : List V} (eK : c'.K = c.K) (lF : ∀ a, c'.F a → c.F a) (k : Kp c.F H H') (h : InL c H a xs) : InL c' H' a xs := by
  rcases h with ⟨n, h⟩ | h
  · exact .inl ⟨fun z => n (lF _ z), rd_kp k n h⟩
  · exact .inr (by rw [eK]; exact h)
theorem InT.to {c c' : Cfg} {H H' : Hp} {a : Addr} {xs : List V} (eK : c'.K = c.K) (lF : ∀ a, c'.F a → c.F a) (k : Kp c.F H H') (h : InT c H a xs) : InT c' H' a xs := by
  rcases h with ⟨n, h⟩ | h
  · exact .inl ⟨fun z => n (lF _ z), rd_kp k n h⟩
  · exact .inr (by rw [eK]; exact h)
/-- the data stay, in a greater heap, seen with less that may change -/
theorem Rp.to {c c' : Cfg} {H H' : Hp} {v : V} {d : D} (eK : c'.K = c.K) (lF : ∀ a, c'.F a → c.F a) (k : Kp c.F H H') (h : Rp c H v d) : Rp c' H' v d := by
  refine Rp.rec (motive_1 := fun v d _ => Rp c' H' v d) (motive_2 := fun vs ds _ => RpAll c' H' vs ds) (motive_3 := fun vs ds _ => RpFs c' H' vs ds) (motive_4 := fun vs ds _ => RpKv c' H' vs ds)
    .non .bl .int .str ?_ ?_ ?_ ?_ ?_ .nil ?_ .nil ?_ .nil ?_ h
  · intro a xs ds n s _ r
    exact .lst (fun z => n (lF _ z)) (rd_kp k n s) r
  · intro a xs ds s _ r
    exact .scr (s.to eK lF k) r
  · intro a xs ds s _ r
    exact .tup (s.to eK lF k) r
  · intro a C dx fs ds n s _ r
    exact .obj (fun z => n (lF _ z)) (k _ _ n s) r
  · intro a kvs ds n s _ r
    exact .dic (fun z => n (lF _ z)) (rd_kp k n s) r
  · intro v d vs ds _ _ a b
    exact .cons a b
  · intro n v d vs ds _ _ a b
    exact .cons a b
  · intro n v d vs ds _ _ a b
    exact .cons a b
theorem RpAll.to {c c' : Cfg} {H H' : Hp} (eK : c'.K = c.K) (lF : ∀ a, c'.F a → c.F a) (k : Kp c.F H H') : ∀ {vs : List V} {ds : List D}, RpAll c H vs ds → RpAll c' H' vs ds
  | _, _, .nil => .nil
  | _, _, .cons a b => .cons (a.to eK lF k) (b.to eK lF k)
theorem RpFs.to {c c' : Cfg} {H H' : Hp} (eK : c'.K = c.K) (lF : ∀ a, c'.F a → c.F a) (k : Kp c.F H H') : ∀ {vs : List (Str × V)} {ds : List (Str × D)}, RpFs c H vs ds → RpFs c' H' vs ds
  | _, _, .nil => .nil
  | _, _, .cons a b => .cons (a.to eK lF k) (b.to eK lF k)
theorem Rp.go {c : Cfg} {H H' : Hp} {v : V} {d : D} (h : Rp c H v d) (k : Kp c.F H H') : Rp c H' v d := h.to (Eq.refl _) (fun _ z => z) k
theorem RpAll.go {c : Cfg} {H H' : Hp} {vs : List V} {ds : List D} (h : RpAll c H vs ds) (k : Kp c.F H H') : RpAll c H' vs ds := h.to (Eq.refl _) (fun _ z => z) k
theorem RpAll.length {c : Cfg} {H : Hp} : ∀ {vs : List V} {ds : List D}, RpAll c H vs ds → vs.length = ds.length
  | _, _, .nil => rfl
  | _, _, .cons _ b => congrArg (· + 1) b.length
theorem RpAll.get {c : Cfg} {H : Hp} : ∀ {vs : List V} {ds : List D} {i : Nat} {d : D}, RpAll c H vs ds → ds[i]? = some d → ∃ v, vs[i]? = some v ∧ Rp c H v d
  | _, _, _, _, .nil, e => by simp at e
  | _, _, 0, _, .cons a _, e => by
    simp at e
    subst e
    exact ⟨_, rfl, a⟩
  | _, _, i + 1, d, .cons _ b, e => by
    obtain ⟨v, h1, h2⟩ := RpAll.get (i := i) (d := d) b (by simpa using e)
    exact ⟨v, by simpa using h1, h2⟩
theorem RpAll.getV {c : Cfg} {H : Hp} : ∀ {vs : List V} {ds : List D} {i : Nat} {v : V}, RpAll c H vs ds → vs[i]? = some v → ∃ d, ds[i]? = some d ∧ Rp c H v d
  | _, _, _, _, .nil, e => by simp at e
  | _, _, 0, _, .cons a _, e => by
    simp at e
    subst e
    exact ⟨_, rfl, a⟩
  | _, _, i + 1, d, .cons _ b, e => by
    obtain ⟨v, h1, h2⟩ := RpAll.getV (i := i) (v := d) b (by simpa using e)
    exact ⟨v, by simpa using h1, h2⟩
theorem RpAll.append {c : Cfg} {H : Hp} : ∀ {vs ws : List V} {ds es : List D}, RpAll c H vs ds → RpAll c H ws es → RpAll c H (vs ++ ws) (ds ++ es)
  | _, _, _, _, .nil, s => s
  | _, _, _, _, .cons a b, s => .cons a (RpAll.append b s)
/-- what an error carries: its fields, None if it has no dict -/
abbrev XP := Option (List (Str × D))
def XOk (c : Cfg) (H : Hp) : Option Addr → XP → Prop
  | some dd, some fs => ∃ vs, ¬ c.F dd ∧ H dd = some (.xd vs) ∧ RpFs c H vs fs
  | none, none => True
  | _, _ => False
theorem XOk.to {c c' : Cfg} {H H' : Hp} {d : Option Addr} {p : XP} (eK : c'.K = c.K) (lF : ∀ a, c'.F a → c.F a) (k : Kp c.F H H') (h : XOk c H d p) : XOk c' H' d p := by
  cases d <;> cases p <;> first | exact h | skip
  obtain ⟨vs, n, e, r⟩ := h
  exact ⟨vs, fun z => n (lF _ z), k _ _ n e, r.to eK lF k⟩
/-! ### slots -/
inductive Sl where
  | any | v (x : V) | d (x : D) | pool | ex (a : Addr) (cls : Value) (dd : Option Addr) (p : XP)
def SlOk (c : Cfg) (H : Hp) (o : Option V) : Sl → Prop
  | .any => True
  | .v x => o = some x
  | .d x => ∃ v, o = some v ∧ Rp c H v x
  | .pool => ∃ p, o = some (.ref p) ∧ c.pl p
  | .ex a _ dd p => o = some (.ref a) ∧ XOk c H dd p
abbrev Gm := List Sl
structure StOk (c : Cfg) (σ : St) (H : Hp) (Γ : Gm) : Prop where
  inv : c.I H
  len : σ.length = Γ.length
  at_ : ∀ (i : Nat) (o : Option V) (s : Sl), σ[i]? = some o → Γ[i]? = some s → SlOk c H o s
theorem SlOk.to {c c' : Cfg} {H H' : Hp} {o : Option V} {s : Sl} (eK : c'.K = c.K) (lF : ∀ a, c'.F a → c.F a) (lp : ∀ a, c.pl a → c'.pl a) (k : Kp c.F H H') (h : SlOk c H o s) : SlOk c' H' o s := by
  cases s with
  | any => trivial
  | v x => exact h
  | d x =>
    obtain ⟨v, e, r⟩ := h
    exact ⟨v, e, r.to eK lF k⟩
  | pool =>
    obtain ⟨p, e, r⟩ := h
    exact ⟨p, e, lp _ r⟩
  | ex a cls dd p => exact ⟨h.1, h.2.to eK lF k⟩
theorem SlOk.go {c : Cfg} {H H' : Hp} {o : Option V} {s : Sl} (h : SlOk c H o s) (k : Kp c.F H H') : SlOk c H' o s := h.to rfl (fun _ z => z) (fun _ z => z) k
theorem StOk.go {c : Cfg} {σ : St} {H H' : Hp} {Γ : Gm} (h : StOk c σ H Γ) (g : Go c H H') : StOk c σ H' Γ := ⟨g.inv, h.len, fun i o s a b => (h.at_ i o s a b).go g.keep⟩
theorem StOk.set {c : Cfg} {σ : St} {H : Hp} {Γ : Gm} {i : Nat} {o : Option V} {s : Sl} (h : StOk c σ H Γ) (q : SlOk c H o s) : StOk c (σ.set i o) H (Γ.set i s) := by
  refine ⟨h.inv, by rw [List.length_set, List.length_set]; exact h.len, fun j o' s' a b => ?_⟩
  rw [List.getElem?_set] at a b
  by_cases e : i = j
  · subst e
    by_cases l : i < σ.length
    · have l' : i < Γ.length := by rw [← h.len]; exact l
      simp only [l, l', if_true] at a b
      cases a
      cases b
      exact q
    · simp [l] at a
  · simp only [e, if_false] at a b
    exact h.at_ j o' s' a b
/-- a wider view -/
structure Le (c c' : Cfg) : Prop where
  K : c'.K = c.K
  F : ∀ a, c.F a → c'.F a
  I : ∀ H, c'.I H → c.I H
  pl : ∀ a, c'.pl a → c.pl a
theorem SlOk.le {c c' : Cfg} {H : Hp} {o : Option V} {s : Sl} (l : Le c c') (h : SlOk c' H o s) : SlOk c H o s := h.to l.K.symm l.F l.pl Kp.self
theorem StOk.le {c c' : Cfg} {σ : St} {H : Hp} {Γ : Gm} (l : Le c c') (h : StOk c' σ H Γ) : StOk c σ H Γ := ⟨l.I _ h.inv, h.len, fun i o s a b => (h.at_ i o s a b).le l⟩
theorem Rp.le {c c' : Cfg} {H : Hp} {v : V} {d : D} (l : Le c c') (h : Rp c' H v d) : Rp c H v d := h.to l.K.symm l.F Kp.self
/-- something more holds all the time -/
def Cfg.wth (c : Cfg) (φ : Hp → Prop) (hφ : ∀ {H H' : Hp}, Kp c.F H H' → φ H → φ H') : Cfg where
  K := c.K
  F := c.F
  I := fun H => c.I H ∧ φ H
  pl := c.pl
  mono := fun k h => ⟨c.mono k h.1, hφ (fun a o _ e => k a o e) h.2⟩
  live := fun h z => c.live h.1 z
  plF := c.plF
  plAt := fun h z => c.plAt h.1 z
  plPut := fun {H p l} h z q => ⟨c.plPut h.1 z q, hφ (fun a o n e => by
    rw [upd_ne (fun y => n (by rw [y]; exact c.plF z))]
    exact e) h.2⟩
theorem Le.wth {c : Cfg} {φ : Hp → Prop} {hφ : ∀ {H H' : Hp}, Kp c.F H H' → φ H → φ H'} : Le c (c.wth φ hφ) := ⟨rfl, fun _ z => z, fun _ h => h.1, fun _ z => z⟩
theorem StOk.wth {c : Cfg} {φ : Hp → Prop} {hφ : ∀ {H H' : Hp}, Kp c.F H H' → φ H → φ H'} {σ : St} {H : Hp} {Γ : Gm} (h : StOk c σ H Γ) (q : φ H) : StOk (c.wth φ hφ) σ H Γ :=
  ⟨⟨h.inv, q⟩, h.len, fun i o s a b => SlOk.to (c := c) (c' := c.wth φ hφ) rfl (fun _ z => z) (fun _ z => z) Kp.self (h.at_ i o s a b)⟩
/-- the heap without a -/
def rem (H : Hp) (a : Addr) : Hp := fun b => if b = a then none else H b
theorem rem_ne {H : Hp} {a b : Addr} (h : b ≠ a) : rem H a b = H b := if_neg h
theorem rem_same {H : Hp} {a : Addr} : rem H a a = none := if_pos rfl
theorem rem_sub {H : Hp} {a b : Addr} {o : HO} (h : rem H a b = some o) : b ≠ a ∧ H b = some o := by
  by_cases e : b = a
  · rw [e, rem_same] at h
    cases h
  · rw [rem_ne e] at h
    exact ⟨e, h⟩
theorem rem_upd {H : Hp} {a : Addr} {o : HO} : rem (upd H a o) a = rem H a := by
  funext b
  by_cases e : b = a
  · rw [e, rem_same, rem_same]
  · rw [rem_ne e, rem_ne e, upd_ne e]
theorem rem_new {H : Hp} {a : Addr} (n : H a = none) : rem H a = H := by
  funext b
  by_cases e : b = a
  · rw [e, rem_same, n]
  · rw [rem_ne e]
theorem rem_upd_ne {H : Hp} {a p : Addr} {o : HO} (h : p ≠ a) : rem (upd H p o) a = upd (rem H a) p o := by
  funext b
  by_cases e : b = a
  · rw [e, rem_same, upd_ne (Ne.symm h), rem_same]
  · by_cases e2 : b = p
    · rw [rem_ne e, e2, upd_same, upd_same]
    · rw [rem_ne e, upd_ne e2, upd_ne e2, rem_ne e]
/-- one address more may change; now it holds o -/
def Cfg.own (c : Cfg) (a : Addr) (o : HO) (ha : ¬ c.pl a) : Cfg where
  K := c.K
  F := fun b => c.F b ∨ b = a
  I := fun H => c.I (rem H a) ∧ H a = some o
  pl := c.pl
  mono := fun {H H'} k h => ⟨c.mono (fun b u e => by
    obtain ⟨n, e⟩ := rem_sub e
    rw [rem_ne n]
    exact k b u e) h.1, k a o h.2⟩
  live := fun {H b} h z => by
    rcases z with z | z
    · intro y
      refine c.live h.1 z ?_
      by_cases e : b = a
      · rw [e, rem_same]
      · rw [rem_ne e]
        exact y
    · rw [z, h.2]
      exact fun y => nomatch y
  plF := fun z => .inl (c.plF z)
  plAt := fun h z => by
    obtain ⟨l, e, r⟩ := c.plAt h.1 z
    exact ⟨l, (rem_sub e).2, r⟩
  plPut := fun {H p l} h z q => by
    have n : p ≠ a := fun e => ha (by rw [← e]; exact z)
    refine ⟨?_, by rw [upd_ne (Ne.symm n)]; exact h.2⟩
    rw [rem_upd_ne n]
    exact c.plPut h.1 z q
theorem Le.own {c : Cfg} {a : Addr} {o : HO} {ha : ¬ c.pl a} : Le c (c.own a o ha) := ⟨rfl, fun _ z => .inl z, fun _ h => c.mono (fun _ _ e => (rem_sub e).2) h.1, fun _ z => z⟩
theorem Cfg.noPl (c : Cfg) {H : Hp} {p : Addr} (hi : c.I H) (h : H p = none) : ¬ c.pl p := fun z => c.fresh hi h (c.plF z)
/-- data that stand while a is new are seen so with a that may change -/
theorem Rp.own {c : Cfg} {H : Hp} {v : V} {d : D} {a : Addr} {o : HO} {ha : ¬ c.pl a} (n : H a = none) (h : Rp c H v d) : Rp (c.own a o ha) H v d := by
  have no : ∀ {b : Addr} {u : HO}, Rd H b u → b ≠ a := fun {b u} z e => by
    subst e
    rcases z with z | ⟨_, z⟩ <;> (rw [n] at z; cases z)
  refine Rp.rec (motive_1 := fun v d _ => Rp (c.own a o ha) H v d) (motive_2 := fun vs ds _ => RpAll (c.own a o ha) H vs ds) (motive_3 := fun vs ds _ => RpFs (c.own a o ha) H vs ds) (motive_4 := fun vs ds _ => RpKv (c.own a o ha) H vs ds)
    .non .bl .int .str ?_ ?_ ?_ ?_ ?_ .nil ?_ .nil ?_ .nil ?_ h
  · intro b xs ds m s _ r
    exact .lst (fun z => z.elim m fun e => no s e) s r
  · intro b xs ds s _ r
    exact .scr (s.elim (fun z => .inl ⟨fun y => y.elim z.1 (no z.2), z.2⟩) .inr) r
  · intro b xs ds s _ r
    exact .tup (s.elim (fun z => .inl ⟨fun y => y.elim z.1 (no z.2), z.2⟩) .inr) r
  · intro b C dx fs ds m s _ r
    exact .obj (fun z => z.elim m fun e => no (.inl s) e) s r
  · intro b kvs ds m s _ r
    exact .dic (fun z => z.elim m fun e => no s e) s r
  · intro v d vs ds _ _ a b
    exact .cons a b
  · intro n v d vs ds _ _ a b
    exact .cons a b
  · intro n v d vs ds _ _ a b
    exact .cons a b
theorem RpAll.own {c : Cfg} {H : Hp} {a : Addr} {o : HO} {ha : ¬ c.pl a} (n : H a = none) : ∀ {vs : List V} {ds : List D}, RpAll c H vs ds → RpAll (c.own a o ha) H vs ds
  | _, _, .nil => .nil
  | _, _, .cons r t => .cons (r.own n) (RpAll.own n t)
theorem RpAll.le {c c' : Cfg} {H : Hp} (l : Le c c') {vs : List V} {ds : List D} (h : RpAll c' H vs ds) : RpAll c H vs ds := h.to l.K.symm l.F Kp.self
theorem RpFs.own {c : Cfg} {H : Hp} {a : Addr} {o : HO} {ha : ¬ c.pl a} (n : H a = none) : ∀ {vs : List (Str × V)} {ds : List (Str × D)}, RpFs c H vs ds → RpFs (c.own a o ha) H vs ds
  | _, _, .nil => .nil
  | _, _, .cons r t => .cons (r.own n) (RpFs.own n t)
theorem XOk.own {c : Cfg} {H : Hp} {a : Addr} {o : HO} {ha : ¬ c.pl a} {d : Option Addr} {p : XP} (n : H a = none) (h : XOk c H d p) : XOk (c.own a o ha) H d p := by
  cases d <;> cases p <;> first | exact h | skip
  obtain ⟨vs, m, e, r⟩ := h
  refine ⟨vs, fun z => z.elim m fun y => ?_, e, r.own n⟩
  rw [y, n] at e
  cases e
theorem SlOk.own {c : Cfg} {H : Hp} {a : Addr} {o : HO} {ha : ¬ c.pl a} {u : Option V} {s : Sl} (n : H a = none) (h : SlOk c H u s) : SlOk (c.own a o ha) H u s := by
  cases s with
  | any => trivial
  | v x => exact h
  | d x =>
    obtain ⟨v, e, r⟩ := h
    exact ⟨v, e, r.own n⟩
  | pool => exact h
  | ex b cls dd p => exact ⟨h.1, h.2.own n⟩
theorem StOk.own {c : Cfg} {σ : St} {H : Hp} {Γ : Gm} {a : Addr} {o : HO} {ha : ¬ c.pl a} (h : StOk c σ H Γ) (n : H a = none) : StOk (c.own a o ha) σ (upd H a o) Γ := by
  refine ⟨⟨by rw [rem_upd, rem_new n]; exact h.inv, upd_same⟩, h.len, fun i o' s e1 e2 => ?_⟩
  exact ((h.at_ i o' s e1 e2).own (o := o) (ha := ha) n).go (Kp.new n)
/-- what a holds is changed -/
theorem StOk.put {c : Cfg} {σ : St} {H : Hp} {Γ : Gm} {a : Addr} {o o' : HO} {ha : ¬ c.pl a} (h : StOk (c.own a o ha) σ H Γ) : StOk (c.own a o' ha) σ (upd H a o') Γ := by
  refine ⟨⟨by rw [rem_upd]; exact h.inv.1, upd_same⟩, h.len, fun i u s e1 e2 => ?_⟩
  have z := h.at_ i u s e1 e2
  have kk : Kp (c.own a o ha).F H (upd H a o') := fun b u nb e => by
    rw [upd_ne (fun y => nb (.inr y))]
    exact e
  exact SlOk.to (c := c.own a o ha) (c' := c.own a o' ha) rfl (fun _ z => z) (fun _ z => z) kk z
end Dv
set_option Elab.async false
set_option linter.all false
set_option maxRecDepth 100000
set_option maxHeartbeats 4000000
/-! De: expressions over plain data. -/
namespace Dv
open PySem L2
abbrev DK := Sl → Prop
abbrev DE := Gm → DK → Prop
abbrev DA := Gm → (List Sl → Prop) → Prop
abbrev DT := Gm → (Bool → Prop) → Prop
abbrev XW := Addr → XP → Gm → Prop
/-- W wants of an error no more than what xw tells -/
def WOk (c : Cfg) (W : WX) (xw : XW) : Prop := ∀ σ H Γ C d p, StOk c σ H Γ → XOk c H d p → xw C p Γ → W (.ref C) d σ H
theorem XOk.le {c c' : Cfg} {H : Hp} {d : Option Addr} {p : XP} (l : Le c c') (h : XOk c' H d p) : XOk c H d p := h.to l.K.symm l.F Kp.self
theorem WOk.le {c c' : Cfg} {W : WX} {xw : XW} (l : Le c c') (h : WOk c W xw) : WOk c' W xw := fun σ H Γ C d p s x q => h σ H Γ C d p (s.le l) (x.le l) q
def W0 : WX := fun _ _ _ _ => False
def xw0 : XW := fun _ _ _ => False
theorem WOk.zero {c : Cfg} {W : WX} : WOk c W xw0 := fun _ _ _ _ _ _ _ _ z => z.elim
def EvS (c : Cfg) (te : TE) (Γ : Gm) (k : DK) : Prop := ∀ σ H, StOk c σ H Γ → ∀ Q : VK, (∀ v s H2, Go c H H2 → SlOk c H2 (some v) s → k s → Q v H2) → te σ H Q
def EvAs (c : Cfg) (ta : TA) (Γ : Gm) (k : List Sl → Prop) : Prop := ∀ σ H, StOk c σ H Γ → ∀ Q : List V → Hp → Prop, (∀ vs ss H2, Go c H H2 → Paired (fun v s => SlOk c H2 (some v) s) vs ss → k ss → Q vs H2) → ta σ H Q
def EvTs (c : Cfg) (tt : TT) (Γ : Gm) (k : Bool → Prop) : Prop := ∀ σ H, StOk c σ H Γ → ∀ Q : Bool → Hp → Prop, (∀ b H2, Go c H H2 → k b → Q b H2) → tt σ H Q
def Li (K : PySem.W.Frag) (W : WX) (xw : XW) (te : TE) (de : DE) : Prop := ∀ c : Cfg, c.K = K → WOk c W xw → ∀ Γ k, de Γ k → EvS c te Γ k
def LiA (K : PySem.W.Frag) (W : WX) (xw : XW) (ta : TA) (da : DA) : Prop := ∀ c : Cfg, c.K = K → WOk c W xw → ∀ Γ k, da Γ k → EvAs c ta Γ k
def LiT (K : PySem.W.Frag) (W : WX) (xw : XW) (tt : TT) (dt : DT) : Prop := ∀ c : Cfg, c.K = K → WOk c W xw → ∀ Γ k, dt Γ k → EvTs c tt Γ k
structure PD (X : Cx) (W : WX) (xw : XW) (e : Expr) (te : TE) (de : DE) : Prop where
  pe : Takes X W → PE X e te
  li : Li X.K W xw te de
structure PDA (X : Cx) (W : WX) (xw : XW) (es : List Expr) (ta : TA) (da : DA) : Prop where
  pa : Takes X W → PA X es ta
  li : LiA X.K W xw ta da
structure PDT (X : Cx) (W : WX) (xw : XW) (e : Expr) (tt : TT) (dt : DT) : Prop where
  pt : Takes X W → PT X e tt
  li : LiT X.K W xw tt dt
structure PDW (X : Cx) (W : WX) (xw : XW) (e : Expr) (tt : TT) (dt : DT) : Prop where
  pw : Takes X W → PW X e tt
  li : LiT X.K W xw tt dt
/-! ### names and constants -/
def dVar (i : Nat) : DE := fun Γ k => match Γ[i]? with
  | some (.v x) => k (.v x)
  | some (.d x) => k (.d x)
  | some .pool => k .pool
  | some (.ex a cls dd p) => k (.ex a cls dd p)
  | _ => False
def dC (d : D) : DE := fun _ k => k (.d d)
def dR (v : V) : DE := fun _ k => k (.v v)
section
variable {X : Cx} {W : WX} {xw : XW} {K : PySem.W.Frag}
theorem sl_some {c : Cfg} {H : Hp} {o : Option V} {s : Sl} (h : SlOk c H o s) (n : s ≠ .any) : ∃ v, o = some v := by
  cases s with
  | any => exact absurd rfl n
  | v x => exact ⟨x, h⟩
  | d x =>
    obtain ⟨v, e, _⟩ := h
    exact ⟨v, e⟩
  | pool =>
    obtain ⟨p, e, _⟩ := h
    exact ⟨_, e⟩
  | ex a cls dd p => exact ⟨_, h.1⟩
theorem li_var {i : Nat} : Li K W xw (tVar i) (dVar i) := fun c eK hW Γ k h σ H st Q q => by
  have key : ∀ s, Γ[i]? = some s → s ≠ .any → k s → tVar i σ H Q := fun s e n ks => by
    have l : i < Γ.length := (List.getElem?_eq_some_iff.mp e).1
    have l' : i < σ.length := by rw [st.len]; exact l
    have e' : σ[i]? = some σ[i] := List.getElem?_eq_some_iff.mpr ⟨l', rfl⟩
    have z := st.at_ i _ s e' e
    obtain ⟨v, ev⟩ := sl_some z n
    refine ⟨v, by rw [e', ev], q v s H (Go.self st.inv) (by rw [← ev]; exact z) ks⟩
  unfold dVar at h
  split at h
  · rename_i x e
    exact key _ e (by simp) h
  · rename_i x e
    exact key _ e (by simp) h
  · rename_i e
    exact key _ e (by simp) h
  · rename_i e
    exact key _ e (by simp) h
  · exact h.elim
theorem li_c {v : V} {d : D} (r : ∀ c H, Rp c H v d) : Li K W xw (tC v) (dC d) := fun c eK hW Γ k h σ H st Q q => q v (.d d) H (Go.self st.inv) ⟨v, rfl, r c H⟩ h
theorem li_r {v : V} : Li K W xw (tC v) (dR v) := fun c eK hW Γ k h σ H st Q q => q v (.v v) H (Go.self st.inv) rfl h
theorem pd_v (i : Nat) {x : Str} {pos : Pos} (hN : X.N[i]? = some x := by rfl) (hv : Vis X.env.scope x := by first | exact Or.inl rfl | exact Or.inr (Or.inl rfl) | exact Or.inr (Or.inr rfl)) (hd : (x == ("__debug__" : Str)) = false := by decide) (hcd : (x == ("__classdict__" : Str)) = false := by decide) :
    PD X W xw (.Name x pos) (tVar i) (dVar i) := ⟨fun tk => pe_var hN hv hd hcd, li_var⟩
theorem pd_int {i j pos} : PD X W xw (.Constant (.int i) j pos) (tC (.int i)) (dC (.int i)) := ⟨fun tk => pe_int, li_c fun _ _ => .int _⟩
theorem pd_bl {i j pos} : PD X W xw (.Constant (.bool i) j pos) (tC (.bl i)) (dC (.bl i)) := ⟨fun tk => pe_bl, li_c fun _ _ => .bl _⟩
theorem pd_str {i j pos} : PD X W xw (.Constant (.str i) j pos) (tC (.str i)) (dC (.str i)) := ⟨fun tk => pe_str, li_c fun _ _ => .str _⟩
theorem pd_non {j pos} : PD X W xw (.Constant .none j pos) (tC .non) (dC .non) := ⟨fun tk => pe_non, li_c fun _ _ => .non⟩
theorem pd_gI {x : Str} {i : Int} {t : Tok} {pos : Pos} (hm : X.mg x = some (.int i t)) (hg : Gl X x := by rfl) (hd : (x == ("__debug__" : Str)) = false := by decide) : PD X W xw (.Name x pos) (tC (.int i)) (dC (.int i)) := ⟨fun tk => pe_glob hg hm ⟨_, rfl⟩ hd, li_c fun _ _ => .int _⟩
theorem pd_gS {x : Str} {i : Str} {t : Tok} {pos : Pos} (hm : X.mg x = some (.str i t)) (hg : Gl X x := by rfl) (hd : (x == ("__debug__" : Str)) = false := by decide) : PD X W xw (.Name x pos) (tC (.str i)) (dC (.str i)) := ⟨fun tk => pe_glob hg hm ⟨_, rfl⟩ hd, li_c fun _ _ => .str _⟩
/-- a built-in class as a value; a class of the text -/
theorem pd_ty {x : Str} {T : String} {pos : Pos} (hm : X.mg x = none) (hv : bootBuiltins x = some (.type T)) (hg : Gl X x := by rfl) (hn : x ≠ "__name__" := by decide) (hd : (x == ("__debug__" : Str)) = false := by decide) : PD X W xw (.Name x pos) (tC (.ty T)) (dR (.ty T)) := ⟨fun tk => pe_bltn hg hm hv rfl hn hd, li_r⟩
theorem pd_cls {x : Str} {C : Addr} {pos : Pos} (hm : X.mg x = some (.ref C)) (hg : Gl X x := by rfl) (hd : (x == ("__debug__" : Str)) = false := by decide) : PD X W xw (.Name x pos) (tC (.ref C)) (dR (.ref C)) := ⟨fun tk => pe_glob hg hm rfl hd, li_r⟩
/-! ### arguments, displays -/
def dNil : DA := fun _ k => k []
def dCons (a : DE) (r : DA) : DA := fun Γ k => a Γ fun s => r Γ fun ss => k (s :: ss)
theorem pda_nil : PDA X W xw [] tNil dNil := ⟨fun tk => pa_nil, fun c eK hW Γ k h σ H st Q q => q [] [] H (Go.self st.inv) .nil h⟩
theorem pda_cons {e : Expr} {es : List Expr} {te : TE} {ta : TA} {de : DE} {da : DA} (a : PD X W xw e te de) (r : PDA X W xw es ta da) (hs : starEach (e :: es) X.env = (false, eval e X.env) :: starEach es X.env := by rfl) : PDA X W xw (e :: es) (tCons te ta) (dCons de da) :=
  ⟨fun tk => pa_cons (a.pe tk) (r.pa tk) hs, fun c eK hW Γ k h σ H st Q q => a.li c eK hW Γ _ h σ H st _ fun v s H1 g1 r1 h1 => r.li c eK hW Γ _ h1 σ H1 (st.go g1) _ fun vs ss H2 g2 r2 h2 => q (v :: vs) (s :: ss) H2 (g1.trans g2) (.cons (r1.go g2.keep) r2) h2⟩
/-- data alone -/
def unD : List Sl → Option (List D)
  | [] => some []
  | .d x :: r => (unD r).map (x :: ·)
  | _ :: _ => none
theorem unD_ok {c : Cfg} {H : Hp} : ∀ {vs : List V} {ss : List Sl} {ds : List D}, Paired (fun v s => SlOk c H (some v) s) vs ss → unD ss = some ds → RpAll c H vs ds
  | _, _, _, .nil, e => by
    cases e
    exact .nil
  | _, s :: ss, ds, .cons r t, e => by
    cases s with
    | d x =>
      rw [unD, Option.map_eq_some_iff] at e
      obtain ⟨es, e1, e2⟩ := e
      subst e2
      obtain ⟨v, ev, rv⟩ := r
      cases ev
      exact .cons rv (unD_ok t e1)
    | any => cases e
    | v x => cases e
    | pool => cases e
    | ex _ _ _ _ => cases e
def dTup (a : DA) : DE := fun Γ k => a Γ fun ss => match unD ss with
  | some ds => ds.length ≤ 100000 ∧ k (.d (.tup ds))
  | none => False
def dLst (a : DA) : DE := fun Γ k => a Γ fun ss => match unD ss with
  | some ds => ds.length ≤ 100000 ∧ k (.d (.lst ds))
  | none => False
theorem sz {n : Nat} (h : n ≤ 100000) : n ≤ sizeLine := Nat.le_trans h (by decide)
theorem rp_newL {c : Cfg} {H : Hp} {p : Addr} {vs : List V} {ds : List D} (hi : c.I H) (n : H p = none) (r : RpAll c H vs ds) : Rp c (upd H p (.lst vs)) (.ref p) (.lst ds) :=
  .lst (c.fresh hi n) (.inl upd_same) (r.go (Kp.new n))
theorem rp_newT {c : Cfg} {H : Hp} {p : Addr} {vs : List V} {ds : List D} (hi : c.I H) (n : H p = none) (r : RpAll c H vs ds) : Rp c (upd H p (.tup vs)) (.ref p) (.tup ds) :=
  .tup (.inl ⟨c.fresh hi n, .inl upd_same⟩) (r.go (Kp.new n))
theorem pd_tup {es : List Expr} {ta : TA} {da : DA} {x1 : _} {pos : Pos} (a : PDA X W xw es ta da) : PD X W xw (.Tuple es x1 pos) (tTup ta) (dTup da) :=
  ⟨fun tk => pe_tup (a.pa tk), fun c eK hW Γ k h σ H st Q q => a.li c eK hW Γ _ h σ H st _ fun vs ss H1 g1 r1 h1 => by
    split at h1
    · rename_i ds e
      have rr := unD_ok r1 e
      exact ⟨by rw [rr.length]; exact sz h1.1, fun p n => q _ (.d (.tup ds)) _ (g1.trans (Go.new g1.inv n)) ⟨_, rfl, rp_newT g1.inv n rr⟩ h1.2⟩
    · exact h1.elim⟩
theorem pd_lst {es : List Expr} {ta : TA} {da : DA} {pos : Pos} (a : PDA X W xw es ta da) : PD X W xw (.List es pos) (tLst ta) (dLst da) :=
  ⟨fun tk => pe_lst (a.pa tk), fun c eK hW Γ k h σ H st Q q => a.li c eK hW Γ _ h σ H st _ fun vs ss H1 g1 r1 h1 => by
    split at h1
    · rename_i ds e
      have rr := unD_ok r1 e
      exact ⟨by rw [rr.length]; exact sz h1.1, fun p n => q _ (.d (.lst ds)) _ (g1.trans (Go.new g1.inv n)) ⟨_, rfl, rp_newL g1.inv n rr⟩ h1.2⟩
    · exact h1.elim⟩
/-! ### operations on two values -/
def O2 (K : PySem.W.Frag) (r : R2) (g : Sl → Sl → DK → Prop) : Prop := ∀ (c : Cfg) (H : Hp) (x y : V) (s t : Sl) (k : DK) (Q : VK), c.K = K → c.I H → SlOk c H (some x) s → SlOk c H (some y) t → g s t k →
  (∀ v u H2, Go c H H2 → SlOk c H2 (some v) u → k u → Q v H2) → r x y H Q
def dOp (g : Sl → Sl → DK → Prop) (a b : DE) : DE := fun Γ k => a Γ fun s => b Γ fun t => g s t k
theorem li_op {r : R2} {g : Sl → Sl → DK → Prop} {ta tb : TE} {a b : DE} (o : O2 K r g) (ha : Li K W xw ta a) (hb : Li K W xw tb b) : Li K W xw (tOp r ta tb) (dOp g a b) := fun c eK hW Γ k h σ H st Q q =>
  ha c eK hW Γ _ h σ H st _ fun v s H1 g1 r1 h1 => hb c eK hW Γ _ h1 σ H1 (st.go g1) _ fun u t H2 g2 r2 h2 =>
    o c H2 v u s t k Q eK g2.inv (r1.go g2.keep) r2 h2 fun z w H3 g3 r3 h3 => q z w H3 ((g1.trans g2).trans g3) r3 h3
/-- ints -/
def gI (C : Int → Int → Prop) (g : Int → Int → D) : Sl → Sl → DK → Prop := fun s t k => match s, t with
  | .d (.int i), .d (.int j) => C i j ∧ k (.d (g i j))
  | _, _ => False
def gI0 (g : Int → Int → D) : Sl → Sl → DK → Prop := fun s t k => match s, t with
  | .d (.int i), .d (.int j) => k (.d (g i j))
  | _, _ => False
theorem rp_int {c : Cfg} {H : Hp} {v : V} {i : Int} (h : Rp c H v (.int i)) : v = .int i := by
  cases h
  rfl
theorem rp_bl {c : Cfg} {H : Hp} {v : V} {i : Bool} (h : Rp c H v (.bl i)) : v = .bl i := by
  cases h
  rfl
theorem rp_str {c : Cfg} {H : Hp} {v : V} {i : Str} (h : Rp c H v (.str i)) : v = .str i := by
  cases h
  rfl
theorem sl_int {c : Cfg} {H : Hp} {v : V} {i : Int} (h : SlOk c H (some v) (.d (.int i))) : v = .int i := by
  obtain ⟨w, e, r⟩ := h
  cases e
  exact rp_int r
theorem sl_bl {c : Cfg} {H : Hp} {v : V} {i : Bool} (h : SlOk c H (some v) (.d (.bl i))) : v = .bl i := by
  obtain ⟨w, e, r⟩ := h
  cases e
  exact rp_bl r
theorem sl_str {c : Cfg} {H : Hp} {v : V} {i : Str} (h : SlOk c H (some v) (.d (.str i))) : v = .str i := by
  obtain ⟨w, e, r⟩ := h
  cases e
  exact rp_str r
theorem o2_I {C : Int → Int → Prop} {f : Int → Int → V} {g : Int → Int → D} (r : ∀ i j c H, Rp c H (f i j) (g i j)) : O2 K (rI C f) (gI C g) := fun c H x y s t k Q eK hi rs rt h q => by
  unfold gI at h
  split at h
  · exact ⟨_, _, sl_int rs, sl_int rt, h.1, q _ (.d (g _ _)) H (Go.self hi) ⟨_, rfl, r _ _ c H⟩ h.2⟩
  · exact h.elim
theorem o2_I0 {f : Int → Int → V} {g : Int → Int → D} (r : ∀ i j c H, Rp c H (f i j) (g i j)) : O2 K (rI0 f) (gI0 g) := fun c H x y s t k Q eK hi rs rt h q => by
  unfold gI0 at h
  split at h
  · exact ⟨_, _, sl_int rs, sl_int rt, q _ (.d (g _ _)) H (Go.self hi) ⟨_, rfl, r _ _ c H⟩ h⟩
  · exact h.elim
section
variable {a b cc : Expr} {ta tb tc : TE} {da db dc : DE} {pos : Pos}
theorem pd_addI (x : PD X W xw a ta da) (y : PD X W xw b tb db) : PD X W xw (.BinOp a .Add b pos) (tOp (rI0 fun i j => .int (i + j)) ta tb) (dOp (gI0 fun i j => .int (i + j)) da db) := ⟨fun tk => pe_op op_add (x.pe tk) (y.pe tk), li_op (o2_I0 fun _ _ _ _ => .int _) x.li y.li⟩
theorem pd_sub (x : PD X W xw a ta da) (y : PD X W xw b tb db) : PD X W xw (.BinOp a .Sub b pos) (tOp (rI0 fun i j => .int (i - j)) ta tb) (dOp (gI0 fun i j => .int (i - j)) da db) := ⟨fun tk => pe_op op_sub (x.pe tk) (y.pe tk), li_op (o2_I0 fun _ _ _ _ => .int _) x.li y.li⟩
theorem pd_mul (x : PD X W xw a ta da) (y : PD X W xw b tb db) : PD X W xw (.BinOp a .Mult b pos) (tOp (rI CMulW fun i j => .int (i * j)) ta tb) (dOp (gI CMulW fun i j => .int (i * j)) da db) := ⟨fun tk => pe_op op_mulW (x.pe tk) (y.pe tk), li_op (o2_I fun _ _ _ _ => .int _) x.li y.li⟩
theorem pd_fdiv (x : PD X W xw a ta da) (y : PD X W xw b tb db) : PD X W xw (.BinOp a .FloorDiv b pos) (tOp (rI CDivW fun i j => .int (i / j)) ta tb) (dOp (gI CDivW fun i j => .int (i / j)) da db) := ⟨fun tk => pe_op op_fdivW (x.pe tk) (y.pe tk), li_op (o2_I fun _ _ _ _ => .int _) x.li y.li⟩
theorem pd_mod (x : PD X W xw a ta da) (y : PD X W xw b tb db) : PD X W xw (.BinOp a .Mod b pos) (tOp (rI (fun _ j => 0 < j) fun i j => .int (i % j)) ta tb) (dOp (gI (fun _ j => 0 < j) fun i j => .int (i % j)) da db) := ⟨fun tk => pe_op op_mod (x.pe tk) (y.pe tk), li_op (o2_I fun _ _ _ _ => .int _) x.li y.li⟩
theorem pd_pow (x : PD X W xw a ta da) (y : PD X W xw b tb db) : PD X W xw (.BinOp a .Pow b pos) (tOp (rI CPow fun i j => .int (i ^ j.toNat)) ta tb) (dOp (gI CPow fun i j => .int (i ^ j.toNat)) da db) := ⟨fun tk => pe_op op_pow (x.pe tk) (y.pe tk), li_op (o2_I fun _ _ _ _ => .int _) x.li y.li⟩
theorem pd_lt (x : PD X W xw a ta da) (y : PD X W xw b tb db) : PD X W xw (.Compare a [.Lt] [b] pos) (tOp (rI0 fun i j => .bl (decide (i < j))) ta tb) (dOp (gI0 fun i j => .bl (decide (i < j))) da db) := ⟨fun tk => pe_cmpR op_lt (x.pe tk) (y.pe tk) (nomark _), li_op (o2_I0 fun _ _ _ _ => .bl _) x.li y.li⟩
theorem pd_le (x : PD X W xw a ta da) (y : PD X W xw b tb db) : PD X W xw (.Compare a [.LtE] [b] pos) (tOp (rI0 fun i j => .bl (decide (i ≤ j))) ta tb) (dOp (gI0 fun i j => .bl (decide (i ≤ j))) da db) := ⟨fun tk => pe_cmpR op_le (x.pe tk) (y.pe tk) (nomark _), li_op (o2_I0 fun _ _ _ _ => .bl _) x.li y.li⟩
theorem pd_gt (x : PD X W xw a ta da) (y : PD X W xw b tb db) : PD X W xw (.Compare a [.Gt] [b] pos) (tOp (rI0 fun i j => .bl (decide (j < i))) ta tb) (dOp (gI0 fun i j => .bl (decide (j < i))) da db) := ⟨fun tk => pe_cmpR op_gt (x.pe tk) (y.pe tk) (nomark _), li_op (o2_I0 fun _ _ _ _ => .bl _) x.li y.li⟩
theorem pd_ge (x : PD X W xw a ta da) (y : PD X W xw b tb db) : PD X W xw (.Compare a [.GtE] [b] pos) (tOp (rI0 fun i j => .bl (decide (j ≤ i))) ta tb) (dOp (gI0 fun i j => .bl (decide (j ≤ i))) da db) := ⟨fun tk => pe_cmpR op_ge (x.pe tk) (y.pe tk) (nomark _), li_op (o2_I0 fun _ _ _ _ => .bl _) x.li y.li⟩
end
end
end Dv
set_option Elab.async false
set_option linter.all false
set_option maxRecDepth 100000
set_option maxHeartbeats 4000000
/-! De2: equality, tests, places, built-ins. -/
namespace Dv
open PySem L2
/-! ### equality of data -/
mutual
def toPy : D → PyData
  | .non => .none
  | .bl b => .bool b
  | .int i => .int i
  | .str x => .str x
  | .lst xs => .list (toPys xs)
  | .tup xs => .tuple (toPys xs)
  | .obj _ _ => .dict []
  | .dic _ => .dict []
  | .scr _ => .dict []
def toPys : List D → List PyData
  | [] => []
  | x :: r => toPy x :: toPys r
end
def okD (d : D) : Bool := SeqAt.shaped (toPy d)
def deq (d e : D) : Bool := PyData.eqv (toPy d) (toPy e)
theorem rp_dp {c : Cfg} {H : Hp} {v : V} {d : D} (h : Rp c H v d) (o : (toPy d).canLay0 = true) : Dp c.K H v (toPy d) := by
  refine Rp.rec (motive_1 := fun v d _ => (toPy d).canLay0 = true → Dp c.K H v (toPy d)) (motive_2 := fun vs ds _ => PyData.canLayAll0 (toPys ds) = true → DpAll c.K H vs (toPys ds)) (motive_3 := fun _ _ _ => True) (motive_4 := fun _ _ _ => True)
    ?_ ?_ ?_ ?_ ?_ ?_ ?_ ?_ ?_ ?_ ?_ trivial ?_ trivial ?_ h o
  · exact fun _ => .non
  · exact fun b _ => .bl b
  · exact fun b _ => .int b
  · exact fun b _ => .str b
  · intro a xs ds _ s _ r o
    exact .lst (.inl s) (r (by simpa [toPy, PyData.canLay0] using o))
  · intro a xs ds s _ r o
    simp [toPy, PyData.canLay0] at o
  · intro a xs ds s _ r o
    exact .tup s.sq (r (by simpa [toPy, PyData.canLay0] using o))
  · intro a C dx fs ds _ _ _ _ o
    simp [toPy, PyData.canLay0] at o
  · intro a kvs ds _ _ _ _ o
    simp [toPy, PyData.canLay0] at o
  · intro _
    exact .nil
  · intro v d vs ds _ _ a b o
    have o' : (toPy d).canLay0 = true ∧ PyData.canLayAll0 (toPys ds) = true := by simpa [toPys, PyData.canLayAll0] using o
    exact .cons (a o'.1) (b o'.2)
  · intros
    trivial
  · intros
    trivial
def gEq : Sl → Sl → DK → Prop := fun s t k => match s, t with
  | .d x, .d y => okD x = true ∧ okD y = true ∧ k (.d (.bl (deq x y)))
  | _, _ => False
def gNe : Sl → Sl → DK → Prop := fun s t k => match s, t with
  | .d x, .d y => okD x = true ∧ okD y = true ∧ k (.d (.bl (!deq x y)))
  | _, _ => False
section
variable {X : Cx} {W : WX} {xw : XW} {K : PySem.W.Frag}
theorem o2_eq : O2 K (rEqD K) gEq := fun c H x y s t k Q eK hi rs rt h q => by
  unfold gEq at h
  split at h
  · rename_i x' y'
    obtain ⟨h1, h2, h3⟩ := h
    obtain ⟨w, e, r⟩ := rs
    cases e
    obtain ⟨w, e, r'⟩ := rt
    cases e
    subst eK
    exact ⟨_, _, rp_dp r (SeqAt.canLay_of_shaped h1), rp_dp r' (SeqAt.canLay_of_shaped h2), h1, h2, q _ (.d (.bl _)) H (Go.self hi) ⟨_, rfl, .bl _⟩ h3⟩
  · exact h.elim
theorem o2_ne : O2 K (rNeD K) gNe := fun c H x y s t k Q eK hi rs rt h q => by
  unfold gNe at h
  split at h
  · rename_i x' y'
    obtain ⟨h1, h2, h3⟩ := h
    obtain ⟨w, e, r⟩ := rs
    cases e
    obtain ⟨w, e, r'⟩ := rt
    cases e
    subst eK
    exact ⟨_, _, rp_dp r (SeqAt.canLay_of_shaped h1), rp_dp r' (SeqAt.canLay_of_shaped h2), h1, h2, q _ (.d (.bl _)) H (Go.self hi) ⟨_, rfl, .bl _⟩ h3⟩
  · exact h.elim
section
variable {a b cc : Expr} {ta tb tc : TE} {da db dc : DE} {pos : Pos}
theorem pd_eq (hu : X.A.units + 64 < cLine) (x : PD X W xw a ta da) (y : PD X W xw b tb db) : PD X W xw (.Compare a [.Eq] [b] pos) (tOp (rEqD X.K) ta tb) (dOp gEq da db) := ⟨fun tk => pe_cmpR (op_eqD hu) (x.pe tk) (y.pe tk) (nomark _), li_op o2_eq x.li y.li⟩
theorem pd_ne (hu : X.A.units + 64 < cLine) (x : PD X W xw a ta da) (y : PD X W xw b tb db) : PD X W xw (.Compare a [.NotEq] [b] pos) (tOp (rNeD X.K) ta tb) (dOp gNe da db) := ⟨fun tk => pe_cmpR (op_neD hu) (x.pe tk) (y.pe tk) (nomark _), li_op o2_ne x.li y.li⟩
/-! ### is None -/
def isNon : D → Bool
  | .non => true
  | _ => false
def gIsN : Sl → Sl → DK → Prop := fun s t k => match s, t with
  | .d x, .d .non => k (.d (.bl (isNon x)))
  | _, _ => False
def gNotN : Sl → Sl → DK → Prop := fun s t k => match s, t with
  | .d x, .d .non => k (.d (.bl (!isNon x)))
  | _, _ => False
theorem rp_isNon {c : Cfg} {H : Hp} {v : V} {d : D} (h : Rp c H v d) : decide (v = .non) = isNon d := by
  cases h <;> simp [isNon]
theorem sl_non {c : Cfg} {H : Hp} {v : V} (h : SlOk c H (some v) (.d .non)) : v = .non := by
  obtain ⟨w, e, r⟩ := h
  cases e
  cases r
  rfl
theorem o2_isN : O2 K (fun x y H Q => y = .non ∧ Q (.bl (decide (x = .non))) H) gIsN := fun c H x y s t k Q eK hi rs rt h q => by
  unfold gIsN at h
  split at h
  · rename_i x'
    refine ⟨sl_non rt, ?_⟩
    obtain ⟨w, e, r⟩ := rs
    cases e
    rw [rp_isNon r]
    exact q _ (.d (.bl _)) H (Go.self hi) ⟨_, rfl, .bl _⟩ h
  · exact h.elim
theorem o2_notN : O2 K (fun x y H Q => y = .non ∧ Q (.bl (!decide (x = .non))) H) gNotN := fun c H x y s t k Q eK hi rs rt h q => by
  unfold gNotN at h
  split at h
  · rename_i x'
    refine ⟨sl_non rt, ?_⟩
    obtain ⟨w, e, r⟩ := rs
    cases e
    rw [rp_isNon r]
    exact q _ (.d (.bl _)) H (Go.self hi) ⟨_, rfl, .bl _⟩ h
  · exact h.elim
theorem pd_isN (x : PD X W xw a ta da) (y : PD X W xw b tb db) : PD X W xw (.Compare a [.Is] [b] pos) (tOp (fun x y H Q => y = .non ∧ Q (.bl (decide (x = .non))) H) ta tb) (dOp gIsN da db) := ⟨fun tk => pe_cmpR op_isN (x.pe tk) (y.pe tk) (nomark _), li_op o2_isN x.li y.li⟩
theorem pd_notN (x : PD X W xw a ta da) (y : PD X W xw b tb db) : PD X W xw (.Compare a [.IsNot] [b] pos) (tOp (fun x y H Q => y = .non ∧ Q (.bl (!decide (x = .non))) H) ta tb) (dOp gNotN da db) := ⟨fun tk => pe_cmpR op_notN (x.pe tk) (y.pe tk) (nomark _), li_op o2_notN x.li y.li⟩
/-! ### a op b op c -/
def dChain (g g' : Sl → Sl → DK → Prop) (a b c : DE) : DE := fun Γ k => a Γ fun s => b Γ fun t => g s t fun z => match z with
  | .d (.bl true) => c Γ fun u => g' t u k
  | .d (.bl false) => k (.d (.bl false))
  | _ => False
theorem li_chain {r r' : R2} {g g' : Sl → Sl → DK → Prop} (o : O2 K r g) (o' : O2 K r' g') (ha : Li K W xw ta da) (hb : Li K W xw tb db) (hc : Li K W xw tc dc) : Li K W xw (tChain r r' ta tb tc) (dChain g g' da db dc) := fun c eK hW Γ k h σ H st Q q =>
  ha c eK hW Γ _ h σ H st _ fun v s H1 g1 r1 h1 => hb c eK hW Γ _ h1 σ H1 (st.go g1) _ fun u t H2 g2 r2 h2 =>
    o c H2 v u s t _ _ eK g2.inv (r1.go g2.keep) r2 h2 fun z w H3 g3 r3 h3 => by
      have g13 := (g1.trans g2).trans g3
      try dsimp only at h3
      split at h3
      · refine ⟨true, sl_bl r3, ?_⟩
        rw [if_pos rfl]
        exact hc c eK hW Γ _ h3 σ H3 (st.go g13) _ fun y w H4 g4 r4 h4 => o' c H4 u y t w k Q eK g4.inv ((r2.go g3.keep).go g4.keep) r4 h4 fun z1 w1 H5 g5 r5 h5 => q z1 w1 H5 ((g13.trans g4).trans g5) r5 h5
      · refine ⟨false, sl_bl r3, ?_⟩
        rw [if_neg Bool.false_ne_true]
        exact q _ (.d (.bl false)) H3 g13 ⟨_, rfl, .bl _⟩ h3
      · exact h3.elim
def gLt := gI0 fun i j => .bl (decide (i < j))
def gLe := gI0 fun i j => .bl (decide (i ≤ j))
theorem pd_chLeLe (x : PD X W xw a ta da) (y : PD X W xw b tb db) (z : PD X W xw cc tc dc) (hm : lastMarks [.LtE, .LtE] [b, cc] = false := by with_unfolding_all rfl) : PD X W xw (.Compare a [.LtE, .LtE] [b, cc] pos) (tChain (rI0 fun i j => .bl (decide (i ≤ j))) (rI0 fun i j => .bl (decide (i ≤ j))) ta tb tc) (dChain gLe gLe da db dc) :=
  ⟨fun tk => pe_chain op_le op_le (x.pe tk) (y.pe tk) (z.pe tk) hm, li_chain (o2_I0 fun _ _ _ _ => .bl _) (o2_I0 fun _ _ _ _ => .bl _) x.li y.li z.li⟩
theorem pd_chLeLt (x : PD X W xw a ta da) (y : PD X W xw b tb db) (z : PD X W xw cc tc dc) (hm : lastMarks [.LtE, .Lt] [b, cc] = false := by with_unfolding_all rfl) : PD X W xw (.Compare a [.LtE, .Lt] [b, cc] pos) (tChain (rI0 fun i j => .bl (decide (i ≤ j))) (rI0 fun i j => .bl (decide (i < j))) ta tb tc) (dChain gLe gLt da db dc) :=
  ⟨fun tk => pe_chain op_le op_lt (x.pe tk) (y.pe tk) (z.pe tk) hm, li_chain (o2_I0 fun _ _ _ _ => .bl _) (o2_I0 fun _ _ _ _ => .bl _) x.li y.li z.li⟩
/-! ### tests -/
def dB (a : DE) : DT := fun Γ k => a Γ fun s => match s with
  | .d (.bl b) => k b
  | _ => False
theorem li_b {t : TE} {d : DE} (h : Li K W xw t d) : LiT K W xw (tB t) (dB d) := fun c eK hW Γ k hk σ H st Q q => h c eK hW Γ _ hk σ H st _ fun v s H1 g1 r1 h1 => by
  try dsimp only at h1
  split at h1
  · exact ⟨_, sl_bl r1, q _ H1 g1 h1⟩
  · exact h1.elim
theorem pdt_val (h : PD X W xw a ta da) (he : ∀ whole, isTrue a X.env whole = (do let v ← whole; standAt a.pos; holding [v] (truthy v)) := by intro _; rfl) : PDT X W xw a (tB ta) (dB da) := ⟨fun tk => pt_val (h.pe tk) he, li_b h.li⟩
/-- a comparison as a test -/
theorem pdt_cmp {op : CmpOp} {r : R2} {g : Sl → Sl → DK → Prop} (ho : OpR X (compareOp op) r) (o : O2 X.K r g) (x : PD X W xw a ta da) (y : PD X W xw b tb db) (hm : behindInMarks op b = false) : PDT X W xw (.Compare a [op] [b] pos) (tTest (tOp r ta tb)) (dB (dOp g da db)) :=
  ⟨fun tk => pt_cmpR ho (x.pe tk) (y.pe tk) hm, li_b (li_op o x.li y.li)⟩
def dAnd (t u : DT) : DT := fun Γ k => t Γ fun b => cond b (u Γ k) (k false)
def dOr (t u : DT) : DT := fun Γ k => t Γ fun b => cond b (k true) (u Γ k)
def dNot (t : DT) : DT := fun Γ k => t Γ fun b => k (!b)
section
variable {t u : TT} {d e : DT} {rest : List Expr}
theorem pdw_pt (h : PDW X W xw a t d) : PDT X W xw a t d := ⟨fun tk => (h.pw tk).pt, h.li⟩
theorem pdw_and1 (h : PDT X W xw a t d) : PDW X W xw (.BoolOp .And [a] pos) t d := ⟨fun tk => pw_and1 (h.pt tk), h.li⟩
theorem pdw_or1 (h : PDT X W xw a t d) : PDW X W xw (.BoolOp .Or [a] pos) t d := ⟨fun tk => pw_or1 (h.pt tk), h.li⟩
theorem pdw_and (h : PDT X W xw a t d) (h' : PDW X W xw (.BoolOp .And (b :: rest) pos) u e) : PDW X W xw (.BoolOp .And (a :: b :: rest) pos) (tAnd t u) (dAnd d e) :=
  ⟨fun tk => pw_and (h.pt tk) (h'.pw tk), fun c eK hW Γ k hk σ H st Q q => h.li c eK hW Γ _ hk σ H st _ fun v H1 g1 h1 => by
    cases v
    · rw [if_neg Bool.false_ne_true]
      exact q false H1 g1 h1
    · rw [if_pos rfl]
      exact h'.li c eK hW Γ _ h1 σ H1 (st.go g1) _ fun w H2 g2 h2 => q w H2 (g1.trans g2) h2⟩
theorem pdw_or (h : PDT X W xw a t d) (h' : PDW X W xw (.BoolOp .Or (b :: rest) pos) u e) : PDW X W xw (.BoolOp .Or (a :: b :: rest) pos) (tOr t u) (dOr d e) :=
  ⟨fun tk => pw_or (h.pt tk) (h'.pw tk), fun c eK hW Γ k hk σ H st Q q => h.li c eK hW Γ _ hk σ H st _ fun v H1 g1 h1 => by
    cases v
    · rw [if_neg Bool.false_ne_true]
      exact h'.li c eK hW Γ _ h1 σ H1 (st.go g1) _ fun w H2 g2 h2 => q w H2 (g1.trans g2) h2
    · rw [if_pos rfl]
      exact q true H1 g1 h1⟩
theorem pdt_not (h : PDT X W xw a t d) : PDT X W xw (.UnaryOp .Not a pos) (tNot t) (dNot d) := ⟨fun tk => pt_not (h.pt tk), fun c eK hW Γ k hk σ H st Q q => h.li c eK hW Γ _ hk σ H st _ fun v H1 g1 h1 => q (!v) H1 g1 h1⟩
/-! ### and, or, not as values -/
def dAndV (a b : DE) : DE := fun Γ k => a Γ fun s => match s with
  | .d (.bl true) => b Γ k
  | .d (.bl false) => k (.d (.bl false))
  | _ => False
def dOrV (a b : DE) : DE := fun Γ k => a Γ fun s => match s with
  | .d (.bl true) => k (.d (.bl true))
  | .d (.bl false) => b Γ k
  | _ => False
def dNotV (a : DE) : DE := fun Γ k => a Γ fun s => match s with
  | .d (.bl b) => k (.d (.bl (!b)))
  | _ => False
theorem pd_one {op} (h : PD X W xw a ta da) : PD X W xw (.BoolOp op [a] pos) ta da := ⟨fun tk => pe_one (h.pe tk), h.li⟩
theorem pd_and (h : PD X W xw a ta da) (h' : PD X W xw (.BoolOp .And (b :: rest) pos) tb db) : PD X W xw (.BoolOp .And (a :: b :: rest) pos) (tAndV ta tb) (dAndV da db) :=
  ⟨fun tk => pe_and (h.pe tk) (h'.pe tk), fun c eK hW Γ k hk σ H st Q q => h.li c eK hW Γ _ hk σ H st _ fun v s H1 g1 r1 h1 => by
    try dsimp only at h1
    split at h1
    · refine ⟨true, sl_bl r1, ?_⟩
      rw [if_pos rfl]
      exact h'.li c eK hW Γ _ h1 σ H1 (st.go g1) _ fun w s2 H2 g2 r2 h2 => q w s2 H2 (g1.trans g2) r2 h2
    · refine ⟨false, sl_bl r1, ?_⟩
      rw [if_neg Bool.false_ne_true]
      exact q _ (.d (.bl false)) H1 g1 ⟨_, rfl, .bl _⟩ h1
    · exact h1.elim⟩
theorem pd_or (h : PD X W xw a ta da) (h' : PD X W xw (.BoolOp .Or (b :: rest) pos) tb db) : PD X W xw (.BoolOp .Or (a :: b :: rest) pos) (tOrV ta tb) (dOrV da db) :=
  ⟨fun tk => pe_or (h.pe tk) (h'.pe tk), fun c eK hW Γ k hk σ H st Q q => h.li c eK hW Γ _ hk σ H st _ fun v s H1 g1 r1 h1 => by
    try dsimp only at h1
    split at h1
    · refine ⟨true, sl_bl r1, ?_⟩
      rw [if_pos rfl]
      exact q _ (.d (.bl true)) H1 g1 ⟨_, rfl, .bl _⟩ h1
    · refine ⟨false, sl_bl r1, ?_⟩
      rw [if_neg Bool.false_ne_true]
      exact h'.li c eK hW Γ _ h1 σ H1 (st.go g1) _ fun w s2 H2 g2 r2 h2 => q w s2 H2 (g1.trans g2) r2 h2
    · exact h1.elim⟩
theorem pd_not (h : PD X W xw a ta da) : PD X W xw (.UnaryOp .Not a pos) (tNotV ta) (dNotV da) :=
  ⟨fun tk => pe_not (h.pe tk), fun c eK hW Γ k hk σ H st Q q => h.li c eK hW Γ _ hk σ H st _ fun v s H1 g1 r1 h1 => by
    try dsimp only at h1
    split at h1
    · exact ⟨_, sl_bl r1, q _ (.d (.bl _)) H1 g1 ⟨_, rfl, .bl _⟩ h1⟩
    · exact h1.elim⟩
def dIf (t : DT) (a b : DE) : DE := fun Γ k => t Γ fun v => cond v (a Γ k) (b Γ k)
theorem pd_ifExp {c0 : Expr} (hc : PDT X W xw c0 t d) (ha : PD X W xw a ta da) (hb : PD X W xw b tb db) : PD X W xw (.IfExp c0 a b pos) (tIf t ta tb) (dIf d da db) :=
  ⟨fun tk => pe_ifExp (hc.pt tk) (ha.pe tk) (hb.pe tk), fun c eK hW Γ k hk σ H st Q q => hc.li c eK hW Γ _ hk σ H st _ fun v H1 g1 h1 => by
    cases v
    · rw [if_neg Bool.false_ne_true]
      exact hb.li c eK hW Γ _ h1 σ H1 (st.go g1) _ fun w s2 H2 g2 r2 h2 => q w s2 H2 (g1.trans g2) r2 h2
    · rw [if_pos rfl]
      exact ha.li c eK hW Γ _ h1 σ H1 (st.go g1) _ fun w s2 H2 g2 r2 h2 => q w s2 H2 (g1.trans g2) r2 h2⟩
end
/-! ### -a -/
def dUnI (f : Int → Int) (a : DE) : DE := fun Γ k => a Γ fun s => match s with
  | .d (.int i) => k (.d (.int (f i)))
  | _ => False
theorem pd_neg (h : PD X W xw a ta da) : PD X W xw (.UnaryOp .USub a pos) (tUn (rU fun i => .int (-i)) ta) (dUnI (fun i => -i) da) :=
  ⟨fun tk => pe_un un_neg (h.pe tk), fun c eK hW Γ k hk σ H st Q q => h.li c eK hW Γ _ hk σ H st _ fun v s H1 g1 r1 h1 => by
    try dsimp only at h1
    split at h1
    · exact ⟨_, sl_int r1, q _ (.d (.int _)) H1 g1 ⟨_, rfl, .int _⟩ h1⟩
    · exact h1.elim⟩
/-! ### x[i] -/
def gIx : Sl → Sl → DK → Prop := fun s t k => match s, t with
  | .d (.lst xs), .d (.int i) => match atI xs i with
    | some x => k (.d x)
    | none => False
  | .d (.tup xs), .d (.int i) => match atI xs i with
    | some x => k (.d x)
    | none => False
  | .d (.scr xs), .d (.int i) => match atI xs i with
    | some x => k (.d x)
    | none => False
  | .d (.str z), .d (.int i) => match atI z.cps.toList i with
    | some x => z.length ≤ 100000 ∧ k (.d (.str ⟨#[x]⟩))
    | none => False
  | _, _ => False
theorem atI_rp {c : Cfg} {H : Hp} {vs : List V} {ds : List D} {i : Int} {d : D} (r : RpAll c H vs ds) (e : atI ds i = some d) : ∃ v, atI vs i = some v ∧ Rp c H v d := by
  unfold atI at e ⊢
  rw [r.length]
  cases z : ixN ds.length i with
  | none =>
    rw [z] at e
    cases e
  | some j =>
    rw [z] at e
    obtain ⟨v, h1, h2⟩ := r.get e
    exact ⟨v, h1, h2⟩
theorem o2_ix : O2 K (rIx K) gIx := fun c H x y s t k Q eK hi rs rt h q => by
  subst eK
  unfold gIx at h
  split at h
  · split at h
    · rename_i z e
      obtain ⟨w, ew, r⟩ := rs
      cases ew
      cases r with
      | lst nf il ra =>
        obtain ⟨v, h1, h2⟩ := atI_rp ra e
        exact .inl ⟨_, _, _, v, rfl, sl_int rt, .inl il, h1, q _ (.d z) H (Go.self hi) ⟨_, rfl, h2⟩ h⟩
    · exact h.elim
  · split at h
    · rename_i z e
      obtain ⟨w, ew, r⟩ := rs
      cases ew
      cases r with
      | tup il ra =>
        obtain ⟨v, h1, h2⟩ := atI_rp ra e
        exact .inr (.inl ⟨_, _, _, v, rfl, sl_int rt, il.sq, h1, q _ (.d z) H (Go.self hi) ⟨_, rfl, h2⟩ h⟩)
    · exact h.elim
  · split at h
    · rename_i z e
      obtain ⟨w, ew, r⟩ := rs
      cases ew
      cases r with
      | scr il ra =>
        obtain ⟨v, h1, h2⟩ := atI_rp ra e
        exact .inl ⟨_, _, _, v, rfl, sl_int rt, il.sq, h1, q _ (.d z) H (Go.self hi) ⟨_, rfl, h2⟩ h⟩
    · exact h.elim
  · split at h
    · rename_i z e
      exact .inr (.inr ⟨_, _, _, sl_str rs, sl_int rt, sz h.1, e, q _ (.d (.str _)) H (Go.self hi) ⟨_, rfl, .str _⟩ h.2⟩)
    · exact h.elim
  · exact h.elim
theorem pd_ix (x : PD X W xw a ta da) (y : PD X W xw b tb db) (hs : PlainIx b := by intro _ _; rfl) : PD X W xw (.Subscript a b pos) (tOp (rIx X.K) ta tb) (dOp gIx da db) := ⟨fun tk => pe_ix ix_seq (x.pe tk) (y.pe tk) hs, li_op o2_ix x.li y.li⟩
/-! ### a + b of ints, texts, lists, tuples -/
def gAdd : Sl → Sl → DK → Prop := fun s t k => match s, t with
  | .d (.int i), .d (.int j) => k (.d (.int (i + j)))
  | .d (.str x), .d (.str y) => x.length + y.length ≤ 100000 ∧ k (.d (.str (x ++ y)))
  | .d (.lst xs), .d (.lst ys) => xs.length + ys.length ≤ 100000 ∧ k (.d (.lst (xs ++ ys)))
  | .d (.tup xs), .d (.tup ys) => xs.length + ys.length ≤ 100000 ∧ k (.d (.tup (xs ++ ys)))
  | _, _ => False
def rCatR : R2 := fun x y H Q => ∃ l b xs zs, x = .ref l ∧ y = .ref b ∧ Rd H l (.lst xs) ∧ Rd H b (.lst zs) ∧ xs.length + zs.length ≤ sizeLine ∧ ∀ p, H p = none → Q (.ref p) (upd H p (.lst (xs ++ zs)))
theorem rd_lst {pins : List (Addr × Obj)} {σ : St} {H : Hp} {sh : Shared} {l : Addr} {xs : List V} (I : Inv X pins σ H sh) (h : Rd H l (.lst xs)) : ∃ (its : List Value) (n : Nat), Vals xs its ∧ sh.heap.get? l = some { cls := .type "list", data := .seq its.toArray n } := by
  rcases h with h | ⟨o, h⟩
  · obtain ⟨_, its, n, r, e⟩ := I.hok l _ h
    exact ⟨its, n, r, e⟩
  · obtain ⟨_, _, its, n, r, e⟩ := I.hok l _ h
    exact ⟨its, n, r, e⟩
theorem op_catR : OpR X (binaryOp .Add) rCatR := by
  intro pins s σ H x y v u Q I rx ry h
  obtain ⟨l, b, xs, zs, rfl, rfl, hH, hB, hz, q⟩ := h
  cases rx
  cases ry
  obtain ⟨its, n, r, e⟩ := rd_lst I hH
  obtain ⟨its2, n2, r2, e2⟩ := rd_lst I hB
  refine PySem.P.add_list e e2 ?_ (by rw [List.size_toArray, List.size_toArray, ← r.length, ← r2.length]; omega)
  have ea : its.toArray ++ its2.toArray = (its ++ its2).toArray := by simp
  rw [ea]
  exact ⟨.ref _, _, I.lnew (t' := s.toks) (r.append r2) (by rw [List.length_append]; omega), rfl, q _ I.fresh⟩
abbrev rAddA (K : PySem.W.Frag) : R2 := fun x y H Q => rI0 (fun i j => .int (i + j)) x y H Q ∨ ((∃ i j, x = .str i ∧ y = .str j ∧ i.length + j.length ≤ sizeLine ∧ Q (.str (i ++ j)) H) ∨ (rCatR x y H Q ∨ rCatA K x y H Q))
theorem op_addA : OpR X (binaryOp .Add) (rAddA X.K) := op_add.or (op_add_str.or (op_catR.or op_catA))
theorem o2_add : O2 K (rAddA K) gAdd := fun c H x y s t k Q eK hi rs rt h q => by
  subst eK
  unfold gAdd at h
  split at h
  · exact .inl ⟨_, _, sl_int rs, sl_int rt, q _ (.d (.int _)) H (Go.self hi) ⟨_, rfl, .int _⟩ h⟩
  · exact .inr (.inl ⟨_, _, sl_str rs, sl_str rt, sz h.1, q _ (.d (.str _)) H (Go.self hi) ⟨_, rfl, .str _⟩ h.2⟩)
  · obtain ⟨w, ew, r⟩ := rs
    cases ew
    obtain ⟨w, ew, r'⟩ := rt
    cases ew
    cases r with
    | lst nf il ra =>
      cases r' with
      | lst nf' il' ra' => exact .inr (.inr (.inl ⟨_, _, _, _, rfl, rfl, il, il', by rw [ra.length, ra'.length]; exact sz h.1, fun p np => q _ (.d (.lst _)) _ (Go.new hi np) ⟨_, rfl, rp_newL hi np (ra.append ra')⟩ h.2⟩))
  · obtain ⟨w, ew, r⟩ := rs
    cases ew
    obtain ⟨w, ew, r'⟩ := rt
    cases ew
    cases r with
    | tup il ra =>
      cases r' with
      | tup il' ra' =>
        refine .inr (.inr (.inr ⟨_, _, _, _, rfl, rfl, il.sq, il'.sq, by rw [ra.length, ra'.length]; exact sz h.1, fun e => ?_, fun _ e => ?_, fun _ _ p np => q _ (.d (.tup _)) _ (Go.new hi np) ⟨_, rfl, rp_newT hi np (ra.append ra')⟩ h.2⟩))
        · subst e
          cases ra
          exact q _ (.d (.tup _)) H (Go.self hi) ⟨_, rfl, .tup il' ra'⟩ h.2
        · subst e
          cases ra'
          have z := h.2
          rw [List.append_nil] at z
          exact q _ (.d (.tup _)) H (Go.self hi) ⟨_, rfl, .tup il ra⟩ z
  · exact h.elim
theorem pd_add (x : PD X W xw a ta da) (y : PD X W xw b tb db) : PD X W xw (.BinOp a .Add b pos) (tOp (rAddA X.K) ta tb) (dOp gAdd da db) := ⟨fun tk => pe_op op_addA (x.pe tk) (y.pe tk), li_op o2_add x.li y.li⟩
/-! ### comparisons as tests -/
theorem pdt_lt (x : PD X W xw a ta da) (y : PD X W xw b tb db) : PDT X W xw (.Compare a [.Lt] [b] pos) (tTest (tOp (rI0 fun i j => .bl (decide (i < j))) ta tb)) (dB (dOp (gI0 fun i j => .bl (decide (i < j))) da db)) := pdt_cmp op_lt (o2_I0 fun _ _ _ _ => .bl _) x y (nomark _)
theorem pdt_le (x : PD X W xw a ta da) (y : PD X W xw b tb db) : PDT X W xw (.Compare a [.LtE] [b] pos) (tTest (tOp (rI0 fun i j => .bl (decide (i ≤ j))) ta tb)) (dB (dOp (gI0 fun i j => .bl (decide (i ≤ j))) da db)) := pdt_cmp op_le (o2_I0 fun _ _ _ _ => .bl _) x y (nomark _)
theorem pdt_gt (x : PD X W xw a ta da) (y : PD X W xw b tb db) : PDT X W xw (.Compare a [.Gt] [b] pos) (tTest (tOp (rI0 fun i j => .bl (decide (j < i))) ta tb)) (dB (dOp (gI0 fun i j => .bl (decide (j < i))) da db)) := pdt_cmp op_gt (o2_I0 fun _ _ _ _ => .bl _) x y (nomark _)
theorem pdt_ge (x : PD X W xw a ta da) (y : PD X W xw b tb db) : PDT X W xw (.Compare a [.GtE] [b] pos) (tTest (tOp (rI0 fun i j => .bl (decide (j ≤ i))) ta tb)) (dB (dOp (gI0 fun i j => .bl (decide (j ≤ i))) da db)) := pdt_cmp op_ge (o2_I0 fun _ _ _ _ => .bl _) x y (nomark _)
theorem pdt_eq (hu : X.A.units + 64 < cLine) (x : PD X W xw a ta da) (y : PD X W xw b tb db) : PDT X W xw (.Compare a [.Eq] [b] pos) (tTest (tOp (rEqD X.K) ta tb)) (dB (dOp gEq da db)) := pdt_cmp (op_eqD hu) o2_eq x y (nomark _)
theorem pdt_ne (hu : X.A.units + 64 < cLine) (x : PD X W xw a ta da) (y : PD X W xw b tb db) : PDT X W xw (.Compare a [.NotEq] [b] pos) (tTest (tOp (rNeD X.K) ta tb)) (dB (dOp gNe da db)) := pdt_cmp (op_neD hu) o2_ne x y (nomark _)
theorem pdt_isN (x : PD X W xw a ta da) (y : PD X W xw b tb db) : PDT X W xw (.Compare a [.Is] [b] pos) (tTest (tOp (fun x y H Q => y = .non ∧ Q (.bl (decide (x = .non))) H) ta tb)) (dB (dOp gIsN da db)) := pdt_cmp op_isN o2_isN x y (nomark _)
theorem pdt_notN (x : PD X W xw a ta da) (y : PD X W xw b tb db) : PDT X W xw (.Compare a [.IsNot] [b] pos) (tTest (tOp (fun x y H Q => y = .non ∧ Q (.bl (!decide (x = .non))) H) ta tb)) (dB (dOp gNotN da db)) := pdt_cmp op_notN o2_notN x y (nomark _)
theorem pdt_chLeLe (x : PD X W xw a ta da) (y : PD X W xw b tb db) (z : PD X W xw cc tc dc) (hm : lastMarks [.LtE, .LtE] [b, cc] = false := by with_unfolding_all rfl) : PDT X W xw (.Compare a [.LtE, .LtE] [b, cc] pos) (tTest (tChain (rI0 fun i j => .bl (decide (i ≤ j))) (rI0 fun i j => .bl (decide (i ≤ j))) ta tb tc)) (dB (dChain gLe gLe da db dc)) :=
  ⟨fun tk => pt_chain op_le op_le (x.pe tk) (y.pe tk) (z.pe tk) hm, li_b (li_chain (o2_I0 fun _ _ _ _ => .bl _) (o2_I0 fun _ _ _ _ => .bl _) x.li y.li z.li)⟩
theorem pdt_chLeLt (x : PD X W xw a ta da) (y : PD X W xw b tb db) (z : PD X W xw cc tc dc) (hm : lastMarks [.LtE, .Lt] [b, cc] = false := by with_unfolding_all rfl) : PDT X W xw (.Compare a [.LtE, .Lt] [b, cc] pos) (tTest (tChain (rI0 fun i j => .bl (decide (i ≤ j))) (rI0 fun i j => .bl (decide (i < j))) ta tb tc)) (dB (dChain gLe gLt da db dc)) :=
  ⟨fun tk => pt_chain op_le op_lt (x.pe tk) (y.pe tk) (z.pe tk) hm, li_b (li_chain (o2_I0 fun _ _ _ _ => .bl _) (o2_I0 fun _ _ _ _ => .bl _) x.li y.li z.li)⟩
end
end
end Dv
set_option Elab.async false
set_option linter.all false
set_option maxRecDepth 100000
set_option maxHeartbeats 4000000
/-! De3: calls of built-ins, walks, comprehensions. -/
namespace Dv
open PySem L2
section
variable {X : Cx} {W : WX} {xw : XW} {K : PySem.W.Frag}
/-! ### calls of built-ins -/
def OC (K : PySem.W.Frag) (r : List V → Hp → VK → Prop) (g : List Sl → DK → Prop) : Prop := ∀ (c : Cfg) (H : Hp) (vs : List V) (ss : List Sl) (k : DK) (Q : VK), c.K = K → c.I H → Paired (fun v s => SlOk c H (some v) s) vs ss → g ss k →
  (∀ v u H2, Go c H H2 → SlOk c H2 (some v) u → k u → Q v H2) → r vs H Q
def dCB (g : List Sl → DK → Prop) (a : DA) : DE := fun Γ k => a Γ fun ss => g ss k
theorem li_cb {r : List V → Hp → VK → Prop} {g : List Sl → DK → Prop} {ta : TA} {da : DA} (o : OC K r g) (h : LiA K W xw ta da) : Li K W xw (tCB r ta) (dCB g da) := fun c eK hW Γ k hk σ H st Q q =>
  h c eK hW Γ _ hk σ H st _ fun vs ss H1 g1 r1 h1 => o c H1 vs ss k Q eK g1.inv r1 h1 fun v u H2 g2 r2 h2 => q v u H2 (g1.trans g2) r2 h2
section
variable {x : Str} {p pos : Pos} {e : Expr} {es : List Expr} {ta : TA} {da : DA} {id T : String} {r : List V → Hp → VK → Prop} {g : List Sl → DK → Prop}
theorem pd_callB (hc : CallR X (.builtin id) r) (o : OC X.K r g) (hm : X.mg x = none) (hv : bootBuiltins x = some (.builtin id)) (a : PDA X W xw (e :: es) ta da) (hg : Gl X x := by rfl) (hn : x ≠ "__name__" := by decide) (hdb : (x == ("__debug__" : Str)) = false := by decide)
    (he : starEach (e :: es) X.env = (false, eval e X.env) :: starEach es X.env := by rfl) (hpl : (backTo pos (starEach es X.env)).any (·.1) = false := by rfl) : PD X W xw (.Call (.Name x p) (e :: es) [] pos) (tCB r ta) (dCB g da) :=
  ⟨fun tk => pe_callB hc hg hm hv (a.pa tk) hn hdb he hpl, li_cb o a.li⟩
theorem pd_callTy (hc : CallR X (.type T) r) (o : OC X.K r g) (hm : X.mg x = none) (hv : bootBuiltins x = some (.type T)) (a : PDA X W xw (e :: es) ta da) (hg : Gl X x := by rfl) (hn : x ≠ "__name__" := by decide) (hdb : (x == ("__debug__" : Str)) = false := by decide)
    (he : starEach (e :: es) X.env = (false, eval e X.env) :: starEach es X.env := by rfl) (hpl : (backTo pos (starEach es X.env)).any (·.1) = false := by rfl) : PD X W xw (.Call (.Name x p) (e :: es) [] pos) (tCB r ta) (dCB g da) :=
  ⟨fun tk => pe_callTy hc hg hm hv (a.pa tk) hn hdb he hpl, li_cb o a.li⟩
end
theorem paired1 {F : V → Sl → Prop} {vs : List V} {s : Sl} (h : Paired F vs [s]) : ∃ v, vs = [v] ∧ F v s := by
  cases h with
  | cons a b =>
    cases b
    exact ⟨_, rfl, a⟩
theorem paired2 {F : V → Sl → Prop} {vs : List V} {s t : Sl} (h : Paired F vs [s, t]) : ∃ v w, vs = [v, w] ∧ F v s ∧ F w t := by
  cases h with
  | cons a b =>
    obtain ⟨w, rfl, q⟩ := paired1 b
    exact ⟨_, _, rfl, a, q⟩
/-- len -/
def gLen : List Sl → DK → Prop := fun ss k => match ss with
  | [.d (.lst xs)] => k (.d (.int xs.length))
  | [.d (.tup xs)] => k (.d (.int xs.length))
  | [.d (.scr xs)] => k (.d (.int xs.length))
  | [.d (.str z)] => z.length ≤ 100000 ∧ k (.d (.int z.length))
  | _ => False
theorem oc_len : OC K (fun xs H Q => ∃ x n, xs = [x] ∧ LenV K x H n ∧ Q (.int n) H) gLen := fun c H vs ss k Q eK hi r h q => by
  subst eK
  unfold gLen at h
  split at h
  · obtain ⟨v, rfl, w, e, rr⟩ := paired1 r
    cases e
    cases rr with
    | lst nf il ra => exact ⟨_, _, rfl, .inl ⟨_, .inl il, rfl⟩, q _ (.d (.int _)) H (Go.self hi) ⟨_, rfl, by rw [ra.length]; exact .int _⟩ h⟩
  · obtain ⟨v, rfl, w, e, rr⟩ := paired1 r
    cases e
    cases rr with
    | tup il ra => exact ⟨_, _, rfl, .inr ⟨_, il.sq, rfl⟩, q _ (.d (.int _)) H (Go.self hi) ⟨_, rfl, by rw [ra.length]; exact .int _⟩ h⟩
  · obtain ⟨v, rfl, w, e, rr⟩ := paired1 r
    cases e
    cases rr with
    | scr il ra => exact ⟨_, _, rfl, .inl ⟨_, il.sq, rfl⟩, q _ (.d (.int _)) H (Go.self hi) ⟨_, rfl, by rw [ra.length]; exact .int _⟩ h⟩
  · obtain ⟨v, rfl, rr⟩ := paired1 r
    have e := sl_str rr
    subst e
    exact ⟨_, _, rfl, ⟨sz h.1, rfl⟩, q _ (.d (.int _)) H (Go.self hi) ⟨_, rfl, .int _⟩ h.2⟩
  · exact h.elim
/-- all, any of a list of truths -/
def unB : List D → Option (List Bool)
  | [] => some []
  | .bl b :: r => (unB r).map (b :: ·)
  | _ :: _ => none
theorem unB_ok {c : Cfg} {H : Hp} : ∀ {vs : List V} {ds : List D} {bs : List Bool}, RpAll c H vs ds → unB ds = some bs → vs = bs.map V.bl
  | _, _, _, .nil, e => by
    cases e
    rfl
  | _, d :: ds, bs, .cons r t, e => by
    cases d <;> first | cases e; done | skip
    rw [unB, Option.map_eq_some_iff] at e
    obtain ⟨es, e1, e2⟩ := e
    subst e2
    rw [unB_ok t e1, rp_bl r]
    rfl
def gAll : List Sl → DK → Prop := fun ss k => match ss with
  | [.d (.lst xs)] => match unB xs with
    | some bs => k (.d (.bl (bs.all id)))
    | none => False
  | _ => False
def gAny : List Sl → DK → Prop := fun ss k => match ss with
  | [.d (.lst xs)] => match unB xs with
    | some bs => k (.d (.bl (bs.any id)))
    | none => False
  | _ => False
theorem oc_all : OC K (rAll K) gAll := fun c H vs ss k Q eK hi r h q => by
  subst eK
  unfold gAll at h
  split at h
  · split at h
    · rename_i bs e
      obtain ⟨v, rfl, w, ew, rr⟩ := paired1 r
      cases ew
      cases rr with
      | lst nf il ra =>
        have z : SqL c.K H _ _ := .inl il
        rw [unB_ok ra e] at z
        exact ⟨_, bs, rfl, z, q _ (.d (.bl _)) H (Go.self hi) ⟨_, rfl, .bl _⟩ h⟩
    · exact h.elim
  · exact h.elim
/-- int of an int or a truth -/
def gInt : List Sl → DK → Prop := fun ss k => match ss with
  | [.d (.int i)] => k (.d (.int i))
  | [.d (.bl b)] => k (.d (.int (if b then 1 else 0)))
  | _ => False
theorem oc_int : OC K (fun xs H Q => (∃ i, xs = [.int i] ∧ Q (.int i) H) ∨ ∃ k, xs = [.bl k] ∧ Q (.int (if k then 1 else 0)) H) gInt := fun c H vs ss k Q eK hi r h q => by
  unfold gInt at h
  split at h
  · obtain ⟨v, rfl, rr⟩ := paired1 r
    have e := sl_int rr
    subst e
    exact .inl ⟨_, rfl, q _ (.d (.int _)) H (Go.self hi) ⟨_, rfl, .int _⟩ h⟩
  · obtain ⟨v, rfl, rr⟩ := paired1 r
    have e := sl_bl rr
    subst e
    exact .inr ⟨_, rfl, q _ (.d (.int _)) H (Go.self hi) ⟨_, rfl, .int _⟩ h⟩
  · exact h.elim
/-- max, min of two ints, abs -/
def gI2 (f : Int → Int → Int) : List Sl → DK → Prop := fun ss k => match ss with
  | [.d (.int i), .d (.int j)] => k (.d (.int (f i j)))
  | _ => False
def gI1 (f : Int → Int) : List Sl → DK → Prop := fun ss k => match ss with
  | [.d (.int i)] => k (.d (.int (f i)))
  | _ => False
theorem oc_I2 {f : Int → Int → Int} : OC K (fun xs H Q => ∃ i j, xs = [.int i, .int j] ∧ Q (.int (f i j)) H) (gI2 f) := fun c H vs ss k Q eK hi r h q => by
  unfold gI2 at h
  split at h
  · obtain ⟨v, w, rfl, rr, r2⟩ := paired2 r
    have e := sl_int rr
    subst e
    have e := sl_int r2
    subst e
    exact ⟨_, _, rfl, q _ (.d (.int _)) H (Go.self hi) ⟨_, rfl, .int _⟩ h⟩
  · exact h.elim
theorem oc_I1 {f : Int → Int} : OC K (fun xs H Q => ∃ i, xs = [.int i] ∧ Q (.int (f i)) H) (gI1 f) := fun c H vs ss k Q eK hi r h q => by
  unfold gI1 at h
  split at h
  · obtain ⟨v, rfl, rr⟩ := paired1 r
    have e := sl_int rr
    subst e
    exact ⟨_, rfl, q _ (.d (.int _)) H (Go.self hi) ⟨_, rfl, .int _⟩ h⟩
  · exact h.elim
/-! ### isinstance with a built-in class -/
inductive Ty where
  | int | bool | str | list | tuple | dict
def Ty.nm : Ty → String
  | .int => "int"
  | .bool => "bool"
  | .str => "str"
  | .list => "list"
  | .tuple => "tuple"
  | .dict => "dict"
def isTy : Ty → D → Bool
  | .int, .int _ => true
  | .int, .bl _ => true
  | .bool, .bl _ => true
  | .str, .str _ => true
  | .list, .lst _ => true
  | .tuple, .tup _ => true
  | .dict, .dic _ => true
  | _, _ => false
def isObj : D → Bool
  | .obj _ _ => true
  | .scr _ => true
  | _ => false
def gIs (T : Ty) : List Sl → DK → Prop := fun ss k => match ss with
  | [.d x, .v (.ty n)] => n = T.nm ∧ isObj x = false ∧ k (.d (.bl (isTy T x)))
  | _ => False
theorem kitN {K : PySem.W.Frag} (T : Ty) : PySem.W.kitOne K (.type "NoneType") (.type T.nm) = some false := by cases T <;> first | exact kit_ty (show kitB _ _ = some true from by decide +kernel) | exact kit_ty (show kitB _ _ = some false from by decide +kernel)
theorem kitBl {K : PySem.W.Frag} (T : Ty) (b : Bool) : PySem.W.kitOne K (.type "bool") (.type T.nm) = some (isTy T (.bl b)) := by cases T <;> first | exact kit_ty (show kitB _ _ = some true from by decide +kernel) | exact kit_ty (show kitB _ _ = some false from by decide +kernel)
theorem kitI {K : PySem.W.Frag} (T : Ty) (b : Int) : PySem.W.kitOne K (.type "int") (.type T.nm) = some (isTy T (.int b)) := by cases T <;> first | exact kit_ty (show kitB _ _ = some true from by decide +kernel) | exact kit_ty (show kitB _ _ = some false from by decide +kernel)
theorem kitS {K : PySem.W.Frag} (T : Ty) (b : Str) : PySem.W.kitOne K (.type "str") (.type T.nm) = some (isTy T (.str b)) := by cases T <;> first | exact kit_ty (show kitB _ _ = some true from by decide +kernel) | exact kit_ty (show kitB _ _ = some false from by decide +kernel)
theorem kitL {K : PySem.W.Frag} (T : Ty) (b : List D) : PySem.W.kitOne K (.type "list") (.type T.nm) = some (isTy T (.lst b)) := by cases T <;> first | exact kit_ty (show kitB _ _ = some true from by decide +kernel) | exact kit_ty (show kitB _ _ = some false from by decide +kernel)
theorem kitT {K : PySem.W.Frag} (T : Ty) (b : List D) : PySem.W.kitOne K (.type "tuple") (.type T.nm) = some (isTy T (.tup b)) := by cases T <;> first | exact kit_ty (show kitB _ _ = some true from by decide +kernel) | exact kit_ty (show kitB _ _ = some false from by decide +kernel)
theorem kitD {K : PySem.W.Frag} (T : Ty) (b : List (Key × D)) : PySem.W.kitOne K (.type "dict") (.type T.nm) = some (isTy T (.dic b)) := by cases T <;> first | exact kit_ty (show kitB _ _ = some true from by decide +kernel) | exact kit_ty (show kitB _ _ = some false from by decide +kernel)
/-- a type for what is no object of an own class -/
theorem rp_ty {c : Cfg} {H : Hp} {v : V} {d : D} (h : Rp c H v d) (n : isObj d = false) : ∃ t, TyX c.K H v t ∧ ∀ T : Ty, PySem.W.kitOne c.K t (.type T.nm) = some (isTy T d) := by
  cases h with
  | non => exact ⟨_, .base .non, fun T => by cases T <;> exact kitN _⟩
  | bl b => exact ⟨_, .base (.bl _), fun T => kitBl T b⟩
  | int b => exact ⟨_, .base (.int _), fun T => kitI T b⟩
  | str b => exact ⟨_, .base (.str _), fun T => kitS T b⟩
  | @lst a xs ds nf il ra =>
    refine ⟨.type "list", ?_, fun T => kitL T ds⟩
    rcases il with il | ⟨o, il⟩
    · exact .base (.lst il)
    · exact .base (.frz il)
  | scr _ _ => cases n
  | @tup a xs ds il ra =>
    refine ⟨.type "tuple", ?_, fun T => kitT T ds⟩
    rcases il with ⟨_, il | ⟨o, il⟩⟩ | ⟨o, _, _, e, cl, _⟩
    · exact .base (.tup il)
    · exact .fTuple il
    · exact .kTuple e cl
  | obj _ _ _ => cases n
  | @dic a kvs ds nf il ra =>
    refine ⟨.type "dict", ?_, fun T => kitD T ds⟩
    rcases il with il | ⟨o, il⟩
    · exact .base (.dK il)
    · exact .fDict il
theorem oc_is (T : Ty) : OC K (rIsi K) (gIs T) := fun c H vs ss k Q eK hi r h q => by
  subst eK
  unfold gIs at h
  split at h
  · rename_i x n
    obtain ⟨v, w, rfl, ⟨z, ez, rr⟩, r2⟩ := paired2 r
    cases ez
    have ew : w = .ty n := Option.some.inj r2
    subst ew
    obtain ⟨en, no, hk⟩ := h
    subst en
    obtain ⟨t, ht, hT⟩ := rp_ty rr no
    exact ⟨_, _, _, _, _, rfl, .ty _, ht, hT T, q _ (.d (.bl _)) H (Go.self hi) ⟨_, rfl, .bl _⟩ hk⟩
  · exact h.elim
/-! ### walks -/
structure WalkD (c : Cfg) (J : It) (xs : List D) (φ : Hp → Prop) : Prop where
  st : ∀ {H H' : Hp}, Kp c.F H H' → φ H → φ H'
  go : ∀ i H, φ H → c.I H → i < xs.length → J.go i H
  stop : ∀ i H, φ H → xs.length ≤ i → J.stop i H
  yld : ∀ i H x H' d, φ H → c.I H → xs[i]? = some d → J.yld i H x H' → Go c H H' ∧ Rp c H' x d
/-- a walk that stands at H, also beside a new thing that changes -/
structure WalkOk (c : Cfg) (J : It) (xs : List D) (H : Hp) : Prop where
  now : ∃ φ, WalkD c J xs φ ∧ φ H
  own : ∀ a, H a = none → ∃ φ : Hp → Prop, φ H ∧ ∀ o ha, WalkD (c.own a o ha) J xs φ
abbrev DI := Gm → (List D → Prop) → Prop
def LiI (K : PySem.W.Frag) (W : WX) (xw : XW) (wi : TI) (di : DI) : Prop := ∀ c : Cfg, c.K = K → WOk c W xw → ∀ Γ k, di Γ k → ∀ σ H, StOk c σ H Γ → ∀ R : It → Hp → Prop,
  (∀ J H1 xs, Go c H H1 → WalkOk c J xs H1 → k xs → R J H1) → wi σ H R
structure PDI (X : Cx) (W : WX) (xw : XW) (tg iter : Expr) (wi : TI) (di : DI) : Prop where
  pi : Takes X W → PI X tg iter wi
  li : LiI X.K W xw wi di
/-- a list or a tuple -/
def iSeq (K : PySem.W.Frag) (tl : TE) : TI := fun σ H R => tl σ H fun x H1 => (∃ a, x = .ref a ∧ (∃ xs, SqL K H1 a xs) ∧ R (Itl K a) H1) ∨ (∃ a, x = .ref a ∧ (∃ xs, SqT K H1 a xs) ∧ R (Itt K a) H1)
theorem pi_seq {tg l : Expr} {tl : TE} (hl : PE X l tl) : PI X tg l (iSeq X.K tl) := by
  refine ⟨fun pins s σ H R I h => ?_⟩
  refine thn (hl.run pins s σ H _ I h) fun v s1 ⟨x, H1, I1, r1, q1⟩ => ?_
  rcases q1 with ⟨a, e, ⟨xs, hq⟩, q⟩ | ⟨a, e, ⟨xs, hq⟩, q⟩
  · subst e
    cases r1
    obtain ⟨its, rv, p, hz⟩ := I1.list hq
    refine wpAny_pyIter_list p.isList ?_
    refine ⟨s1.heap.objs.size, [s1.heap.objs.size], _, _, H1, rfl, I1.kept (t' := s1.toks) fun b o e => Heap.get?_push_of_some _ e, turn_list a _, ⟨_, Heap.get?_push_size _ rfl, rfl, rfl⟩, fun b hb => ?_, q⟩
    have e : b = s1.heap.objs.size := by simpa using hb
    subst e
    exact I1.fpOk (Nat.le_refl _) (I1.hok.fresh (Nat.le_refl _))
  · subst e
    cases r1
    obtain ⟨its, rv, p, hz⟩ := I1.tuple hq
    refine wpAny_pyIter_tuple (show s1.heap.IsTuple a its.toArray from p) ?_
    refine ⟨s1.heap.objs.size, [s1.heap.objs.size], _, _, H1, rfl, I1.kept (t' := s1.toks) fun b o e => Heap.get?_push_of_some _ e, turn_tuple a _, ⟨_, Heap.get?_push_size _ rfl, rfl, rfl⟩, fun b hb => ?_, q⟩
    have e : b = s1.heap.objs.size := by simpa using hb
    subst e
    exact I1.fpOk (Nat.le_refl _) (I1.hok.fresh (Nat.le_refl _))
theorem walk_l {c : Cfg} {a : Addr} {vs : List V} {xs : List D} : WalkD c (Itl c.K a) xs (fun H => InL c H a vs ∧ RpAll c H vs xs) where
  st := fun k h => ⟨h.1.to rfl (fun _ z => z) k, h.2.go k⟩
  go := fun i H h _ l => ⟨vs, vs[i]'(by rw [h.2.length]; exact l), h.1.sq, List.getElem?_eq_some_iff.mpr ⟨by rw [h.2.length]; exact l, rfl⟩⟩
  stop := fun i H h l => ⟨vs, h.1.sq, by rw [h.2.length]; exact l⟩
  yld := fun i H x H' d h hi e y => by
    obtain ⟨e1, e2⟩ := y
    subst e1
    obtain ⟨v, h1, h2⟩ := h.2.get e
    have e3 := e2 vs h.1.sq
    rw [h1] at e3
    cases e3
    exact ⟨Go.self hi, h2⟩
theorem walk_t {c : Cfg} {a : Addr} {vs : List V} {xs : List D} : WalkD c (Itt c.K a) xs (fun H => InT c H a vs ∧ RpAll c H vs xs) where
  st := fun k h => ⟨h.1.to rfl (fun _ z => z) k, h.2.go k⟩
  go := fun i H h _ l => ⟨vs, vs[i]'(by rw [h.2.length]; exact l), h.1.sq, List.getElem?_eq_some_iff.mpr ⟨by rw [h.2.length]; exact l, rfl⟩⟩
  stop := fun i H h l => ⟨vs, h.1.sq, by rw [h.2.length]; exact l⟩
  yld := fun i H x H' d h hi e y => by
    obtain ⟨e1, e2⟩ := y
    subst e1
    obtain ⟨v, h1, h2⟩ := h.2.get e
    have e3 := e2 vs h.1.sq
    rw [h1] at e3
    cases e3
    exact ⟨Go.self hi, h2⟩
theorem walkOk_l {c : Cfg} {a : Addr} {vs : List V} {xs : List D} {H : Hp} (il : InL c H a vs) (ra : RpAll c H vs xs) : WalkOk c (Itl c.K a) xs H :=
  ⟨⟨_, walk_l, il, ra⟩, fun b nb => ⟨fun H => ((¬ (c.F a ∨ a = b) ∧ Rd H a (.lst vs)) ∨ KL c.K a vs) ∧ ∀ o ha, RpAll (c.own b o ha) H vs xs, ⟨il.elim (fun z => .inl ⟨fun y => y.elim z.1 fun e => by
      subst e
      rcases z.2 with z | ⟨_, z⟩ <;> (rw [nb] at z; cases z), z.2⟩) .inr, fun o ha => ra.own nb⟩, fun o ha => by
    have w : WalkD (c.own b o ha) (Itl (c.own b o ha).K a) xs (fun H => InL (c.own b o ha) H a vs ∧ RpAll (c.own b o ha) H vs xs) := walk_l
    exact ⟨fun k h => ⟨(InL.to (c := c.own b o ha) (c' := c.own b o ha) rfl (fun _ z => z) k h.1), fun o' ha' => RpAll.to (c := c.own b o' ha') (c' := c.own b o' ha') rfl (fun _ z => z) k (h.2 o' ha')⟩,
      fun i H h => w.go i H ⟨h.1, h.2 o ha⟩, fun i H h => w.stop i H ⟨h.1, h.2 o ha⟩, fun i H x H' d h => w.yld i H x H' d ⟨h.1, h.2 o ha⟩⟩⟩⟩
theorem walkOk_t {c : Cfg} {a : Addr} {vs : List V} {xs : List D} {H : Hp} (il : InT c H a vs) (ra : RpAll c H vs xs) : WalkOk c (Itt c.K a) xs H :=
  ⟨⟨_, walk_t, il, ra⟩, fun b nb => ⟨fun H => ((¬ (c.F a ∨ a = b) ∧ Rd H a (.tup vs)) ∨ KT c.K a vs) ∧ ∀ o ha, RpAll (c.own b o ha) H vs xs, ⟨il.elim (fun z => .inl ⟨fun y => y.elim z.1 fun e => by
      subst e
      rcases z.2 with z | ⟨_, z⟩ <;> (rw [nb] at z; cases z), z.2⟩) .inr, fun o ha => ra.own nb⟩, fun o ha => by
    have w : WalkD (c.own b o ha) (Itt (c.own b o ha).K a) xs (fun H => InT (c.own b o ha) H a vs ∧ RpAll (c.own b o ha) H vs xs) := walk_t
    exact ⟨fun k h => ⟨(InT.to (c := c.own b o ha) (c' := c.own b o ha) rfl (fun _ z => z) k h.1), fun o' ha' => RpAll.to (c := c.own b o' ha') (c' := c.own b o' ha') rfl (fun _ z => z) k (h.2 o' ha')⟩,
      fun i H h => w.go i H ⟨h.1, h.2 o ha⟩, fun i H h => w.stop i H ⟨h.1, h.2 o ha⟩, fun i H x H' d h => w.yld i H x H' d ⟨h.1, h.2 o ha⟩⟩⟩⟩
def diSeq (a : DE) : DI := fun Γ k => a Γ fun s => match s with
  | .d (.lst xs) => k xs
  | .d (.tup xs) => k xs
  | _ => False
theorem pdi_seq {tg l : Expr} {tl : TE} {dl : DE} (h : PD X W xw l tl dl) : PDI X W xw tg l (iSeq X.K tl) (diSeq dl) :=
  ⟨fun tk => pi_seq (h.pe tk), fun c eK hW Γ k hk σ H st R q => h.li c eK hW Γ _ hk σ H st _ fun v s H1 g1 r1 h1 => by
    rw [← eK]
    try dsimp only at h1
    split at h1
    · obtain ⟨w, e, rr⟩ := r1
      cases e
      cases rr with
      | lst nf il ra => exact .inl ⟨_, rfl, ⟨_, .inl il⟩, q _ H1 _ g1 (walkOk_l (.inl ⟨nf, il⟩) ra) h1⟩
    · obtain ⟨w, e, rr⟩ := r1
      cases e
      cases rr with
      | tup il ra => exact .inr ⟨_, rfl, ⟨_, il.sq⟩, q _ H1 _ g1 (walkOk_t il ra) h1⟩
    · exact h1.elim⟩
/-- range(n) -/
def intsFrom (lo : Int) : Nat → List D
  | 0 => []
  | n + 1 => .int lo :: intsFrom (lo + 1) n
theorem intsFrom_length (lo : Int) (n : Nat) : (intsFrom lo n).length = n := by
  induction n generalizing lo with
  | zero => rfl
  | succ n ih => rw [intsFrom, List.length_cons, ih]
theorem intsFrom_get {lo : Int} {n i : Nat} {d : D} (h : (intsFrom lo n)[i]? = some d) : d = .int (lo + i) := by
  induction n generalizing lo i with
  | zero => simp [intsFrom] at h
  | succ n ih =>
    cases i with
    | zero =>
      simp [intsFrom] at h
      rw [← h]
      simp
    | succ i =>
      rw [intsFrom, List.getElem?_cons_succ] at h
      rw [ih h]
      congr 1
      omega
theorem walk_r {c : Cfg} {lo : Int} {n : Nat} : WalkD c (Itr lo n) (intsFrom lo n) (fun _ => True) where
  st := fun _ h => h
  go := fun i H _ _ l => by rw [intsFrom_length] at l; exact l
  stop := fun i H _ l => by rw [intsFrom_length] at l; exact l
  yld := fun i H x H' d _ hi e y => by
    obtain ⟨e1, e2⟩ := y
    subst e1 e2
    rw [intsFrom_get e]
    exact ⟨Go.self hi, .int _⟩
def diRange1 (a : DA) : DI := fun Γ k => a Γ fun ss => match ss with
  | [.d (.int n)] => (-(2 ^ 62) ≤ n ∧ n < 2 ^ 62) ∧ k (intsFrom 0 n.toNat)
  | _ => False
theorem pdi_range1 {tg e : Expr} {p pos : Pos} {ta : TA} {da : DA} (hm : X.mg "range" = none) (a : PDA X W xw [e] ta da) (hg : Gl X "range" := by rfl) (hs : starEach [e] X.env = [(false, eval e X.env)] := by rfl) : PDI X W xw tg (.Call (.Name "range" p) [e] [] pos) (iRng1 ta) (diRange1 da) :=
  ⟨fun tk => pi_range1 hg hm (a.pa tk) hs, fun c eK hW Γ k hk σ H st R q => a.li c eK hW Γ _ hk σ H st _ fun vs ss H1 g1 r1 h1 => by
    try dsimp only at h1
    split at h1
    · obtain ⟨v, rfl, rr⟩ := paired1 r1
      have e := sl_int rr
      subst e
      exact ⟨_, rfl, h1.1.1, h1.1.2, q _ H1 _ g1 ⟨⟨_, walk_r, trivial⟩, fun _ _ => ⟨fun _ => True, trivial, fun _ _ => walk_r⟩⟩ h1.2⟩
    · exact h1.elim⟩
/-! ### comprehensions with one name -/
def wipeD (Γ : Gm) (i : Nat) : Gm := Γ.set i .any
def lcD (i : Nat) (ts : DT) (e : DE) (Γ : Gm) : List D → (List D → Prop) → Prop
  | [], k => k []
  | x :: r, k => ts (Γ.set i (.d x)) fun b => cond b (e (Γ.set i (.d x)) fun s => match s with
    | .d y => lcD i ts e Γ r fun ys => k (y :: ys)
    | _ => False) (lcD i ts e Γ r k)
def dLc (i : Nat) (di : DI) (ts : DT) (e : DE) : DE := fun Γ k => di Γ fun xs => xs.length ≤ 100000 ∧ lcD i ts e Γ xs fun ys => k (.d (.lst ys))
def dYes : DT := fun _ k => k true
theorem li_lc {i : Nat} {wi : TI} {tt : TT} {te : TE} {di : DI} {ts : DT} {e : DE} (hi : LiI K W xw wi di) (ht : LiT K W0 xw0 tt ts) (he : Li K W0 xw0 te e) : Li K W xw (tLc wi (gName i) tt te [i]) (dLc i di ts e) := fun c eK hW Γ k hk σ H st Q q => by
  refine hi c eK hW Γ _ hk σ H st _ fun J H1 xs g1 wo hxs => fun q0 nD => ?_
  obtain ⟨hl, hk⟩ := hxs
  obtain ⟨φ, hφ, wk⟩ := wo.own q0 nD
  have nP : ¬ c.pl q0 := c.noPl g1.inv nD
  have nF : ¬ c.F q0 := c.fresh g1.inv nD
  -- beside the new list, with the walk's own and all that stood
  let G : Addr → Prop := fun b => c.F b ∨ b = q0
  have kD : ∀ {H : Hp} {o : HO}, Kp G H (upd H q0 o) := fun {H o} b u nb e => by
    rw [upd_ne (fun y => nb (.inr y))]
    exact e
  refine ⟨fun n m H => m = xs.length - n ∧ n ≤ xs.length ∧ φ H ∧ Kp G H1 H ∧ ∃ (acc : List V) (ys : List D), StOk (c.own q0 (.lst acc) nP) σ H Γ ∧ RpAll (c.own q0 (.lst acc) nP) H acc ys ∧ acc.length ≤ n ∧ lcD i ts e Γ (xs.drop n) (fun zs => k (.d (.lst (ys ++ zs)))), ⟨xs.length, by simp, Nat.zero_le _, (wk (.lst []) nP).st kD hφ, kD, [], [], (st.go g1).own nD, .nil, Nat.le_refl _, by simpa using hk⟩, ?_⟩
  rintro n m H2 ⟨rfl, hn, hf, kk, acc, ys, sk, ra, la, hd⟩
  by_cases hlt : n < xs.length
  · refine .inr ⟨(wk (.lst acc) nP).go n H2 hf sk.inv hlt, fun H' => n + 1 ≤ xs.length ∧ φ H' ∧ Kp G H1 H' ∧ ∃ (acc : List V) (ys : List D), StOk (c.own q0 (.lst acc) nP) σ H' Γ ∧ RpAll (c.own q0 (.lst acc) nP) H' acc ys ∧ acc.length ≤ n + 1 ∧ lcD i ts e Γ (xs.drop (n + 1)) (fun zs => k (.d (.lst (ys ++ zs)))), fun H' z => ⟨xs.length - (n + 1), by omega, rfl, z⟩, fun x H' y => ?_⟩
    have ex : xs[n]? = some xs[n] := List.getElem?_eq_some_iff.mpr ⟨hlt, rfl⟩
    obtain ⟨g2, rx⟩ := (wk (.lst acc) nP).yld n H2 x H' xs[n] hf sk.inv ex y
    rw [List.drop_eq_getElem_cons hlt, lcD] at hd
    have ew : wipe σ [i] = σ.set i none := rfl
    refine ⟨by rw [ew]; simp [wipe], ?_⟩
    rw [ew, List.set_set]
    have s2 : StOk (c.own q0 (.lst acc) nP) (σ.set i (some x)) H' (Γ.set i (.d xs[n])) := (sk.go g2).set ⟨x, rfl, rx⟩
    refine ht (c.own q0 (.lst acc) nP) eK WOk.zero _ _ hd _ H' s2 _ fun b H3 g3 hb => ?_
    have st3 : ∀ {H3 : Hp}, Go (c.own q0 (.lst acc) nP) H2 H3 → φ H3 ∧ Kp G H1 H3 := fun {H3} g => ⟨(wk (.lst acc) nP).st g.keep hf, kk.trans g.keep⟩
    cases b
    · rw [if_neg Bool.false_ne_true]
      have g23 := g2.trans g3
      exact ⟨hlt, (st3 g23).1, (st3 g23).2, acc, ys, sk.go g23, ra.go g23.keep, by omega, hb⟩
    · rw [if_pos rfl]
      refine he (c.own q0 (.lst acc) nP) eK WOk.zero _ _ hb _ H3 (s2.go g3) _ fun v s H4 g4 rv hv => ?_
      try dsimp only at hv
      have g24 := (g2.trans g3).trans g4
      split at hv
      · rename_i yy
        obtain ⟨w, ew', rr⟩ := rv
        cases ew'
        have sk4 := sk.go g24
        refine ⟨acc, sk4.inv.2, Nat.lt_of_le_of_lt la (Nat.lt_of_lt_of_le hlt (sz hl)), hlt, (wk (.lst acc) nP).st kD (st3 g24).1, (st3 g24).2.trans kD, acc ++ [v], ys ++ [yy], sk4.put, ?_, by rw [List.length_append]; simp; omega, ?_⟩
        · have kd : Kp (c.own q0 (.lst acc) nP).F H4 (upd H4 q0 (.lst (acc ++ [v]))) := kD
          exact RpAll.append (RpAll.to (c := c.own q0 (.lst acc) nP) (c' := c.own q0 (.lst (acc ++ [v])) nP) rfl (fun _ z => z) kd (ra.go g24.keep)) (.cons (Rp.to (c := c.own q0 (.lst acc) nP) (c' := c.own q0 (.lst (acc ++ [v])) nP) rfl (fun _ z => z) kd rr) .nil)
        · simpa using hv
      · exact hv.elim
  · have en : n = xs.length := by omega
    subst en
    rw [List.drop_length] at hd
    refine .inl ⟨(wk (.lst acc) nP).stop _ H2 hf (Nat.le_refl _), q (.ref q0) (.d (.lst ys)) H2 (g1.trans ⟨fun b u nb eb => kk b u (fun z => z.elim nb fun y => by
      rw [y, nD] at eb
      cases eb) eb, Le.own.I _ sk.inv⟩) ⟨_, rfl, .lst nF (.inl sk.inv.2) (ra.le Le.own)⟩ (by simpa [lcD] using hd)⟩
end
end Dv
set_option Elab.async false
set_option linter.all false
set_option maxRecDepth 100000
set_option maxHeartbeats 4000000
/-! Ds: statements over plain data. -/
namespace Dv
open PySem L2
structure DEnds where
  nx : Gm → Prop
  rt : Sl → Prop := fun _ => False
  bk : Gm → Prop := fun _ => False
  ct : Gm → Prop := fun _ => False
abbrev DS := DEnds → Gm → Prop
structure EndsOk (c : Cfg) (E : Ends) (D : DEnds) : Prop where
  nx : ∀ Γ σ H, StOk c σ H Γ → D.nx Γ → E.nx σ H
  rt : ∀ v s H, c.I H → SlOk c H (some v) s → D.rt s → E.rt v H
  bk : ∀ Γ σ H, StOk c σ H Γ → D.bk Γ → E.bk σ H
  ct : ∀ Γ σ H, StOk c σ H Γ → D.ct Γ → E.ct σ H
theorem EndsOk.le {c c' : Cfg} {E : Ends} {D : DEnds} (l : Le c c') (h : EndsOk c E D) : EndsOk c' E D :=
  ⟨fun Γ σ H s q => h.nx Γ σ H (s.le l) q, fun v s H i r q => h.rt v s H (l.I _ i) (r.le l) q, fun Γ σ H s q => h.bk Γ σ H (s.le l) q, fun Γ σ H s q => h.ct Γ σ H (s.le l) q⟩
def LiS (K : PySem.W.Frag) (W : WX) (xw : XW) (ts : TS) (ds : DS) : Prop := ∀ c : Cfg, c.K = K → WOk c W xw → ∀ (E : Ends) (D : DEnds), EndsOk c E D → ∀ Γ σ H, StOk c σ H Γ → ds D Γ → ts E σ H
structure PDS (X : Cx) (W : WX) (xw : XW) (st : Stmt) (ts : TS) (ds : DS) : Prop where
  ps : Takes X W → PS X st ts
  li : LiS X.K W xw ts ds
structure PDSs (X : Cx) (W : WX) (xw : XW) (st : List Stmt) (ts : TS) (ds : DS) : Prop where
  ps : Takes X W → PSs X st ts
  li : LiS X.K W xw ts ds
section
variable {X : Cx} {W : WX} {xw : XW} {K : PySem.W.Frag} {pos : Pos}
def dNext : DS := fun D Γ => D.nx Γ
def dSeq (a b : DS) : DS := fun D Γ => a { D with nx := b D } Γ
def dBreak : DS := fun D Γ => D.bk Γ
def dCont : DS := fun D Γ => D.ct Γ
def dRet (e : DE) : DS := fun D Γ => e Γ D.rt
def dRetN : DS := fun D _ => D.rt (.d .non)
def dDrop (e : DE) : DS := fun D Γ => e Γ fun _ => D.nx Γ
def dIfS (t : DT) (a b : DS) : DS := fun D Γ => t Γ fun v => cond v (a D Γ) (b D Γ)
def dAsg (i : Nat) (e : DE) : DS := fun D Γ => e Γ fun s => D.nx (Γ.set i s)
section
variable {st : Stmt} {rest : List Stmt} {t u : TS} {d e : DS}
theorem pdss_nil : PDSs X W xw [] tNext dNext := ⟨fun tk => pss_nil, fun c eK hW E D o Γ σ H s h => o.nx Γ σ H s h⟩
theorem li_seq (h1 : LiS K W xw t d) (h2 : LiS K W xw u e) : LiS K W xw (tSeq t u) (dSeq d e) := fun c eK hW E D o Γ σ H s h =>
  h1 c eK hW { E with nx := u E } { D with nx := e D } ⟨fun Γ σ H s q => h2 c eK hW E D o Γ σ H s q, o.rt, o.bk, o.ct⟩ Γ σ H s h
theorem pdss_cons (h1 : PDS X W xw st t d) (h2 : PDSs X W xw rest u e) : PDSs X W xw (st :: rest) (tSeq t u) (dSeq d e) := ⟨fun tk => pss_cons (h1.ps tk) (h2.ps tk), li_seq h1.li h2.li⟩
theorem pdss_one (h1 : PDS X W xw st t d) : PDSs X W xw [st] t d := ⟨fun tk => pss_one (h1.ps tk), h1.li⟩
theorem pds_pass : PDS X W xw (.Pass pos) tNext dNext := ⟨fun tk => ps_pass, fun c eK hW E D o Γ σ H s h => o.nx Γ σ H s h⟩
theorem pds_break : PDS X W xw (.Break pos) tBreak dBreak := ⟨fun tk => ps_break, fun c eK hW E D o Γ σ H s h => o.bk Γ σ H s h⟩
theorem pds_continue : PDS X W xw (.Continue pos) tCont dCont := ⟨fun tk => ps_continue, fun c eK hW E D o Γ σ H s h => o.ct Γ σ H s h⟩
theorem pds_ret {a : Expr} {ta : TE} {da : DE} (h : PD X W xw a ta da) : PDS X W xw (.Return (some a) pos) (tRet ta) (dRet da) :=
  ⟨fun tk => ps_ret (h.pe tk), fun c eK hW E D o Γ σ H s hd => h.li c eK hW Γ _ hd σ H s _ fun v s' H1 g r q => o.rt v s' H1 g.inv r q⟩
theorem pds_retN : PDS X W xw (.Return none pos) tRetN dRetN := ⟨fun tk => ps_retN, fun c eK hW E D o Γ σ H s hd => o.rt .non (.d .non) H s.inv ⟨_, rfl, .non⟩ hd⟩
theorem pds_expr {a : Expr} {ta : TE} {da : DE} (h : PD X W xw a ta da) (hs : swapsWith a none pos.line X.env = pure false := by rfl) : PDS X W xw (.Expr a pos) (tDrop ta) (dDrop da) :=
  ⟨fun tk => ps_expr (h.pe tk) hs, fun c eK hW E D o Γ σ H s hd => h.li c eK hW Γ _ hd σ H s _ fun v s' H1 g r q => o.nx Γ σ H1 (s.go g) q⟩
theorem pds_if {c0 : Expr} {a b : List Stmt} {tc : TT} {dc : DT} (hc : PDT X W xw c0 tc dc) (ha : PDSs X W xw a t d) (hb : PDSs X W xw b u e) : PDS X W xw (.If c0 a b pos) (tIfS tc t u) (dIfS dc d e) :=
  ⟨fun tk => ps_if (hc.pt tk) (ha.ps tk) (hb.ps tk), fun c eK hW E D o Γ σ H s hd => hc.li c eK hW Γ _ hd σ H s _ fun v H1 g h1 => by
    cases v
    · rw [if_neg Bool.false_ne_true]
      exact hb.li c eK hW E D o Γ σ H1 (s.go g) h1
    · rw [if_pos rfl]
      exact ha.li c eK hW E D o Γ σ H1 (s.go g) h1⟩
theorem pds_set {i : Nat} {x : Str} {a : Expr} {ta : TE} {da : DE} {pos' : Pos} (h : PD X W xw a ta da) (hN : X.N.Nodup) (hi : X.N[i]? = some x := by rfl) (hx : Loc X.env.scope x := by first | exact Or.inl rfl | exact Or.inr rfl) (hs : swapsWith a (some (.Name x pos')) pos.line X.env = pure false := by rfl) (hf : X.fn x = true ∨ X.env.scope.names.lookup x = some .local := by first | exact .inl rfl | exact .inr rfl | assumption) :
    PDS X W xw (.Assign [.Name x pos'] a pos) (tAsg ta (gName i)) (dAsg i da) :=
  ⟨fun tk => ps_set hN hi hx (h.pe tk) hs hf, fun c eK hW E D o Γ σ H s hd => h.li c eK hW Γ _ hd σ H s _ fun v s' H1 g r q => o.nx _ _ H1 ((s.go g).set r) q⟩
/-- a, b = x, y -/
def dPar (i j : Nat) (a : DA) : DS := fun D Γ => a Γ fun ss => match ss with
  | [s, t] => D.nx ((Γ.set i s).set j t)
  | _ => False
theorem pds_par {i j : Nat} {x y : Str} {a b : Expr} {ta : TA} {da : DA} {px py pt : Pos} {kt k2 pt2} (h : PDA X W xw [a, b] ta da) (hc : X.calm = true) (hN : X.N.Nodup) (hi : X.N[i]? = some x := by rfl) (hj : X.N[j]? = some y := by rfl) (hij : i ≠ j := by decide)
    (hx : X.env.scope.names.lookup x = some .local := by rfl) (hy : X.env.scope.names.lookup y = some .local := by rfl)
    (hw : swappedStores [.Tuple [.Name x px, .Name y py] kt pt] (.Tuple [a, b] k2 pt2) X.env = pure (some [x, y]) := by rfl)
    (hs : swapsWithSole [.Tuple [.Name x px, .Name y py] kt pt] (.Tuple [a, b] k2 pt2) pos.line X.env = pure false := by rfl) :
    PDS X W xw (.Assign [.Tuple [.Name x px, .Name y py] kt pt] (.Tuple [a, b] k2 pt2) pos) (tPar i j ta) (dPar i j da) :=
  ⟨fun tk => ps_par hc hN hi hj hij hx hy (h.pa tk) hw hs, fun c eK hW E D o Γ σ H s hd => h.li c eK hW Γ _ hd σ H s _ fun vs ss H1 g r q => by
    try dsimp only at q
    split at q
    · obtain ⟨v, w, rfl, r1, r2⟩ := paired2 r
      exact ⟨v, w, rfl, o.nx _ _ H1 (((s.go g).set r1).set r2) q⟩
    · exact q.elim⟩
end
/-! ### targets -/
abbrev DG := D → Gm → (Gm → Prop) → Prop
def LiG (K : PySem.W.Frag) (g : TG) (dg : DG) : Prop := ∀ c : Cfg, c.K = K → ∀ x d Γ σ H k, StOk c σ H Γ → Rp c H x d → dg d Γ k → ∀ Q : St → Hp → Prop, (∀ σ' Γ', StOk c σ' H Γ' → k Γ' → Q σ' H) → g x σ H Q
structure PDG (X : Cx) (tg : Expr) (g : TG) (dg : DG) : Prop where
  pg : PG X tg g
  li : LiG X.K g dg
def dgName (i : Nat) : DG := fun d Γ k => k (Γ.set i (.d d))
theorem pdg_name {i : Nat} {x : Str} (hN : X.N.Nodup) (hi : X.N[i]? = some x := by rfl) (hx : Loc X.env.scope x := by first | exact Or.inl rfl | exact Or.inr rfl) (hf : X.fn x = true ∨ X.env.scope.names.lookup x = some .local := by first | exact .inl rfl | exact .inr rfl | assumption) : PDG X (.Name x pos) (gName i) (dgName i) :=
  ⟨pg_name hN hi hx hf, fun c eK x d Γ σ H k s r h Q q => q _ _ (s.set (s := .d d) ⟨x, rfl, r⟩) h⟩
abbrev DGs := List D → Gm → (Gm → Prop) → Prop
def LiGs (K : PySem.W.Frag) (g : TGs) (dg : DGs) : Prop := ∀ c : Cfg, c.K = K → ∀ xs ds Γ σ H k, StOk c σ H Γ → RpAll c H xs ds → dg ds Γ k → ∀ Q : St → Hp → Prop, (∀ σ' Γ', StOk c σ' H Γ' → k Γ' → Q σ' H) → g xs σ H Q
structure PDGs (X : Cx) (tg : List Expr) (g : TGs) (dg : DGs) : Prop where
  pg : PGs X tg g
  li : LiGs X.K g dg
def dgNil : DGs := fun ds Γ k => match ds with
  | [] => k Γ
  | _ => False
def dgCons (a : DG) (r : DGs) : DGs := fun ds Γ k => match ds with
  | d :: ds => a d Γ fun Γ' => r ds Γ' k
  | [] => False
theorem pdgs_nil : PDGs X [] gNil dgNil := ⟨pgs_nil, fun c eK xs ds Γ σ H k s r h Q q => by
  cases r with
  | nil => exact ⟨rfl, q σ Γ s h⟩
  | cons _ _ => exact h.elim⟩
theorem pdgs_cons {e : Expr} {es : List Expr} {t : TG} {u : TGs} {a : DG} {b : DGs} (h1 : PDG X e t a) (h2 : PDGs X es u b)
    (hs : (assignEach (e :: es) X.env).map (·.2) = assign e X.env :: (assignEach es X.env).map (·.2) := by rfl) : PDGs X (e :: es) (gCons t u) (dgCons a b) :=
  ⟨pgs_cons h1.pg h2.pg hs, fun c eK xs ds Γ σ H k s r h Q q => by
    cases r with
    | nil => exact h.elim
    | cons r1 r2 => exact ⟨_, _, rfl, h1.li c eK _ _ Γ σ H _ s r1 h _ fun σ' Γ' s' h' => h2.li c eK _ _ Γ' σ' H k s' r2 h' Q q⟩⟩
def dgTup (n : Nat) (a : DGs) : DG := fun d Γ k => match d with
  | .tup xs => xs.length = n ∧ a xs Γ k
  | _ => False
theorem pdg_tup {es : List Expr} {k : _} {t : TGs} {a : DGs} {n : Nat} (hc : X.calm = true) (h : PDGs X es t a) (hn : (assignEach es X.env).length = n := by rfl) (hst : (assignEach es X.env).findIdx? (·.1) = none := by rfl) : PDG X (.Tuple es k pos) (gTup X.K n t) (dgTup n a) :=
  ⟨pg_tup hc h.pg hn hst, fun c eK x d Γ σ H k s r hd Q q => by
    unfold dgTup at hd
    split at hd
    · cases r with
      | tup il ra => exact ⟨_, _, rfl, by rw [← eK]; exact il.sq, by rw [ra.length]; exact hd.1, h.li c eK _ _ Γ σ H k s ra hd.2 Q q⟩
    · exact hd.elim⟩
/-- target = value, the value data -/
def dAsgG (g : DG) (e : DE) : DS := fun D Γ => e Γ fun s => match s with
  | .d x => g x Γ D.nx
  | _ => False
theorem pds_asg {tg a : Expr} {ta : TE} {da : DE} {g : TG} {dg : DG} (h : PD X W xw a ta da) (hg : PDG X tg g dg) (hs : swapsWithSole [tg] a pos.line X.env = pure false := by rfl) (hw : swappedStores [tg] a X.env = pure none := by rfl)
    (h1 : (assignEach [tg] X.env).map (·.2) = [assign tg X.env] := by rfl) : PDS X W xw (.Assign [tg] a pos) (tAsg ta g) (dAsgG dg da) :=
  ⟨fun tk => ps_asg (h.pe tk) hg.pg hs hw h1, fun c eK hW E D o Γ σ H s hd => h.li c eK hW Γ _ hd σ H s _ fun v s' H1 g1 r q => by
    try dsimp only at q
    split at q
    · obtain ⟨w, e, rr⟩ := r
      cases e
      exact hg.li c eK _ _ Γ σ H1 _ (s.go g1) rr q _ fun σ' Γ' s2 k2 => o.nx Γ' σ' H1 s2 k2
    · exact q.elim⟩
/-! ### for -/
def forD (g : DG) (b : DS) (E : DEnds) : List D → Gm → Prop
  | [], Γ => E.nx Γ
  | x :: r, Γ => g x Γ fun Γ' => b { E with nx := forD g b E r, ct := forD g b E r, bk := E.nx } Γ'
def dFor (di : DI) (g : DG) (b : DS) : DS := fun D Γ => di Γ fun xs => forD g b D xs Γ
theorem li_for {wi : TI} {g : TG} {tb : TS} {di : DI} {dg : DG} {b : DS} (hi : LiI K W xw wi di) (hg : LiG K g dg) (hb : LiS K W xw tb b) : LiS K W xw (tFor wi g tb) (dFor di dg b) := fun c eK hW E D o Γ σ H s hd => by
  refine hi c eK hW Γ _ hd σ H s _ fun J H1 xs g1 wo hxs => ?_
  obtain ⟨φ, wk, hφ⟩ := wo.now
  let c' := c.wth φ wk.st
  have lc : Le c c' := Le.wth
  refine ⟨fun n m σ H => m = xs.length - n ∧ n ≤ xs.length ∧ ∃ Γ, StOk c' σ H Γ ∧ forD dg b D (xs.drop n) Γ, ⟨xs.length, by simp, Nat.zero_le _, Γ, (s.go g1).wth hφ, hxs⟩, ?_⟩
  rintro n m σ2 H2 ⟨rfl, hn, Γ2, s2, hd2⟩
  by_cases hlt : n < xs.length
  · refine .inr ⟨wk.go n H2 s2.inv.2 s2.inv.1 hlt, fun σ' H' => n + 1 ≤ xs.length ∧ ∃ Γ', StOk c' σ' H' Γ' ∧ forD dg b D (xs.drop (n + 1)) Γ', fun σ' H' z => ⟨xs.length - (n + 1), by omega, rfl, z⟩, fun x H' y => ?_⟩
    have ex : xs[n]? = some xs[n] := List.getElem?_eq_some_iff.mpr ⟨hlt, rfl⟩
    obtain ⟨g2, rx⟩ := wk.yld n H2 x H' xs[n] s2.inv.2 s2.inv.1 ex y
    rw [List.drop_eq_getElem_cons hlt, forD] at hd2
    have s3 : StOk c' σ2 H' Γ2 := s2.go ⟨g2.keep, g2.inv, wk.st g2.keep s2.inv.2⟩
    refine hg c' eK x _ Γ2 σ2 H' _ s3 (Rp.to (c := c) (c' := c') rfl (fun _ z => z) Kp.self rx) hd2 _ fun σ4 Γ4 s4 h4 => ?_
    refine hb c' eK (hW.le lc) { E with nx := fun σ' H' => n + 1 ≤ xs.length ∧ ∃ Γ', StOk c' σ' H' Γ' ∧ forD dg b D (xs.drop (n + 1)) Γ', ct := fun σ' H' => n + 1 ≤ xs.length ∧ ∃ Γ', StOk c' σ' H' Γ' ∧ forD dg b D (xs.drop (n + 1)) Γ', bk := E.nx } { D with nx := forD dg b D (xs.drop (n + 1)), ct := forD dg b D (xs.drop (n + 1)), bk := D.nx } ⟨?_, (o.le lc).rt, (o.le lc).nx, ?_⟩ Γ4 σ4 H' s4 h4
    · exact fun Γ σ H s q => ⟨hlt, Γ, s, q⟩
    · exact fun Γ σ H s q => ⟨hlt, Γ, s, q⟩
  · have en : n = xs.length := by omega
    subst en
    rw [List.drop_length] at hd2
    exact .inl ⟨wk.stop _ H2 s2.inv.2 (Nat.le_refl _), o.nx Γ2 σ2 H2 (s2.le lc) hd2⟩
theorem pds_for {tg iter : Expr} {body : List Stmt} {wi : TI} {g : TG} {tb : TS} {di : DI} {dg : DG} {b : DS} (hp : PassesOwn (model X.prog X.w) X.A X.env X.xe) (hc : X.calm = true) (hi : PDI X W xw tg iter wi di) (hg : PDG X tg g dg) (hb : PDSs X W xw body tb b)
    (hs : ∀ x, foldedSetIterable iter X.env x = pure x := by intro _; rfl) : PDS X W xw (.For tg iter body [] pos) (tFor wi g tb) (dFor di dg b) := ⟨fun tk => ps_for hp hc (hi.pi tk) hg.pg (hb.ps tk) hs, li_for hi.li hg.li hb.li⟩
/-! ### raise of an error of the program -/
def dRaise (C : Addr) (xw : XW) (a : DA) : DS := fun _ Γ => a Γ fun ss => match ss with
  | [.d x] => xw C (some [(("value" : Str), x)]) Γ
  | _ => False
theorem pds_raise {nm : Str} {C D fI : Addr} {a : Expr} {ta : TA} {da : DA} {p pos pos2 : Pos} {k : Nat} (hc : X.calm = true) (T : PySem.RoomX.RoomTxt X.prog X.K X.mg D fI) (U : PySem.RoomX.RoomCls X.K X.mg nm C D fI) (hr : Room k X.A) (h : PDA X W xw [a] ta da) (hg : Gl X nm := by rfl)
    (he : starEach (a :: []) X.env = (false, eval a X.env) :: starEach [] X.env := by rfl) (hpl : (backTo pos (starEach [] X.env)).any (·.1) = false := by rfl) (hdb : (nm == ("__debug__" : Str)) = false := by decide) :
    PDS X W xw (.Raise (some (.Call (.Name nm p) [a] [] pos)) none pos2) (tRaiseRoom C W ta) (dRaise C xw da) :=
  ⟨fun tk => ps_raiseRoom hc T U hr tk (h.pa tk) hg he hpl hdb, fun c eK hW E D o Γ σ H s hd => h.li c eK hW Γ _ hd σ H s _ fun vs ss H1 g r q => by
    try dsimp only at q
    split at q
    · obtain ⟨v, rfl, w, e, rr⟩ := paired1 r
      cases e
      refine ⟨v, rfl, fun d nd => ?_⟩
      have g2 := Go.new (o := xval v) g.inv nd
      exact hW σ _ Γ C (some d) (some _) ((s.go g).go g2) ⟨_, c.fresh g.inv nd, upd_same, .cons (rr.go g2.keep) .nil⟩ q
    · exact q.elim⟩
end
end Dv
set_option Elab.async false
set_option linter.all false
set_option maxRecDepth 100000
set_option maxHeartbeats 4000000
/-! Df: defs and their contracts over plain data; try; pools. -/
namespace Dv
open PySem L2
/-- what a def tells: of arguments, of what is wanted of the value, of what is wanted of an error -/
structure Ctr where
  n : Nat
  f : List Sl → DK → (Addr → XP → Prop) → Prop
  mono : ∀ {ss : List Sl} {k k' : DK} {x x' : Addr → XP → Prop}, (∀ s, k s → k' s) → (∀ C p, x C p → x' C p) → f ss k x → f ss k' x'
def Ctr.sp (C : Ctr) (K : PySem.W.Frag) : Sp := fun vs H Q E => ∃ (c : Cfg) (ss : List Sl), c.K = K ∧ c.I H ∧ Paired (fun v s => SlOk c H (some v) s) vs ss ∧ ss.length = C.n ∧
  C.f ss (fun s => ∀ v H', Go c H H' → SlOk c H' (some v) s → Q v H') (fun A p => ∀ d H', Go c H H' → XOk c H' d p → E (.ref A) d H')
theorem paired_len {α β : Type} {F : α → β → Prop} {xs : List α} {ys : List β} (h : Paired F xs ys) : xs.length = ys.length := by
  induction h with
  | nil => rfl
  | cons _ _ ih => exact congrArg (· + 1) ih
section
variable {X : Cx} {W : WX} {xw : XW} {K : PySem.W.Frag}
def dCall (C : Ctr) (xw : XW) (a : DA) : DE := fun Γ k => a Γ fun ss => ss.length = C.n ∧ C.f ss k fun A p => xw A p Γ
section
variable {C : Ctr} {f : Addr} {fd : FuncData} {ps : List Str} {k : Nat} {x : Str} {p pos : Pos} {e : Expr} {es : List Expr} {ta : TA} {da : DA}
/-- f(..) that raises nothing here -/
theorem pd_call (F : FnOk X.prog X.w X.K X.mg X.base (L2.CX X.prog X.w) k f fd ps (C.sp X.K)) (hr : Room k X.A) (hm : X.mg x = some (.ref f)) (hk : PySem.W.keepIn X.K (.ref f) = true) (hb : Binds X.K fd ps []) (a : PDA X W xw (e :: es) ta da) (hg : Gl X x := by rfl)
    (hdb : (x == ("__debug__" : Str)) = false := by decide) (he : starEach (e :: es) X.env = (false, eval e X.env) :: starEach es X.env := by rfl) (hpl : (backTo pos (starEach es X.env)).any (·.1) = false := by rfl) :
    PD X W xw (.Call (.Name x p) (e :: es) [] pos) (tCall (C.sp X.K) [] E0 ta) (dCall C xw0 da) :=
  ⟨fun tk => pe_call F hr hg hm hk hb .nil passL (a.pa tk) hdb he hpl, fun c eK hW Γ k hd σ H st Q q => a.li c eK hW Γ _ hd σ H st _ fun vs ss H1 g r h => by
    rw [List.append_nil]
    exact ⟨c, ss, eK, g.inv, r, h.1, C.mono (fun s ks v H' g' r' => q v s H' (g.trans g') r' ks) (fun _ _ z => z.elim) h.2⟩⟩
/-- f(..) that may raise -/
theorem pd_callX (F : FnOk X.prog X.w X.K X.mg X.base (L2.CX X.prog X.w) k f fd ps (C.sp X.K)) (hr : Room k X.A) (hm : X.mg x = some (.ref f)) (hk : PySem.W.keepIn X.K (.ref f) = true) (hb : Binds X.K fd ps []) (a : PDA X W xw (e :: es) ta da) (hg : Gl X x := by rfl)
    (hdb : (x == ("__debug__" : Str)) = false := by decide) (he : starEach (e :: es) X.env = (false, eval e X.env) :: starEach es X.env := by rfl) (hpl : (backTo pos (starEach es X.env)).any (·.1) = false := by rfl) :
    PD X W xw (.Call (.Name x p) (e :: es) [] pos) (tCallS (C.sp X.K) (WE W) ta) (dCall C xw da) :=
  ⟨fun tk => pe_callS F hr hg hm hk hb (fun σ => passAt tk σ) (a.pa tk) hdb he hpl, fun c eK hW Γ k hd σ H st Q q => a.li c eK hW Γ _ hd σ H st _ fun vs ss H1 g r h =>
    ⟨c, ss, eK, g.inv, r, h.1, C.mono (fun s ks v H' g' r' => q v s H' (g.trans g') r' ks) (fun A pp z d H' g' x' => hW σ H' Γ A d pp (st.go (g.trans g')) x' z) h.2⟩⟩
end
end
/-! ### a def keeps its contract -/
def startD (N : List Str) (ss : List Sl) : Gm := ss ++ List.replicate (N.length - ss.length) .any
theorem start_ok {c : Cfg} {H : Hp} {N : List Str} {vs : List V} {ss : List Sl} (hi : c.I H) (r : Paired (fun v s => SlOk c H (some v) s) vs ss) : StOk c (L2.start N vs) H (startD N ss) := by
  have hl := paired_len r
  refine ⟨hi, by simp [L2.start, startD, hl], fun i o s e1 e2 => ?_⟩
  unfold L2.start at e1
  unfold startD at e2
  by_cases h : i < ss.length
  · rw [List.getElem?_append_left (by simpa [hl] using h), List.getElem?_map] at e1
    rw [List.getElem?_append_left h] at e2
    have key : ∀ {vs : List V} {ss : List Sl} {i : Nat}, Paired (fun v s => SlOk c H (some v) s) vs ss → Option.map some vs[i]? = some o → ss[i]? = some s → SlOk c H o s := by
      intro vs ss i r
      induction r generalizing i with
      | nil =>
        intro z
        simp at z
      | cons a b ih =>
        intro z1 z2
        cases i with
        | zero =>
          simp at z1 z2
          subst z1 z2
          exact a
        | succ i => exact ih (by simpa using z1) (by simpa using z2)
    exact key r e1 e2
  · rw [List.getElem?_append_right (by omega)] at e2
    have z : s = .any := by
      have y := List.getElem?_replicate (a := Sl.any) (n := N.length - ss.length) (i := i - ss.length)
      rw [y] at e2
      split at e2
      · exact (Option.some.inj e2).symm
      · cases e2
    rw [z]
    trivial
section
variable {P : Program} {w : World} {K : PySem.W.Frag} {mg : Str → Option Value} {base : Heap}
theorem fn_ok {x qual : Str} {st : Stmt} {f : Addr} {fd : FuncData} {N ps : List Str} {k : Nat} (C : Ctr) (F : Fun K x qual st f fd) (S : FnScope N ps (defScope st)) (hn : ps.length = C.n)
    (body : ∀ (cdv : Value) (A : Around) (outer : List Env) (s : Shared) (H : Hp) (E : XK) (xw : XW), Room k (A.deeper (PyProof.Rows.envOfC qual (defScope st) s.heap.objs.size f cdv)) →
      PassesOwn (model P w) (cxOf (L2.CX P w) P w K mg base N qual (defScope st) f cdv A outer s H E).A (cxOf (L2.CX P w) P w K mg base N qual (defScope st) f cdv A outer s H E).env (cxOf (L2.CX P w) P w K mg base N qual (defScope st) f cdv A outer s H E).xe →
      ∃ ts ds, PDSs (cxOf (L2.CX P w) P w K mg base N qual (defScope st) f cdv A outer s H E) (fun cls d _ H => E cls d H) xw (defBody st) ts ds ∧
        ∀ ss kk xx, ss.length = C.n → C.f ss kk xx → (xw = fun A p _ => xx A p) → ds { nx := fun _ => kk (.d .non), rt := kk } (startD N ss)) : FnOk P w K mg base (L2.CX P w) (k + 1) f fd ps (C.sp K) := by
  refine F.okX S (fun vs H Q E h => ?_) (fun cdv A outer s H vs Q E hr h => ?_)
  · obtain ⟨c, ss, _, _, r, hl, _⟩ := h
    rw [paired_len r, hl, hn]
  · obtain ⟨c, ss, eK, hi, r, hl, hf⟩ := h
    obtain ⟨ts, ds, pd, hd⟩ := body cdv A outer s H E (fun A p _ => ∀ d H', Go c H H' → XOk c H' d p → E (.ref A) d H') hr (passes_of rfl)
    refine ⟨ts, pd.ps (takes_of rfl rfl rfl rfl), ?_⟩
    have q := hd ss _ _ hl hf rfl
    let c' := c.wth (Kp c.F H) (fun {H1 H2} k h => h.trans k)
    have lc : Le c c' := Le.wth
    have s0 : StOk c' (L2.start N vs) H (startD N ss) := (start_ok hi r).wth Kp.self
    refine pd.li c' eK ?_ _ _ ⟨?_, ?_, ?_, ?_⟩ _ _ _ s0 q
    · exact fun σ H' Γ A d p st x z => z d H' ⟨st.inv.2, st.inv.1⟩ (x.le lc)
    · exact fun Γ σ H' st z => z .non H' ⟨st.inv.2, st.inv.1⟩ ⟨_, rfl, .non⟩
    · exact fun v s H' i r z => z v H' ⟨i.2, i.1⟩ (r.le lc)
    · exact fun _ _ _ _ z => z.elim
    · exact fun _ _ _ _ z => z.elim
/-- a def that lets nothing out -/
theorem fn_ok0 {x qual : Str} {st : Stmt} {f : Addr} {fd : FuncData} {N ps : List Str} {k : Nat} (C : Ctr) (F : Fun K x qual st f fd) (S : FnScope N ps (defScope st)) (hn : ps.length = C.n)
    (body : ∀ (cdv : Value) (A : Around) (outer : List Env) (s : Shared) (H : Hp) (E : XK), Room k (A.deeper (PyProof.Rows.envOfC qual (defScope st) s.heap.objs.size f cdv)) →
      PassesOwn (model P w) (cxOf (L2.CX P w) P w K mg base N qual (defScope st) f cdv A outer s H E).A (cxOf (L2.CX P w) P w K mg base N qual (defScope st) f cdv A outer s H E).env (cxOf (L2.CX P w) P w K mg base N qual (defScope st) f cdv A outer s H E).xe →
      ∃ ts ds, PDSs (cxOf (L2.CX P w) P w K mg base N qual (defScope st) f cdv A outer s H E) (fun cls d _ H => E cls d H) xw0 (defBody st) ts ds ∧
        ∀ ss kk xx, ss.length = C.n → C.f ss kk xx → ds { nx := fun _ => kk (.d .non), rt := kk } (startD N ss)) : FnOk P w K mg base (L2.CX P w) (k + 1) f fd ps (C.sp K) := by
  refine F.okX S (fun vs H Q E h => ?_) (fun cdv A outer s H vs Q E hr h => ?_)
  · obtain ⟨c, ss, _, _, r, hl, _⟩ := h
    rw [paired_len r, hl, hn]
  · obtain ⟨c, ss, eK, hi, r, hl, hf⟩ := h
    obtain ⟨ts, ds, pd, hd⟩ := body cdv A outer s H E hr (passes_of rfl)
    refine ⟨ts, pd.ps (takes_of rfl rfl rfl rfl), ?_⟩
    have q := hd ss _ _ hl hf
    let c' := c.wth (Kp c.F H) (fun {H1 H2} k h => h.trans k)
    have lc : Le c c' := Le.wth
    have s0 : StOk c' (L2.start N vs) H (startD N ss) := (start_ok hi r).wth Kp.self
    refine pd.li c' eK WOk.zero _ _ ⟨?_, ?_, ?_, ?_⟩ _ _ _ s0 q
    · exact fun Γ σ H' st z => z .non H' ⟨st.inv.2, st.inv.1⟩ ⟨_, rfl, .non⟩
    · exact fun v s H' i r z => z v H' ⟨i.2, i.1⟩ (r.le lc)
    · exact fun _ _ _ _ z => z.elim
    · exact fun _ _ _ _ z => z.elim
end
end Dv
set_option Elab.async false
set_option linter.all false
set_option maxRecDepth 100000
set_option maxHeartbeats 4000000
/-! Dt: comprehensions as expressions; try; the caught error; pools. -/
namespace Dv
open PySem L2
section
variable {X : Cx} {W : WX} {xw : XW} {K : PySem.W.Frag} {pos : Pos}
structure PDTs (X : Cx) (W : WX) (xw : XW) (es : List Expr) (tt : TT) (dt : DT) : Prop where
  pt : Takes X W → PTs X es tt
  li : LiT X.K W xw tt dt
theorem pdts_nil : PDTs X W xw [] tYes dYes := ⟨fun _ => pts_nil, fun c eK hW Γ k h σ H st Q q => q true H (Go.self st.inv) h⟩
theorem pdts_one {e : Expr} {t : TT} {d : DT} (h : PDT X W xw e t d) : PDTs X W xw [e] t d := ⟨fun tk => pts_one (h.pt tk), h.li⟩
/-- what may hang on the block's place, and does not -/
abbrev Blk (α : Type) := Shared → Hp → Addr → List (Str × Addr) → List Addr → α
abbrev Blk.at0 {α : Type} (X : Cx) (t : Blk α) : α := t X.s_0 X.H_0 0 [] []
/-- [e for x in xs if t] -/
theorem pd_lc {i : Nat} {x : Str} {tp : Pos} {elt iter : Expr} {ifs : List Expr} {scope : Scope} {wi : TI} {tt : Blk TT} {te : Blk TE} {di : DI} {dt : DT} {de : DE} (hc : X.calm = true) (hN : X.N.Nodup) (hi : PDI X W xw (.Name x tp) iter wi di) (ok : BlkOk X.N X.env.scope scope [(x, i)])
    (hg : ∀ (s : Shared) (H : Hp) (C : Addr) (cl : List (Str × Addr)) (fp : List Addr), PG (X.blk s H scope (compEnvC scope cl C X.env) fp) (.Name x tp) (gName i)) (ht : ∀ (s : Shared) (H : Hp) (C : Addr) (cl : List (Str × Addr)) (fp : List Addr), PDTs (X.blk s H scope (compEnvC scope cl C X.env) fp) W0 xw0 ifs (tt s H C cl fp) dt)
    (he : ∀ (s : Shared) (H : Hp) (C : Addr) (cl : List (Str × Addr)) (fp : List Addr), PD (X.blk s H scope (compEnvC scope cl C X.env) fp) W0 xw0 elt (te s H C cl fp) de) (hs : ∀ x, foldedSetIterable iter X.env x = pure x := by intro _; rfl)
    (htt : ∀ s H C cl fp, tt s H C cl fp = Blk.at0 X tt := by intros; rfl) (hte : ∀ s H C cl fp, te s H C cl fp = Blk.at0 X te := by intros; rfl) :
    PD X W xw (.ListComp elt [⟨.Name x tp, iter, ifs, 0⟩] scope pos) (tLc wi (gName i) (Blk.at0 X tt) (Blk.at0 X te) [i]) (dLc i di dt de) :=
  ⟨fun tk => pe_lc (own := [(x, i)]) hc hN (hi.pi tk) ok hg (fun s H C cl fp => htt s H C cl fp ▸ (ht s H C cl fp).pt takes0) (fun s H C cl fp => hte s H C cl fp ▸ (he s H C cl fp).pe takes0) hs, li_lc hi.li (ht X.s_0 X.H_0 0 [] []).li (he X.s_0 X.H_0 0 [] []).li⟩
/-- y = [e for x in xs if t] -/
theorem pds_setLc {j i : Nat} {y x : Str} {py tp : Pos} {elt iter : Expr} {ifs : List Expr} {scope : Scope} {pos spos : Pos} {wi : TI} {tt : Blk TT} {te : Blk TE} {di : DI} {dt : DT} {de : DE} (hc : X.calm = true) (hN : X.N.Nodup)
    (hi : PDI X W xw (.Name x tp) iter wi di) (ok : BlkOk X.N X.env.scope scope [(x, i)])
    (hg : ∀ (s : Shared) (H : Hp) (C : Addr) (cl : List (Str × Addr)) (fp : List Addr), PG (X.blk s H scope (compEnvC scope cl C X.env) fp) (.Name x tp) (gName i)) (ht : ∀ (s : Shared) (H : Hp) (C : Addr) (cl : List (Str × Addr)) (fp : List Addr), PDTs (X.blk s H scope (compEnvC scope cl C X.env) fp) W0 xw0 ifs (tt s H C cl fp) dt)
    (he : ∀ (s : Shared) (H : Hp) (C : Addr) (cl : List (Str × Addr)) (fp : List Addr), PD (X.blk s H scope (compEnvC scope cl C X.env) fp) W0 xw0 elt (te s H C cl fp) de) (hy : X.N[j]? = some y := by rfl) (hyl : X.env.scope.names.lookup y = some .local := by rfl)
    (hsw : swapsWith (.ListComp elt [⟨.Name x tp, iter, ifs, 0⟩] scope pos) (some (.Name y py)) spos.line X.env = pure true := by exact sw_true rfl rfl rfl (by decide +kernel)) (hs : ∀ x, foldedSetIterable iter X.env x = pure x := by intro _; rfl)
    (htt : ∀ s H C cl fp, tt s H C cl fp = Blk.at0 X tt := by intros; rfl) (hte : ∀ s H C cl fp, te s H C cl fp = Blk.at0 X te := by intros; rfl) :
    PDS X W xw (.Assign [.Name y py] (.ListComp elt [⟨.Name x tp, iter, ifs, 0⟩] scope pos) spos) (tAsg (tLc wi (gName i) (Blk.at0 X tt) (Blk.at0 X te) [i]) (gName j)) (dAsg j (dLc i di dt de)) :=
  ⟨fun tk => ps_setLc (own := [(x, i)]) hc hN hy hyl hsw (hi.pi tk) ok hg (fun s H C cl fp => htt s H C cl fp ▸ (ht s H C cl fp).pt takes0) (fun s H C cl fp => hte s H C cl fp ▸ (he s H C cl fp).pe takes0) hs, fun c eK hW E D o Γ σ H s hd =>
    li_lc hi.li (ht X.s_0 X.H_0 0 [] []).li (he X.s_0 X.H_0 0 [] []).li c eK hW Γ _ hd σ H s _ fun v s' H1 g r q => o.nx _ _ H1 ((s.go g).set r) q⟩
/-! ### try .. except C as e -/
def dTry (K : PySem.W.Frag) (c0 : Value) (i : Nat) (xw : XW) (db : XW → DS) (dsu : Addr → Value → Option Addr → DS) : DS := fun D Γ =>
  db (fun A p Γ' => ∃ b, PySem.W.exmOne K (.ref A) c0 = some b ∧ cond b (∀ a d, dsu a (.ref A) d { nx := fun Γ => D.nx (Γ.set i .any), rt := D.rt, bk := fun Γ => D.bk (Γ.set i .any), ct := fun Γ => D.ct (Γ.set i .any) } (Γ'.set i (.ex a (.ref A) d p))) (xw A p Γ')) D Γ
/-- an exception's object of which nothing is asked -/
abbrev oe0 (cls : Value) (d : Option Addr) : Obj := { cls := cls, dict := d, data := .fields #[] }
theorem pds_try {x n : Str} {c0 : Value} {i : Nat} {body suite : List Stmt} {b₀ : Stmt} {np pos' : Pos} {tb : WX → List (Addr × Obj) → (Value → Shared → Prop) → TS} {ts : Addr → Obj → Value → Option Addr → List (Addr × Obj) → TS} {db : XW → DS} {dsu : Addr → Value → Option Addr → DS} (hN : X.N.Nodup) (hc : Names X x c0)
    (hb : ∀ (W' : WX) (xw' : XW) (pn : List (Addr × Obj)) (xe : Value → Shared → Prop), PDSs (X.tr pn xe) W' xw' body (tb W' pn xe) (db xw'))
    (hsu : ∀ (a : Addr) (oe : Obj) (cls : Value) (d : Option Addr) (pn : List (Addr × Obj)), Zc cls d oe → (∃ vs, oe.data = .fields vs) → PDSs (X.suite a ((a, oe) :: pn)) W0 xw0 (b₀ :: suite) (ts a oe cls d pn) (dsu a cls d))
    (hs : X.stack = X.env :: X.outer := by rfl) (hf : X.env.frame = some X.env.locals := by rfl) (hi : X.N[i]? = some n := by rfl) (hln : X.env.kindOf n = some .local := by rfl)
    (htb : ∀ W' pn xe, tb W' pn xe = tb W' X.pn X.xe := by intros; rfl) (hts : ∀ a oe cls d pn, ts a oe cls d pn = ts a (oe0 cls d) cls d [] := by intros; rfl) :
    PDS X W xw (.Try body [.ExceptHandler (some (.Name x np)) (some n) (b₀ :: suite) pos'] [] [] pos) (fun D σ H => tb (wAs X.K c0 i (fun a cls d => ts a (oe0 cls d) cls d []) W D) X.pn X.xe D σ H) (dTry X.K c0 i xw db dsu) :=
  ⟨fun tk => ps_try_as (tb := fun W' => tb W' X.pn X.xe) (ts := fun a cls d => ts a (oe0 cls d) cls d []) hs hf hN hi hln hc tk (fun W' pn xe tk' _ => htb W' pn xe ▸ (hb W' xw0 pn xe).ps tk') (fun a oe cls d pn z f => hts a oe cls d pn ▸ (hsu a oe cls d pn z f).ps takes0), fun c eK hW E D o Γ σ H s hd => by
    refine (hb (wAs X.K c0 i (fun a cls d => ts a (oe0 cls d) cls d []) W E) _ X.pn X.xe).li c eK ?_ E D o Γ σ H s hd
    intro σ1 H1 Γ1 A d p s1 x1 h1
    obtain ⟨b, eb, h1⟩ := h1
    refine ⟨b, eb, fun e a na => ?_, fun e => ?_⟩
    · subst e
      have L := (hsu a (oe0 (.ref A) d) (.ref A) d [] ⟨rfl, rfl⟩ ⟨_, rfl⟩).li
      refine L c eK WOk.zero { nx := fun σ' H' => E.nx (σ'.set i none) H', rt := E.rt, bk := fun σ' H' => E.bk (σ'.set i none) H', ct := fun σ' H' => E.ct (σ'.set i none) H' } { nx := fun Γ => D.nx (Γ.set i .any), rt := D.rt, bk := fun Γ => D.bk (Γ.set i .any), ct := fun Γ => D.ct (Γ.set i .any) } ⟨?_, o.rt, ?_, ?_⟩ _ _ _ (s1.set (s := .ex a (.ref A) d p) ⟨rfl, x1⟩) (h1 a d)
      · exact fun Γ σ H s q => o.nx _ _ H (s.set (s := .any) trivial) q
      · exact fun Γ σ H s q => o.bk _ _ H (s.set (s := .any) trivial) q
      · exact fun Γ σ H s q => o.ct _ _ H (s.set (s := .any) trivial) q
    · subst e
      exact hW σ1 H1 Γ1 A d p s1 x1 h1⟩
/-! ### the caught error -/
def dVal (C a : Addr) (cls : Value) (d : Option Addr) (e : DE) : DE := fun Γ k => e Γ fun s => match s with
  | .ex a' _ d' (some [(n, x)]) => a' = a ∧ cls = .ref C ∧ d' = d ∧ n = ("value" : Str) ∧ k (.d x)
  | _ => False
theorem pd_val {nm : Str} {C D fI a : Addr} {oe : Obj} {cls : Value} {d : Option Addr} {pn : List (Addr × Obj)} {e : Expr} {te : TE} {de : DE} (U : PySem.RoomX.RoomCls X.K X.mg nm C D fI) (hz : Zc cls d oe) (hf : ∃ vs, oe.data = .fields vs) (h : PD (X.suite a ((a, oe) :: pn)) W xw e te de)
    (hb : attributeBase e "value" X.env (eval e X.env) = eval e X.env := by rfl) : PD (X.suite a ((a, oe) :: pn)) W xw (.Attribute e "value" pos) (tValRoom C a cls d te) (dVal C a cls d de) :=
  ⟨fun tk => pe_valRoom U hz hf (h.pe tk) hb, fun c eK hW Γ k hd σ H st Q q => h.li c eK hW Γ _ hd σ H st _ fun v s H1 g r h1 => by
    try dsimp only at h1
    split at h1
    · obtain ⟨ea, e1, ed', en, hk⟩ := h1
      subst en
      have ev := Option.some.inj r.1
      rw [ea] at ev
      obtain ⟨_, xo⟩ := r
      rw [ed'] at xo
      cases z : d with
      | none =>
        rw [z] at xo
        exact xo.elim
      | some d1 =>
        rw [z] at xo
        obtain ⟨vs, nF, ed, rf⟩ := xo
        cases rf with
        | cons rv rn =>
          cases rn
          exact ⟨ev, e1, d1, _, rfl, ed, q _ (.d _) H1 g ⟨_, rfl, rv⟩ hk⟩
    · exact h1.elim⟩
/-- isinstance(e, T), e the caught error, T a built-in class -/
def dIsR (K : PySem.W.Frag) (C a : Addr) (cls : Value) (d : Option Addr) (T : String) (e : DE) : DE := fun Γ k => e Γ fun s => match s with
  | .ex a' _ d' (some _) => a' = a ∧ cls = .ref C ∧ d' = d ∧ ∃ b, PySem.W.kitOne K (.ref C) (.type T) = some b ∧ k (.d (.bl b))
  | _ => False
end
end Dv
namespace L2
open PySem
/-- as rIsR, the class told by the reading -/
def rIsQ (K : PySem.W.Frag) (C a : Addr) (cls : Value) (d : Option Addr) : List V → Hp → VK → Prop := fun xs H Q => cls = .ref C ∧ rIsR K C a d xs H Q
theorem call_isQ {X : Cx} {nm : Str} {C D fI a : Addr} {oe : Obj} {cls : Value} {d : Option Addr} {pn : List (Addr × Obj)} (U : PySem.RoomX.RoomCls X.K X.mg nm C D fI) (Y : RoomIs X.K C) (hz : Zc cls d oe) (hf : ∃ vs, oe.data = .fields vs) : CallR (X.suite a ((a, oe) :: pn)) (.builtin "isinstance") (rIsQ X.K C a cls d) := by
  intro pins s σ H xs us Q I r h
  obtain ⟨e, h⟩ := h
  subst e
  exact call_isR U Y hz hf pins s σ H xs us Q I r h
end L2
namespace Dv
open PySem L2
section
variable {X : Cx} {W : WX} {xw : XW} {K : PySem.W.Frag} {pos : Pos}
theorem pd_isR {nm tn : Str} {T : String} {C D fI a : Addr} {oe : Obj} {cls : Value} {d : Option Addr} {pn : List (Addr × Obj)} {e : Expr} {te : TE} {de : DE} {p p2 : Pos} (U : PySem.RoomX.RoomCls X.K X.mg nm C D fI) (Y : RoomIs X.K C) (hz : Zc cls d oe) (hf : ∃ vs, oe.data = .fields vs) (hm : X.mg "isinstance" = none) (hmT : X.mg tn = none) (hvT : bootBuiltins tn = some (.type T)) (h : PD (X.suite a ((a, oe) :: pn)) W xw e te de)
    (hg : Gl X "isinstance" := by rfl) (hgT : Gl X tn := by rfl) (hnT : tn ≠ "__name__" := by decide) (hdT : (tn == ("__debug__" : Str)) = false := by decide)
    (hs1 : starEach [e, .Name tn p2] X.env = (false, eval e X.env) :: starEach [.Name tn p2] X.env := by rfl) (hpl : (backTo pos (starEach [.Name tn p2] X.env)).any (·.1) = false := by rfl) :
    PD (X.suite a ((a, oe) :: pn)) W xw (.Call (.Name "isinstance" p) [e, .Name tn p2] [] pos) (tCB (rIsQ X.K C a cls d) (tCons te (tCons (tC (.ty T)) tNil))) (dIsR X.K C a cls d T de) :=
  ⟨fun tk => pe_callB (X := X.suite a ((a, oe) :: pn)) (call_isQ U Y hz hf) hg hm (by decide +kernel) (pa_cons (h.pe tk) (pa_cons (pe_bltn (X := X.suite a ((a, oe) :: pn)) hgT hmT hvT rfl hnT hdT) pa_nil) hs1) (by decide) (by decide) hs1 hpl, fun c eK hW Γ k hd σ H st Q q => h.li c eK hW Γ _ hd σ H st _ fun v s H1 g r h1 => by
    try dsimp only at h1
    split at h1
    · obtain ⟨ea, e1, ed', b, hb, hk⟩ := h1
      have ev := Option.some.inj r.1
      rw [ea] at ev
      subst ev
      obtain ⟨_, xo⟩ := r
      rw [ed'] at xo
      cases z : d with
      | none =>
        rw [z] at xo
        exact xo.elim
      | some d1 =>
        rw [z] at xo
        obtain ⟨vs, nF, ed, rf⟩ := xo
        exact ⟨e1, _, _, b, d1, vs, rfl, fun u ru => ru, hb, rfl, ed, q _ (.d (.bl b)) H1 g ⟨_, rfl, .bl b⟩ hk⟩
    · exact h1.elim⟩
end
end Dv
set_option Elab.async false
set_option linter.all false
set_option maxRecDepth 100000
set_option maxHeartbeats 4000000
/-! Dq: pools: made at the beginning of a law's turn, drawn from by take; the law's end. -/
namespace Dv
open PySem L2
/-! ### a pool more -/
def Cfg.ownP (c : Cfg) (p : Addr) (hp : ¬ c.pl p) : Cfg where
  K := c.K
  F := fun b => c.F b ∨ b = p
  I := fun H => c.I (rem H p) ∧ ∃ l, H p = some (.lst l) ∧ PoolL l
  pl := fun b => c.pl b ∨ b = p
  mono := fun {H H'} k h => ⟨c.mono (fun b u e => by
    obtain ⟨n, e⟩ := rem_sub e
    rw [rem_ne n]
    exact k b u e) h.1, let ⟨l, e, r⟩ := h.2; ⟨l, k p _ e, r⟩⟩
  live := fun {H b} h z => by
    rcases z with z | z
    · intro y
      refine c.live h.1 z ?_
      by_cases e : b = p
      · rw [e, rem_same]
      · rw [rem_ne e]
        exact y
    · obtain ⟨l, e, _⟩ := h.2
      rw [z, e]
      exact fun y => nomatch y
  plF := fun z => z.elim (fun z => .inl (c.plF z)) .inr
  plAt := fun {H q} h z => by
    rcases z with z | z
    · obtain ⟨l, e, r⟩ := c.plAt h.1 z
      exact ⟨l, (rem_sub e).2, r⟩
    · rw [z]
      exact h.2
  plPut := fun {H q l} h z r => by
    rcases z with z | z
    · have n : q ≠ p := fun e => hp (by rw [← e]; exact z)
      refine ⟨?_, ?_⟩
      · rw [rem_upd_ne n]
        exact c.plPut h.1 z r
      · rw [upd_ne (Ne.symm n)]
        exact h.2
    · subst z
      refine ⟨?_, l, upd_same, r⟩
      rw [rem_upd]
      exact h.1
theorem Rp.ownP {c : Cfg} {H : Hp} {v : V} {d : D} {p : Addr} {hp : ¬ c.pl p} (n : H p = none) (h : Rp c H v d) : Rp (c.ownP p hp) H v d := by
  have no : ∀ {b : Addr} {u : HO}, Rd H b u → b ≠ p := fun {b u} z e => by
    subst e
    rcases z with z | ⟨_, z⟩ <;> (rw [n] at z; cases z)
  refine Rp.rec (motive_1 := fun v d _ => Rp (c.ownP p hp) H v d) (motive_2 := fun vs ds _ => RpAll (c.ownP p hp) H vs ds) (motive_3 := fun vs ds _ => RpFs (c.ownP p hp) H vs ds) (motive_4 := fun vs ds _ => RpKv (c.ownP p hp) H vs ds)
    .non .bl .int .str ?_ ?_ ?_ ?_ ?_ .nil ?_ .nil ?_ .nil ?_ h
  · intro b xs ds m s _ r
    exact .lst (fun z => z.elim m fun e => no s e) s r
  · intro b xs ds s _ r
    exact .scr (s.elim (fun z => .inl ⟨fun y => y.elim z.1 (no z.2), z.2⟩) .inr) r
  · intro b xs ds s _ r
    exact .tup (s.elim (fun z => .inl ⟨fun y => y.elim z.1 (no z.2), z.2⟩) .inr) r
  · intro b C dx fs ds m s _ r
    exact .obj (fun z => z.elim m fun e => no (.inl s) e) s r
  · intro b kvs ds m s _ r
    exact .dic (fun z => z.elim m fun e => no s e) s r
  · intro v d vs ds _ _ a b
    exact .cons a b
  · intro n v d vs ds _ _ a b
    exact .cons a b
  · intro n v d vs ds _ _ a b
    exact .cons a b
theorem RpFs.ownP {c : Cfg} {H : Hp} {a : Addr} {ha : ¬ c.pl a} (n : H a = none) : ∀ {vs : List (Str × V)} {ds : List (Str × D)}, RpFs c H vs ds → RpFs (c.ownP a ha) H vs ds
  | _, _, .nil => .nil
  | _, _, .cons r t => .cons (r.ownP n) (RpFs.ownP n t)
theorem SlOk.ownP {c : Cfg} {H : Hp} {a : Addr} {ha : ¬ c.pl a} {u : Option V} {s : Sl} (n : H a = none) (h : SlOk c H u s) : SlOk (c.ownP a ha) H u s := by
  cases s with
  | any => trivial
  | v x => exact h
  | d x =>
    obtain ⟨v, e, r⟩ := h
    exact ⟨v, e, r.ownP n⟩
  | pool =>
    obtain ⟨p, e, r⟩ := h
    exact ⟨p, e, .inl r⟩
  | ex b cls dd p =>
    refine ⟨h.1, ?_⟩
    have x := h.2
    cases dd <;> cases p <;> first | exact x | skip
    obtain ⟨vs, m, e, r⟩ := x
    refine ⟨vs, fun z => z.elim m fun y => ?_, e, r.ownP n⟩
    rw [y, n] at e
    cases e
/-- without pools -/
def unp1 : Sl → Sl
  | .pool => .any
  | s => s
def unp (Γ : Gm) : Gm := Γ.map unp1
theorem SlOk.unp {c : Cfg} {H : Hp} {a : Addr} {ha : ¬ c.pl a} {u : Option V} {s : Sl} (h : SlOk (c.ownP a ha) H u s) : SlOk c H u (unp1 s) := by
  cases s with
  | any => trivial
  | v x => exact h
  | d x =>
    obtain ⟨v, e, r⟩ := h
    exact ⟨v, e, Rp.to (c := c.ownP a ha) (c' := c) rfl (fun _ z => Or.inl z) Kp.self r⟩
  | pool => trivial
  | ex b cls dd p => exact ⟨h.1, XOk.to (c := c.ownP a ha) (c' := c) rfl (fun _ z => Or.inl z) Kp.self h.2⟩
theorem ownP_I {c : Cfg} {H : Hp} {a : Addr} {ha : ¬ c.pl a} (h : (c.ownP a ha).I H) : c.I H := c.mono (fun _ _ e => (rem_sub e).2) h.1
theorem StOk.unp {c : Cfg} {H : Hp} {a : Addr} {ha : ¬ c.pl a} {σ : St} {Γ : Gm} (h : StOk (c.ownP a ha) σ H Γ) : StOk c σ H (unp Γ) := by
  refine ⟨ownP_I h.inv, by rw [Dv.unp, List.length_map]; exact h.len, fun i o s e1 e2 => ?_⟩
  rw [Dv.unp, List.getElem?_map, Option.map_eq_some_iff] at e2
  obtain ⟨s0, e3, rfl⟩ := e2
  exact (h.at_ i o s0 e1 e3).unp
def intD (ns : List Int) : List D := ns.map D.int
/-- the promise of the maker of pools: a new list -/
def spPool (K : PySem.W.Frag) : Sp := fun vs H Q _ => ∃ (c : Cfg) (a : Addr) (ns : List Int) (j : Int), c.K = K ∧ c.I H ∧ vs = [.ref a, .int j] ∧ SqL K H a (ns.map V.int) ∧ ns.length ≤ 63 ∧ 0 ≤ j ∧ j < 100 ∧
  ∀ (p : Addr) (x y : Int), H p = none → 0 ≤ y → y < 4294967296 → Q (.ref p) (upd H p (.lst [.int x, .int y]))
def dPool (i : Nat) (da : DA) (dr : DS) : DS := fun D Γ => da Γ fun ss => match ss with
  | [.d (.scr xs), .d (.int j)] => (∃ ns : List Int, xs = intD ns ∧ ns.length ≤ 63) ∧ 0 ≤ j ∧ j < 100 ∧ dr { nx := fun Γ => D.nx (unp Γ), rt := fun s => D.rt (unp1 s), bk := fun Γ => D.bk (unp Γ), ct := fun Γ => D.ct (unp Γ) } (Γ.set i .pool)
  | _ => False
theorem rp_ints {c : Cfg} {H : Hp} : ∀ {vs : List V} {ns : List Int}, RpAll c H vs (intD ns) → vs = ns.map V.int
  | [], [], _ => rfl
  | _ :: _, [], h => by cases h
  | [], _ :: _, h => by cases h
  | v :: vs, n :: ns, h => by
    cases h with
    | cons a b => rw [rp_int a, rp_ints b]; rfl
theorem ints_rp {c : Cfg} {H : Hp} : ∀ (ns : List Int), RpAll c H (ns.map V.int) (intD ns)
  | [] => .nil
  | n :: ns => .cons (.int n) (ints_rp ns)
section
variable {X : Cx} {W : WX} {K : PySem.W.Frag}
theorem pdss_pool {f : Addr} {fd : FuncData} {ps : List Str} {k i : Nat} {x fx : Str} {p px pos spos : Pos} {e1 e2 : Expr} {ta : TA} {da : DA} {rest : List Stmt} {tr : TS} {dr : DS} (F : FnOk X.prog X.w X.K X.mg X.base (L2.CX X.prog X.w) k f fd ps (spPool X.K)) (hr : Room k X.A) (hm : X.mg fx = some (.ref f)) (hk : PySem.W.keepIn X.K (.ref f) = true) (hb : Binds X.K fd ps []) (hN : X.N.Nodup)
    (a : PDA X W xw0 [e1, e2] ta da) (r : PDSs X W xw0 rest tr dr) (hg : Gl X fx := by rfl) (hi : X.N[i]? = some x := by rfl) (hx : Loc X.env.scope x := by first | exact Or.inl rfl | exact Or.inr rfl)
    (hdb : (fx == ("__debug__" : Str)) = false := by decide) (he : starEach (e1 :: [e2]) X.env = (false, eval e1 X.env) :: starEach [e2] X.env := by rfl) (hpl : (backTo pos (starEach [e2] X.env)).any (·.1) = false := by rfl)
    (hs : swapsWith (.Call (.Name fx p) [e1, e2] [] pos) (some (.Name x px)) spos.line X.env = pure false := by rfl) (hf : X.fn x = true ∨ X.env.scope.names.lookup x = some .local := by first | exact .inl rfl | exact .inr rfl | assumption) :
    PDSs X W xw0 (.Assign [.Name x px] (.Call (.Name fx p) [e1, e2] [] pos) spos :: rest) (tSeq (tAsg (tCall (spPool X.K) [] E0 ta) (gName i)) tr) (dPool i da dr) :=
  ⟨fun tk => pss_cons (ps_set hN hi hx (pe_call F hr hg hm hk hb .nil passL (a.pa tk) hdb he hpl) hs hf) (r.ps tk), fun c eK hW E D o Γ σ H s hd => a.li c eK hW Γ _ hd σ H s _ fun vs ss H1 g rr h => by
    try dsimp only at h
    split at h
    · obtain ⟨⟨ns, e, hl⟩, h0, h1, hd⟩ := h
      subst e
      obtain ⟨v, w, rfl, ⟨v', ev, rv⟩, rw⟩ := paired2 rr
      cases ev
      have e2 := sl_int rw
      subst e2
      cases rv with
      | scr il ra =>
        have ee := rp_ints ra
        subst ee
        refine ⟨c, _, ns, _, eK, g.inv, rfl, by rw [← eK]; exact il.sq, hl, h0, h1, fun q x y nq y0 y1 => ?_⟩
        have nP : ¬ c.pl q := c.noPl g.inv nq
        have sg := s.go g
        have s1 : StOk (c.ownP q nP) σ (upd H1 q (.lst [.int x, .int y])) Γ := by
          refine ⟨⟨by rw [rem_upd, rem_new nq]; exact g.inv, _, upd_same, ⟨x, y, rfl, y0, y1⟩⟩, s.len, fun i o' s' q1 q2 => ?_⟩
          exact ((sg.at_ i o' s' q1 q2).ownP (ha := nP) nq).go (Kp.new nq)
        refine r.li (c.ownP q nP) eK WOk.zero E { nx := fun Γ => D.nx (unp Γ), rt := fun s => D.rt (unp1 s), bk := fun Γ => D.bk (unp Γ), ct := fun Γ => D.ct (unp Γ) } ⟨?_, ?_, ?_, ?_⟩ _ _ _ (s1.set (s := .pool) ⟨q, rfl, .inr rfl⟩) hd
        · exact fun Γ σ H s z => o.nx _ σ H s.unp z
        · exact fun v s H i r z => o.rt v _ H (ownP_I i) r.unp z
        · exact fun Γ σ H s z => o.bk _ σ H s.unp z
        · exact fun Γ σ H s z => o.ct _ σ H s.unp z
    · exact h.elim⟩
end
/-! ### what take tells -/
def cTake : Ctr where
  n := 2
  f := fun ss k _ => match ss with
    | [.pool, .d (.int m)] => 0 < m ∧ m.natAbs.log2 < 9000 ∧ ∀ r : Int, 0 ≤ r → r < m → k (.d (.int r))
    | _ => False
  mono := fun {ss k k' x x'} hk _ h => by
    split at h
    · exact ⟨h.1, h.2.1, fun r h0 h1 => hk _ (h.2.2 r h0 h1)⟩
    · exact h.elim
/-! ### the law's end -/
def cLaw : Ctr where
  n := 1
  f := fun ss k _ => match ss with
    | [.d (.scr xs)] => (∃ ns : List Int, xs = intD ns ∧ ns.length ≤ 63) ∧ k (.d (.bl true))
    | _ => False
  mono := fun {ss k k' x x'} hk _ h => by
    split at h
    · exact ⟨h.1, hk _ h.2⟩
    · exact h.elim
def cBase (K : PySem.W.Frag) : Cfg where
  K := K
  F := fun _ => False
  I := fun _ => True
  pl := fun _ => False
  mono := fun _ h => h
  live := fun _ z => z.elim
  plF := fun z => z
  plAt := fun _ z => z.elim
  plPut := fun _ z => z.elim
theorem law_sp {K : PySem.W.Frag} {H : Hp} {a : Addr} {ns : List Int} (hl : ns.length ≤ 63) (h : SqL K H a (ns.map V.int)) : cLaw.sp K [.ref a] H (fun v _ => v = .bl true) fun _ _ _ => False := by
  refine ⟨cBase K, [.d (.scr (intD ns))], rfl, trivial, .cons ⟨_, rfl, .scr ?_ (ints_rp ns)⟩ .nil, rfl, ⟨ns, rfl, hl⟩, fun v H' _ r => sl_bl r⟩
  rcases h with h | h
  · exact .inl ⟨fun z => z, h⟩
  · exact .inr h
theorem law_cx {P : Program} {w : World} {l : List Env} {H : Hp} {s : Shared} {e : Value} {s' : Shared} (h : L2.CX P w l H s (fun _ _ _ => False) e s') : False := by
  obtain ⟨_, _, _, _, _, _, _, _, _, _, _, _, z⟩ := h
  exact z
end Dv
namespace Dv
open PySem L2
/-! ### what the top has written -/
structure FnAt (K : PySem.W.Frag) (mg : Str → Option Value) (x qual : Str) (st : Stmt) (ps : List Str) (f : Addr) (fd : FuncData) : Prop where
  F : Fun K x qual st f fd
  m : mg x = some (.ref f)
  b : Binds K fd ps []
theorem kit_sub {K : PySem.W.Frag} {C : Addr} {T : String} {b : Bool} (h : PySem.W.subIn K (.ref C) (.type T) = some b) (hT : PySem.W.kitMeta T = true) : PySem.W.kitOne K (.ref C) (.type T) = some b := by
  show (if (Value.ref C == Value.type T) = true then some true else if PySem.W.kitMeta T = true then PySem.W.subIn K (.ref C) (.type T) else none) = some b
  rw [if_neg (show ¬ ((Value.ref C == Value.type T) = true) from Bool.false_ne_true), if_pos hT]
  exact h
theorem kit_ve {K : PySem.W.Frag} {mg : Str → Option Value} {nm : Str} {C D fI : Addr} (U : PySem.RoomX.RoomCls K mg nm C D fI) : PySem.W.kitOne K (.ref C) (.type "ValueError") = some true := kit_sub U.veC (by decide +kernel)
theorem exm_self {K : PySem.W.Frag} {mg : Str → Option Value} {nm : Str} {C D fI : Addr} (U : PySem.RoomX.RoomCls K mg nm C D fI) : PySem.W.exmOne K (.ref C) (.ref C) = some true := PySem.W.exm_ref U.exC U.hdC U.tyC U.scC
theorem exm_other {K : PySem.W.Frag} {mg : Str → Option Value} {nm : Str} {A C D fI : Addr} {b : Bool} (U : PySem.RoomX.RoomCls K mg nm C D fI) (h : PySem.W.subIn K (.ref A) (.ref C) = some b) : PySem.W.exmOne K (.ref A) (.ref C) = some b := PySem.W.exm_ref U.exC U.hdC U.tyC h
/-! ### helps -/
theorem len_ok {n : Nat} (h : Nat.ble n 100000 = true) : n ≤ 100000 := Nat.le_of_ble_eq_true h
theorem forD_inv {g : DG} {b : DS} {E : DEnds} (Inv : Gm → Prop) (hd : ∀ Γ, Inv Γ → E.nx Γ) : ∀ (xs : List D), (∀ x ∈ xs, ∀ Γ, Inv Γ → ∀ N : Gm → Prop, (∀ Γ', Inv Γ' → N Γ') → g x Γ fun Γ' => b { E with nx := N, ct := N, bk := E.nx } Γ') → ∀ Γ, Inv Γ → forD g b E xs Γ
  | [], _, Γ, h => hd Γ h
  | x :: r, hs, Γ, h => hs x List.mem_cons_self Γ h _ fun Γ' h' => forD_inv Inv hd r (fun y hy => hs y (List.mem_cons_of_mem _ hy)) Γ' h'
theorem deq_self {d : D} (h : okD d = true) : deq d d = true := SeqAt.eqv_refl (toPy d) (SeqAt.canLay_of_shaped h)
theorem deq_int (i j : Int) : deq (.int i) (.int j) = decide (i = j) := by
  show PyData.eqv (.int i) (.int j) = _
  rw [PyData.eqv]
  by_cases h : i = j <;> simp [h]
theorem intsFrom_mem {x : D} : ∀ {lo : Int} {n : Nat}, x ∈ intsFrom lo n → ∃ i : Int, x = .int i ∧ lo ≤ i ∧ i < lo + n
  | _, 0, h => by cases h
  | lo, n + 1, h => by
    rw [intsFrom] at h
    rcases List.mem_cons.mp h with rfl | h
    · exact ⟨lo, rfl, by omega, by omega⟩
    · obtain ⟨i, e, h1, h2⟩ := intsFrom_mem h
      exact ⟨i, e, by omega, by omega⟩
theorem mulW_of {i j : Int} {a b : Nat} (hi : i.natAbs < 2 ^ a) (hj : j.natAbs < 2 ^ b) (ha : 0 < a) (hb : 0 < b) (h : a + b ≤ 1000000) : CMulW i j := wide_mul hi hj ha hb h
end Dv
set_option Elab.async false
set_option linter.all false
set_option maxRecDepth 100000
set_option maxHeartbeats 4000000
namespace G
open PySem L2 Dv
def top (i : Nat) : Stmt := PySem.Challenge.pw_leastrooms_k67_paces_compared.main.body.getD i (.Pass ⟨0, 0, 0, 0⟩)
abbrev s_is_integer : Stmt := top 4
abbrev s_is_pace : Stmt := top 6
abbrev s_is_as_fast : Stmt := top 7
abbrev s__law_pool : Stmt := top 9
abbrev s__law_take : Stmt := top 10
abbrev s__law_pace : Stmt := top 11
abbrev s__law_refused : Stmt := top 12
abbrev s_law : Stmt := top 13
theorem sc_is_integer : FnScope ["thing"] ["thing"] (defScope s_is_integer) := ⟨rfl, rfl, rfl, by decide +kernel, rfl, by decide +kernel, by decide +kernel⟩
theorem sc_is_pace : FnScope ["thing", "one"] ["thing"] (defScope s_is_pace) := ⟨rfl, rfl, rfl, by decide +kernel, rfl, by decide +kernel, by decide +kernel⟩
theorem sc_is_as_fast : FnScope ["one", "other", "pace"] ["one", "other"] (defScope s_is_as_fast) := ⟨rfl, rfl, rfl, by decide +kernel, rfl, by decide +kernel, by decide +kernel⟩
theorem sc__law_pool : FnScope ["_law_script", "_law_k", "_law_cell", "_law_seed"] ["_law_script", "_law_k"] (defScope s__law_pool) := ⟨rfl, rfl, rfl, by decide +kernel, rfl, by decide +kernel, by decide +kernel⟩
theorem sc__law_take : FnScope ["_law_pool_here", "_law_many", "_law_found"] ["_law_pool_here", "_law_many"] (defScope s__law_take) := ⟨rfl, rfl, rfl, by decide +kernel, rfl, by decide +kernel, by decide +kernel⟩
theorem sc__law_pace : FnScope ["_law_pool_here", "_law_many"] ["_law_pool_here"] (defScope s__law_pace) := ⟨rfl, rfl, rfl, by decide +kernel, rfl, by decide +kernel, by decide +kernel⟩
theorem sc__law_refused : FnScope ["_law_one", "_law_other", "_law_kept", "e"] ["_law_one", "_law_other"] (defScope s__law_refused) := ⟨rfl, rfl, rfl, by decide +kernel, rfl, by decide +kernel, by decide +kernel⟩
theorem sc_law : FnScope ["_law_script", "_law_k", "_law_pool_here", "_law_times", "_law_near", "_law_more", "_law_odd", "_law_one", "_law_other", "_law_low", "_law_high", "_law_due", "_law_told", "_law_good"] ["_law_script"] (defScope s_law) := ⟨rfl, rfl, rfl, by decide +kernel, rfl, by decide +kernel, by decide +kernel⟩
structure Ad where
  f_is_integer : Addr
  d_is_integer : FuncData
  f_is_pace : Addr
  d_is_pace : FuncData
  f_is_as_fast : Addr
  d_is_as_fast : FuncData
  f__law_pool : Addr
  d__law_pool : FuncData
  f__law_take : Addr
  d__law_take : FuncData
  f__law_pace : Addr
  d__law_pace : FuncData
  f__law_refused : Addr
  d__law_refused : FuncData
  f_law : Addr
  d_law : FuncData
  D : Addr
  fI : Addr
  C_BadPace : Addr
structure Txt (P : Program) (K : PySem.W.Frag) (mg : Str → Option Value) (a : Ad) : Prop where
  f_is_integer : FnAt K mg "is_integer" "is_integer" s_is_integer ["thing"] a.f_is_integer a.d_is_integer
  f_is_pace : FnAt K mg "is_pace" "is_pace" s_is_pace ["thing"] a.f_is_pace a.d_is_pace
  f_is_as_fast : FnAt K mg "is_as_fast" "is_as_fast" s_is_as_fast ["one", "other"] a.f_is_as_fast a.d_is_as_fast
  f__law_pool : FnAt K mg "_law_pool" "_law_pool" s__law_pool ["_law_script", "_law_k"] a.f__law_pool a.d__law_pool
  f__law_take : FnAt K mg "_law_take" "_law_take" s__law_take ["_law_pool_here", "_law_many"] a.f__law_take a.d__law_take
  f__law_pace : FnAt K mg "_law_pace" "_law_pace" s__law_pace ["_law_pool_here"] a.f__law_pace a.d__law_pace
  f__law_refused : FnAt K mg "_law_refused" "_law_refused" s__law_refused ["_law_one", "_law_other"] a.f__law_refused a.d__law_refused
  f_law : FnAt K mg "law" "law" s_law ["_law_script"] a.f_law a.d_law
  n_ValueError : mg "ValueError" = none
  n_all : mg "all" = none
  n_bool : mg "bool" = none
  n_int : mg "int" = none
  n_isinstance : mg "isinstance" = none
  n_len : mg "len" = none
  n_max : mg "max" = none
  n_min : mg "min" = none
  n_range : mg "range" = none
  n_tuple : mg "tuple" = none
  room : PySem.RoomX.RoomTxt P K mg a.D a.fI
  c_BadPace : PySem.RoomX.RoomCls K mg "BadPace" a.C_BadPace a.D a.fI
  i_BadPace : L2.RoomIs K a.C_BadPace
/-! ### contracts -/
def isInt : D → Bool
  | .int _ => true
  | _ => false
def pos1 : D → Bool
  | .int i => decide (1 ≤ i)
  | _ => false
def isPace : D → Bool
  | .tup [a, b] => pos1 a && pos1 b
  | _ => false
/-- no objects, not within a tuple either -/
def flat : D → Bool
  | .tup xs => xs.all fun x => !isObj x
  | x => !isObj x
def c_is_integer : Ctr where
  n := 1
  f := fun ss k _ => match ss with
    | [.d x] => isObj x = false ∧ k (.d (.bl (isInt x)))
    | _ => False
  mono := fun {ss k k' x x'} hk _ h => by
    split at h
    · exact ⟨h.1, hk _ h.2⟩
    · exact h.elim
def c_is_pace : Ctr where
  n := 1
  f := fun ss k _ => match ss with
    | [.d x] => flat x = true ∧ k (.d (.bl (isPace x)))
    | _ => False
  mono := fun {ss k k' x x'} hk _ h => by
    split at h
    · exact ⟨h.1, hk _ h.2⟩
    · exact h.elim
section
variable {P : Program} {w : World} {K : PySem.W.Frag} {mg : Str → Option Value} {base : Heap} {a : Ad}
theorem ok_is_integer (T : Txt P K mg a) : FnOk P w K mg base (L2.CX P w) 1 a.f_is_integer a.d_is_integer ["thing"] (c_is_integer.sp K) := by
  refine fn_ok c_is_integer T.f_is_integer.F sc_is_integer rfl (fun cdv A outer s H E xw hr po => ⟨_, _, (pdss_one (pds_ret (pd_and (pd_callB call_isi (oc_is .int) T.n_isinstance (by decide +kernel) (pda_cons (pd_v 0) (pda_cons (pd_ty (T := "int") T.n_int (by decide +kernel)) pda_nil))) (pd_one (pd_not (pd_callB call_isi (oc_is .bool) T.n_isinstance (by decide +kernel) (pda_cons (pd_v 0) (pda_cons (pd_ty (T := "bool") T.n_bool (by decide +kernel)) pda_nil)))))))), ?_⟩)
  intro ss kk xx hl h _
  unfold c_is_integer at h
  dsimp only at h
  split at h
  · rename_i x
    obtain ⟨h1, h2⟩ := h
    refine ⟨rfl, h1, ?_⟩
    cases x <;> first | exact h2 | exact ⟨rfl, rfl, h2⟩
  · exact h.elim
theorem all2 (b c : Bool) : [b, c].all id = (b && c) := by cases b <;> cases c <;> rfl
theorem ok_is_pace (T : Txt P K mg a) : FnOk P w K mg base (L2.CX P w) 2 a.f_is_pace a.d_is_pace ["thing"] (c_is_pace.sp K) := by
  refine fn_ok c_is_pace T.f_is_pace.F sc_is_pace rfl (fun cdv A outer s H E xw hr po => ⟨_, _, (pdss_one (pds_ret (pd_and (pd_callB call_isi (oc_is .tuple) T.n_isinstance (by decide +kernel) (pda_cons (pd_v 0) (pda_cons (pd_ty (T := "tuple") T.n_tuple (by decide +kernel)) pda_nil))) (pd_and (pd_eq hr.units (pd_callB call_len oc_len T.n_len (by decide +kernel) (pda_cons (pd_v 0) pda_nil)) pd_int) (pd_one (pd_callB (cr_all rfl) oc_all T.n_all (by decide +kernel) (pda_cons (pd_lc (i := 1) rfl sc_is_pace.nd (pdi_seq (pd_v 0)) (blkOk_by (N := ["thing", "one"]) (sc := defScope s_is_pace) (own := [("one", 1)]) (by decide +kernel)) (fun _ _ _ _ _ => pg_name (i := 1) sc_is_pace.nd rfl (Or.inl rfl)) (fun _ _ _ _ _ => pdts_nil) (fun _ _ _ _ _ => (pd_and (pd_call (ok_is_integer T) (hr.mono (by decide)) T.f_is_integer.m T.f_is_integer.F.kp T.f_is_integer.b (pda_cons (pd_v 1) pda_nil)) (pd_one (pd_ge (pd_v 1) pd_int))))) pda_nil))))))), ?_⟩)
  intro ss kk xx hl h _
  unfold c_is_pace at h
  dsimp only at h
  split at h
  · rename_i x
    obtain ⟨h1, h2⟩ := h
    cases x with
    | tup xs =>
      refine ⟨rfl, rfl, ?_⟩
      refine ⟨rfl, rfl, ?_⟩
      have el : ∀ (y : D) (k' : DK), isObj y = false → k' (.d (.bl (pos1 y))) → dAndV (dCall c_is_integer xw0 (dCons (dVar 1) dNil)) (dOp (gI0 fun i j => .bl (decide (j ≤ i))) (dVar 1) (dC (.int 1))) [.d (.tup xs), .d y] k' := by
        intro y k' hy hk
        refine ⟨rfl, hy, ?_⟩
        cases y <;> exact hk
      match xs, h1, h2, el with
      | [], _, h2, _ => exact h2
      | [y], _, h2, _ => exact h2
      | [y, z], h1, h2, el =>
        have o1 : isObj y = false ∧ isObj z = false := by simpa [flat] using h1
        refine ⟨len_ok rfl, ?_⟩
        refine el y _ o1.1 ?_
        refine el z _ o1.2 ?_
        show kk (.d (.bl ([pos1 y, pos1 z].all id)))
        rw [all2]
        exact h2
      | y :: z :: u :: r, _, h2, _ =>
        have e : deq (.int ((y :: z :: u :: r).length : Int)) (.int 2) = false := by
          rw [deq_int]
          apply decide_eq_false
          simp only [List.length_cons]
          omega
        rw [e]
        exact h2
    | _ => first | exact ⟨rfl, rfl, h2⟩ | cases h1
  · exact h.elim
/-- numbers that may be multiplied -/
def small : D → Prop
  | .tup [.int i, .int j] => i.natAbs < 2 ^ 100 ∧ j.natAbs < 2 ^ 100
  | _ => True
def num0 : D → Int
  | .tup (.int i :: _) => i
  | _ => 0
def num1 : D → Int
  | .tup (_ :: .int j :: _) => j
  | _ => 0
def fast (x y : D) : Bool := decide (num0 x * num1 y ≤ num0 y * num1 x)
def bad (x : D) : XP := some [(("value" : Str), x)]
def c_is_as_fast (C : Addr) : Ctr where
  n := 2
  f := fun ss k xx => match ss with
    | [.d x, .d y] => flat x = true ∧ flat y = true ∧ small x ∧ small y ∧ cond (isPace x) (cond (isPace y) (k (.d (.bl (fast x y)))) (xx C (bad y))) (xx C (bad x))
    | _ => False
  mono := fun {ss k k' x x'} hk hx h => by
    split at h
    · rename_i p q
      refine ⟨h.1, h.2.1, h.2.2.1, h.2.2.2.1, ?_⟩
      have z := h.2.2.2.2
      revert z
      cases isPace p <;> cases isPace q <;> first | exact hk _ | exact hx _ _
    · exact h.elim
theorem pace_form {x : D} (h : isPace x = true) : ∃ i j : Int, x = .tup [.int i, .int j] := by
  unfold isPace at h
  split at h
  · rename_i p q
    cases p <;> cases q <;> first | exact ⟨_, _, rfl⟩ | (simp [pos1] at h)
  · cases h
theorem ok_is_as_fast (T : Txt P K mg a) : FnOk P w K mg base (L2.CX P w) 3 a.f_is_as_fast a.d_is_as_fast ["one", "other"] ((c_is_as_fast a.C_BadPace).sp K) := by
  refine fn_ok (c_is_as_fast a.C_BadPace) T.f_is_as_fast.F sc_is_as_fast rfl (fun cdv A outer s H E xw hr po => ⟨_, _, (pdss_cons (pds_for po rfl (pdi_seq (pd_tup (pda_cons (pd_v 0) (pda_cons (pd_v 1) pda_nil)))) (pdg_name (i := 2) sc_is_as_fast.nd)
  (pdss_one (pds_if (pdt_not (pdt_val (pd_call (ok_is_pace T) (hr.mono (by decide)) T.f_is_pace.m T.f_is_pace.F.kp T.f_is_pace.b (pda_cons (pd_v 2) pda_nil))))
  (pdss_one (pds_raise rfl T.room T.c_BadPace hr (pda_cons (pd_v 2) pda_nil)))
  pdss_nil)))
  (pdss_one (pds_ret (pd_le (pd_mul (pd_ix (pd_v 0) pd_int) (pd_ix (pd_v 1) pd_int)) (pd_mul (pd_ix (pd_v 1) pd_int) (pd_ix (pd_v 0) pd_int)))))), ?_⟩)
  intro ss kk xx hl h ew
  subst ew
  unfold c_is_as_fast at h
  dsimp only at h
  split at h
  · rename_i x y
    obtain ⟨f1, f2, s1, s2, h⟩ := h
    refine ⟨len_ok rfl, ?_⟩
    refine ⟨rfl, f1, ?_⟩
    cases e1 : isPace x with
    | false =>
      rw [e1] at h
      exact h
    | true =>
      rw [e1] at h
      refine ⟨rfl, f2, ?_⟩
      cases e2 : isPace y with
      | false =>
        rw [e2] at h
        exact h
      | true =>
        rw [e2] at h
        obtain ⟨i, j, rfl⟩ := pace_form e1
        obtain ⟨i', j', rfl⟩ := pace_form e2
        have b1 := s1
        have b2 := s2
        exact ⟨mulW_of b1.1 b2.2 (by decide) (by decide) (by decide), mulW_of b2.1 b1.2 (by decide) (by decide) (by decide), h⟩
  · exact h.elim
theorem ok__law_pool (T : Txt P K mg a) : FnOk P w K mg base (L2.CX P w) 1 a.f__law_pool a.d__law_pool ["_law_script", "_law_k"] (spPool K) := by
  refine T.f__law_pool.F.okX sc__law_pool (fun vs H Q E h => ?_) (fun cdv A outer s H vs Q E hr h => ?_)
  · obtain ⟨_, _, _, _, _, _, rfl, _⟩ := h
    rfl
  · obtain ⟨c, ad, ns, j, eK, hi, rfl, hS, hl, h0, h1, k⟩ := h
    refine ⟨_, pss_cons (ps_set (i := 2) sc__law_pool.nd rfl (.inl rfl) (pe_ifExp (pt_cmpR op_lt (pv 1) (pe_callB call_len_seq (by rfl) T.n_len PySem.boot_len (pa_cons (pv 0) pa_nil)) (nomark _)) (pe_ix ix_list (pv 0) (pv 1) (fun _ _ => rfl)) pe_int))
      (pss_cons (ps_set (i := 3) sc__law_pool.nd rfl (.inl rfl) (pe_op op_mulW (pe_callTy call_int1 (by rfl) T.n_int (by decide +kernel) (pa_cons (pe_op op_add (pe_op op_add (pe_op op_mod (pe_callTy call_int1 (by rfl) T.n_int (by decide +kernel) (pa_cons (pv 2) pa_nil)) pe_int) (pe_op op_mulW (pe_op op_mulW pe_int (pv 1)) (pv 1))) pe_int) pa_nil)) pe_int))
      (pss_one (ps_ret (pe_lst (pa_cons (pe_ifExp (pt_cmpR op_ge (pv 2) (pe_op op_pow pe_int pe_int) (nomark _)) (pv 2) pe_int) (pa_cons (pe_op op_add (pe_op op_mod (pe_callTy call_int1 (by rfl) T.n_int (by decide +kernel) (pa_cons (pv 3) pa_nil)) pe_int) pe_int) pa_nil)))))), ?_⟩
    refine ⟨_, rfl, _, rfl, ad, _, rfl, .inl hS, _, _, rfl, rfl, _, rfl, ?_⟩
    have fin : ∀ cell : Int, tSeq (tAsg (tOp (rI CMulW fun i j => V.int (i * j)) (tCB (fun xs H Q => (∃ i, xs = [V.int i] ∧ Q (V.int i) H) ∨ ∃ k, xs = [V.bl k] ∧ Q (V.int (if k = true then 1 else 0)) H) (tCons (tOp (rI0 fun i j => V.int (i + j)) (tOp (rI0 fun i j => V.int (i + j)) (tOp (rI (fun _ j => 0 < j) fun i j => V.int (i % j)) (tCB (fun xs H Q => (∃ i, xs = [V.int i] ∧ Q (V.int i) H) ∨ ∃ k, xs = [V.bl k] ∧ Q (V.int (if k = true then 1 else 0)) H) (tCons (tVar 2) tNil)) (tC (V.int 2147483629))) (tOp (rI CMulW fun i j => V.int (i * j)) (tOp (rI CMulW fun i j => V.int (i * j)) (tC (V.int 7919)) (tVar 1)) (tVar 1))) (tC (V.int 13))) tNil)) (tC (V.int 48271))) (gName 3))
        (tRet (tLst (tCons (tIf (tTest (tOp (rI0 fun i j => V.bl (decide (j ≤ i))) (tVar 2) (tOp (rI CPow fun i j => V.int (i ^ j.toNat)) (tC (V.int 10)) (tC (V.int 18))))) (tVar 2) (tC (V.int 0))) (tCons (tOp (rI0 fun i j => V.int (i + j)) (tOp (rI (fun _ j => 0 < j) fun i j => V.int (i % j)) (tCB (fun xs H Q => (∃ i, xs = [V.int i] ∧ Q (V.int i) H) ∨ ∃ k, xs = [V.bl k] ∧ Q (V.int (if k = true then 1 else 0)) H) (tCons (tVar 3) tNil)) (tC (V.int 2147483647))) (tC (V.int 1))) tNil)))) { nx := fun _ H' => Q .non H', rt := Q } [some (.ref ad), some (.int j), some (.int cell), none] H := by
      intro cell
      have b1 : (j.natAbs : Int) < 100 := by omega
      have j7 : j.natAbs < 2 ^ 7 := by omega
      have e1 : CMulW 7919 j := mulW_of (a := 13) (b := 7) (by decide) j7 (by decide) (by decide) (by decide)
      have e2 : CMulW (7919 * j) j := mulW_of (a := 20) (b := 7) (by omega) j7 (by decide) (by decide) (by decide)
      have n0 : 0 ≤ cell % 2147483629 := Int.emod_nonneg _ (by decide)
      have n1 : cell % 2147483629 < 2147483629 := Int.emod_lt_of_pos _ (by decide)
      have s0 : 0 ≤ 7919 * j * j := Int.mul_nonneg (by omega) h0
      have s1 : 7919 * j * j ≤ 7919 * 100 * 100 := Int.mul_le_mul (by omega) (by omega) h0 (by decide)
      have e3 : CMulW (cell % 2147483629 + 7919 * j * j + 13) 48271 := mulW_of (a := 33) (b := 16) (by omega) (by decide) (by decide) (by decide) (by decide)
      refine ⟨_, rfl, .inl ⟨_, rfl, _, _, rfl, rfl, (by show (0 : Int) < 2147483629; decide), _, rfl, _, _, rfl, rfl, e1, _, rfl, _, _, rfl, rfl, e2, _, _, rfl, rfl, _, _, rfl, rfl, .inl ⟨_, rfl, _, _, rfl, rfl, e3, ?_⟩⟩⟩
      refine ⟨_, rfl, _, _, rfl, rfl, ⟨by decide, by decide, by decide⟩, _, _, rfl, rfl, _, rfl, ?_⟩
      have m0 := Int.emod_nonneg ((cell % 2147483629 + 7919 * j * j + 13) * 48271) (b := 2147483647) (by decide)
      have m1 := Int.emod_lt_of_pos ((cell % 2147483629 + 7919 * j * j + 13) * 48271) (b := 2147483647) (by decide)
      refine ite2 (fun _ => ?_) (fun _ => ?_)
      · refine ⟨_, rfl, _, rfl, .inl ⟨_, rfl, _, _, rfl, rfl, (by show (0 : Int) < 2147483647; decide), _, _, rfl, rfl, (by show 2 ≤ sizeLine; decide), fun p np => ?_⟩⟩
        exact k p _ _ np (by omega) (by omega)
      · refine ⟨_, rfl, .inl ⟨_, rfl, _, _, rfl, rfl, (by show (0 : Int) < 2147483647; decide), _, _, rfl, rfl, (by show 2 ≤ sizeLine; decide), fun p np => ?_⟩⟩
        exact k p _ _ np (by omega) (by omega)
    refine ite2 (fun hlt => ?_) (fun _ => ?_)
    · have lt : j < (ns.length : Int) := by simpa using hlt
      have lj : j.toNat < ns.length := by omega
      have at_ : atI (ns.map V.int) j = some (V.int ns[j.toNat]) := by
        have z := atI_nat (xs := ns.map V.int) (j := j.toNat) (v := V.int ns[j.toNat]) (by rw [List.getElem?_map, List.getElem?_eq_getElem lj]; rfl)
        rwa [Int.toNat_of_nonneg h0] at z
      exact ⟨_, rfl, _, rfl, ad, _, j, _, rfl, rfl, hS, at_, fin _⟩
    · exact fin 0

theorem ok__law_take (T : Txt P K mg a) : FnOk P w K mg base (L2.CX P w) 1 a.f__law_take a.d__law_take ["_law_pool_here", "_law_many"] (cTake.sp K) := by
  refine T.f__law_take.F.okX sc__law_take (fun vs H Q E h => ?_) (fun cdv A outer s H vs Q E hr h => ?_)
  · obtain ⟨_, ss, _, _, r, hl, _⟩ := h
    rw [paired_len r, hl]
    rfl
  · obtain ⟨c, ss, eK, hi, r, hl, hf⟩ := h
    unfold cTake at hf
    dsimp only at hf
    split at hf
    · rename_i m
      obtain ⟨m0, m9, k⟩ := hf
      obtain ⟨v, w', rfl, ⟨p, ep, hp⟩, r2⟩ := paired2 r
      cases ep
      have e2 := sl_int r2
      subst e2
      obtain ⟨l, hH, x, y, rfl, y0, y1⟩ := c.plAt hi hp
      have sq : ∀ {H' : Hp} {x y : Int}, H' p = some (.lst [.int x, .int y]) → SqL K H' p [.int x, .int y] := fun h => .inl (.inl h)
      have div9 : CDivW x m := ⟨m0, m9⟩
      refine ⟨_, pss_cons (ps_if (pt_cmpR op_gt (pe_ix ix_list (pv 0) pe_int (fun _ _ => rfl)) pe_int (nomark _))
          (pss_cons (ps_set (i := 2) sc__law_take.nd rfl (.inl rfl) (pe_op op_mod (pe_callTy call_int1 (by rfl) T.n_int (by decide +kernel) (pa_cons (pe_ix ix_list (pv 0) pe_int (fun _ _ => rfl)) pa_nil)) (pv 1)))
            (pss_cons (ps_asg (pe_op op_fdivW (pe_ix ix_list (pv 0) pe_int (fun _ _ => rfl)) (pv 1)) (pg_sub (pv 0) pe_int set_list)) (pss_one (ps_ret (pv 2))))) pss_nil)
        (pss_cons (ps_asg (pe_op op_mod (pe_callTy call_int1 (by rfl) T.n_int (by decide +kernel) (pa_cons (pe_op op_add (pe_op op_mulW (pe_ix ix_list (pv 0) pe_int (fun _ _ => rfl)) pe_int) pe_int) pa_nil)) pe_int) (pg_sub (pv 0) pe_int set_list))
          (pss_one (ps_ret (pe_op op_mod (pe_op op_fdivW (pe_op op_mod (pe_callTy call_int1 (by rfl) T.n_int (by decide +kernel) (pa_cons (pe_op op_mulW (pe_ix ix_list (pv 0) pe_int (fun _ _ => rfl)) (pe_ix ix_list (pv 0) pe_int (fun _ _ => rfl))) pa_nil)) pe_int) pe_int) (pv 1))))), ?_⟩
      refine ⟨_, rfl, p, _, 0, _, rfl, rfl, sq hH, rfl, _, _, rfl, rfl, _, rfl, ?_⟩
      refine ite2 (fun _ => ?_) (fun _ => ?_)
      · refine ⟨_, rfl, p, _, 0, _, rfl, rfl, sq hH, rfl, .inl ⟨_, rfl, _, rfl, _, _, rfl, rfl, m0, _, rfl, p, _, 0, _, rfl, rfl, sq hH, rfl, _, rfl, _, _, rfl, rfl, div9, _, rfl, p, _, 0, 0, rfl, rfl, hH, rfl, ?_⟩⟩
        refine ⟨_, rfl, ?_⟩
        exact k _ (Int.emod_nonneg _ (by omega)) (Int.emod_lt_of_pos _ m0) _ _ ⟨fun b o nb eb => by
          rw [upd_ne (fun z => nb (by rw [z]; exact c.plF hp))]
          exact eb, c.plPut hi hp ⟨_, y, rfl, y0, y1⟩⟩ ⟨_, rfl, .int _⟩
      · have q0 := Int.emod_nonneg (y * 48271 + 11) (b := 2147483647) (by decide)
        have q1 := Int.emod_lt_of_pos (y * 48271 + 11) (b := 2147483647) (by decide)
        refine ⟨_, rfl, p, _, 1, _, rfl, rfl, sq hH, rfl, _, _, rfl, rfl, mulW_of (a := 33) (b := 16) (by omega) (by decide) (by decide) (by decide) (by decide), _, _, rfl, rfl, .inl ⟨_, rfl, _, _, rfl, rfl, (by show (0 : Int) < 2147483647; decide), _, rfl, p, _, 1, 1, rfl, rfl, hH, rfl, ?_⟩⟩
        have hH2 : upd H p (.lst [.int x, .int ((y * 48271 + 11) % 2147483647)]) p = some (.lst [.int x, .int ((y * 48271 + 11) % 2147483647)]) := upd_same
        refine ⟨_, rfl, p, _, 1, _, rfl, rfl, sq hH2, rfl, _, rfl, p, _, 1, _, rfl, rfl, sq hH2, rfl, _, _, rfl, rfl, mulW_of (a := 33) (b := 33) (by omega) (by omega) (by decide) (by decide) (by decide), .inl ⟨_, rfl, _, _, rfl, rfl, (by show (0 : Int) < 2147483629; decide), _, _, rfl, rfl, ⟨by decide, by decide⟩, _, rfl, _, _, rfl, rfl, m0, ?_⟩⟩
        exact k _ (Int.emod_nonneg _ (by omega)) (Int.emod_lt_of_pos _ m0) _ _ ⟨fun b o nb eb => by
          rw [upd_ne (fun z => nb (by rw [z]; exact c.plF hp))]
          exact eb, c.plPut hi hp ⟨x, _, rfl, q0, by omega⟩⟩ ⟨_, rfl, .int _⟩
    · exact hf.elim

def c_pace : Ctr where
  n := 1
  f := fun ss k _ => match ss with
    | [.pool] => ∀ i j : Int, 1 ≤ i → i ≤ 10 ^ 18 → 1 ≤ j → j ≤ 10 ^ 18 → k (.d (.tup [.int i, .int j]))
    | _ => False
  mono := fun {ss k k' x x'} hk _ h => by
    split at h
    · exact fun i j a b c d => hk _ (h i j a b c d)
    · exact h.elim
theorem ok__law_pace (T : Txt P K mg a) : FnOk P w K mg base (L2.CX P w) 2 a.f__law_pace a.d__law_pace ["_law_pool_here"] (c_pace.sp K) := by
  refine fn_ok c_pace T.f__law_pace.F sc__law_pace rfl (fun cdv A outer s H E xw hr po => ⟨_, _, (pdss_cons (pds_set (i := 1) (pd_ix (pd_lst (pda_cons pd_int (pda_cons pd_int (pda_cons (pd_pow pd_int pd_int) pda_nil)))) (pd_call (ok__law_take T) (hr.mono (by decide)) T.f__law_take.m T.f__law_take.F.kp T.f__law_take.b (pda_cons (pd_v 0) (pda_cons pd_int pda_nil)))) sc__law_pace.nd)
  (pdss_one (pds_ret (pd_tup (pda_cons (pd_add pd_int (pd_call (ok__law_take T) (hr.mono (by decide)) T.f__law_take.m T.f__law_take.F.kp T.f__law_take.b (pda_cons (pd_v 0) (pda_cons (pd_v 1) pda_nil)))) (pda_cons (pd_add pd_int (pd_call (ok__law_take T) (hr.mono (by decide)) T.f__law_take.m T.f__law_take.F.kp T.f__law_take.b (pda_cons (pd_v 0) (pda_cons (pd_v 1) pda_nil)))) pda_nil)))))), ?_⟩)
  intro ss kk xx hl h _
  unfold c_pace at h
  dsimp only at h
  split at h
  · refine ⟨⟨by decide, by decide, by decide⟩, len_ok rfl, rfl, by decide, by decide, fun r r0 r1 => ?_⟩
    have fin : ∀ m : Int, 0 < m → m ≤ 10 ^ 18 → dRet (dTup (dCons (dOp gAdd (dC (.int 1)) (dCall cTake xw0 (dCons (dVar 0) (dCons (dVar 1) dNil)))) (dCons (dOp gAdd (dC (.int 1)) (dCall cTake xw0 (dCons (dVar 0) (dCons (dVar 1) dNil)))) dNil))) { nx := fun _ => kk (.d .non), rt := kk } [.pool, .d (.int m)] := by
      intro m m0 m1
      have m9 : m.natAbs.log2 < 9000 := (wide_div (i := 0) (b := 64) m0 (by omega) (by decide) (by decide)).2
      refine ⟨rfl, m0, m9, fun i i0 i1 => ⟨rfl, m0, m9, fun j j0 j1 => ⟨len_ok rfl, h _ _ (by omega) (by omega) (by omega) (by omega)⟩⟩⟩
    have q : r = 0 ∨ r = 1 ∨ r = 2 := by omega
    rcases q with rfl | rfl | rfl
    · exact fin 12 (by decide) (by decide)
    · exact fin 12 (by decide) (by decide)
    · exact fin (10 ^ 18) (by decide) (by decide)
  · exact h.elim
def told (x : D) : D := .lst [.str "bad", x, .bl true]
def c_refused : Ctr where
  n := 2
  f := fun ss k _ => match ss with
    | [.d x, .d y] => flat x = true ∧ flat y = true ∧ small x ∧ small y ∧ cond (isPace x) (cond (isPace y) (k (.d .non)) (k (.d (told y)))) (k (.d (told x)))
    | _ => False
  mono := fun {ss k k' x x'} hk hx h => by
    split at h
    · rename_i p q
      refine ⟨h.1, h.2.1, h.2.2.1, h.2.2.2.1, ?_⟩
      have z := h.2.2.2.2
      revert z
      cases isPace p <;> cases isPace q <;> exact hk _
    · exact h.elim
theorem ok__law_refused (T : Txt P K mg a) : FnOk P w K mg base (L2.CX P w) 4 a.f__law_refused a.d__law_refused ["_law_one", "_law_other"] (c_refused.sp K) := by
  refine fn_ok c_refused T.f__law_refused.F sc__law_refused rfl (fun cdv A outer s H E xw hr po => ⟨_, _, (pdss_cons (pds_set (i := 2) pd_non sc__law_refused.nd)
  (pdss_cons (pds_try (i := 3) sc__law_refused.nd ⟨rfl, by decide, .inl T.c_BadPace.gC⟩ (fun _ _ _ _ => (pdss_one (pds_expr (pd_callX (ok_is_as_fast T) (hr.mono (by decide)) T.f_is_as_fast.m T.f_is_as_fast.F.kp T.f_is_as_fast.b (pda_cons (pd_v 0) (pda_cons (pd_v 1) pda_nil))))))
  (fun _ _ cls0 dd0 _ hz hf => (pdss_one (pds_set (i := 2) (pd_lst (pda_cons pd_str (pda_cons (pd_val (cls := cls0) (d := dd0) T.c_BadPace hz hf (pd_v 3)) (pda_cons (pd_isR (T := "ValueError") (cls := cls0) (d := dd0) T.c_BadPace T.i_BadPace hz hf T.n_isinstance T.n_ValueError (by decide +kernel) (pd_v 3)) pda_nil)))) sc__law_refused.nd))))
  (pdss_one (pds_ret (pd_v 2))))), ?_⟩)
  intro ss kk xx hl h ew
  unfold c_refused at h
  dsimp only at h
  split at h
  · rename_i x y
    obtain ⟨f1, f2, s1, s2, h⟩ := h
    refine ⟨rfl, f1, f2, s1, s2, ?_⟩
    cases e1 : isPace x with
    | false =>
      rw [e1] at h
      refine ⟨true, exm_self T.c_BadPace, fun ad dd => ?_⟩
      refine ⟨rfl, rfl, rfl, rfl, ?_⟩
      refine ⟨rfl, rfl, rfl, true, kit_ve T.c_BadPace, ?_⟩
      exact ⟨len_ok rfl, h⟩
    | true =>
      rw [e1] at h
      cases e2 : isPace y with
      | false =>
        rw [e2] at h
        refine ⟨true, exm_self T.c_BadPace, fun ad dd => ?_⟩
        refine ⟨rfl, rfl, rfl, rfl, ?_⟩
        refine ⟨rfl, rfl, rfl, true, kit_ve T.c_BadPace, ?_⟩
        exact ⟨len_ok rfl, h⟩
      | true =>
        rw [e2] at h
        exact h
  · exact h.elim
/-! ### the law -/
/-- slots of a turn -/
abbrev slots (ns : List Int) (s1 s2 s3 s4 s5 s6 s7 s8 s9 s10 s11 s12 s13 : Sl) : Gm := [.d (.scr (intD ns)), s1, s2, s3, s4, s5, s6, s7, s8, s9, s10, s11, s12, s13]
def IsP (x : D) : Prop := ∃ i j : Int, x = .tup [.int i, .int j] ∧ 1 ≤ i ∧ i < 2 ^ 100 ∧ 1 ≤ j ∧ j < 2 ^ 100
theorem isP_pace {x : D} (h : IsP x) : isPace x = true ∧ flat x = true ∧ small x ∧ okD x = true := by
  obtain ⟨i, j, rfl, a, b, c, d⟩ := h
  refine ⟨?_, rfl, ⟨by omega, by omega⟩, rfl⟩
  show (decide (1 ≤ i) && decide (1 ≤ j)) = true
  simp [a, c]
def oddOnes : List D := [.non, .int 5, .str "2/3", .tup [], .tup [.int 1], .tup [.int 1, .int 2, .int 3], .lst [.int 1, .int 2], .tup [.int 0, .int 1], .tup [.int 1, .int 0], .tup [.int (-1), .int 2], .tup [.bl true, .int 1], .tup [.int 1, .bl true], .tup [.str "1", .int 2]]
theorem odd_no {x : D} (h : x ∈ oddOnes) : isPace x = false ∧ flat x = true ∧ small x ∧ okD x = true ∧ okD (told x) = true := by
  simp only [oddOnes, List.mem_cons, List.not_mem_nil, or_false] at h
  rcases h with rfl | rfl | rfl | rfl | rfl | rfl | rfl | rfl | rfl | rfl | rfl | rfl | rfl <;> refine ⟨by decide +kernel, by decide +kernel, ?_, by decide +kernel, by decide +kernel⟩ <;> first | trivial | exact ⟨by decide, by decide⟩
def blkPairs (a : Ad) : DS := (dSeq (dAsg 11 (dOp (gI0 fun i j => .bl (decide (i ≤ j))) (dOp (gI CMulW fun i j => .int (i * j)) (dOp gIx (dVar 9) (dC (.int 0))) (dOp gIx (dVar 10) (dC (.int 1)))) (dOp (gI CMulW fun i j => .int (i * j)) (dOp gIx (dVar 10) (dC (.int 0))) (dOp gIx (dVar 9) (dC (.int 1)))))) (dSeq (dAsg 12 (dCall (c_is_as_fast a.C_BadPace) xw0 (dCons (dVar 9) (dCons (dVar 10) dNil)))) (dIfS (dOr (dB (dOp gNe (dVar 12) (dVar 11))) (dNot (dB (dCB (gIs .bool) (dCons (dVar 12) (dCons (dR (.ty "bool")) dNil)))))) (dRet (dC (.bl false))) dNext)))
def blkOdd (a : Ad) : DS := (dSeq (dFor (diSeq (dLst (dCons (dVar 7) (dCons (dVar 4) dNil)))) (dgName 13) (dIfS (dOr (dB (dOp gNe (dCall c_refused xw0 (dCons (dVar 6) (dCons (dVar 13) dNil))) (dLst (dCons (dC (.str "bad")) (dCons (dVar 6) (dCons (dC (.bl true)) dNil)))))) (dB (dOp gNe (dCall c_refused xw0 (dCons (dVar 13) (dCons (dVar 6) dNil))) (dLst (dCons (dC (.str "bad")) (dCons (dVar 6) (dCons (dC (.bl true)) dNil))))))) (dRet (dC (.bl false))) dNext)) (dIfS (dB (dOp gNe (dCall c_refused xw0 (dCons (dVar 6) (dCons (dC .non) dNil))) (dLst (dCons (dC (.str "bad")) (dCons (dVar 6) (dCons (dC (.bl true)) dNil)))))) (dRet (dC (.bl false))) dNext))
def tailLaw (a : Ad) : DS := (dSeq (dFor (diSeq (dLst (dCons (dTup (dCons (dVar 7) (dCons (dVar 8) dNil))) (dCons (dTup (dCons (dVar 8) (dCons (dVar 7) dNil))) (dCons (dTup (dCons (dVar 7) (dCons (dVar 4) dNil))) (dCons (dTup (dCons (dVar 4) (dCons (dVar 7) dNil))) (dCons (dTup (dCons (dVar 7) (dCons (dVar 7) dNil))) (dCons (dTup (dCons (dVar 4) (dCons (dVar 8) dNil))) dNil)))))))) (dgTup 2 (dgCons (dgName 9) (dgCons (dgName 10) dgNil))) (dSeq (dAsg 11 (dOp (gI0 fun i j => .bl (decide (i ≤ j))) (dOp (gI CMulW fun i j => .int (i * j)) (dOp gIx (dVar 9) (dC (.int 0))) (dOp gIx (dVar 10) (dC (.int 1)))) (dOp (gI CMulW fun i j => .int (i * j)) (dOp gIx (dVar 10) (dC (.int 0))) (dOp gIx (dVar 9) (dC (.int 1)))))) (dSeq (dAsg 12 (dCall (c_is_as_fast a.C_BadPace) xw0 (dCons (dVar 9) (dCons (dVar 10) dNil)))) (dIfS (dOr (dB (dOp gNe (dVar 12) (dVar 11))) (dNot (dB (dCB (gIs .bool) (dCons (dVar 12) (dCons (dR (.ty "bool")) dNil)))))) (dRet (dC (.bl false))) dNext)))) (dSeq (dAsg 5 (dLst (dCons (dTup (dCons (dC (.int 0)) (dCons (dC (.int 1)) dNil))) (dCons (dTup (dCons (dC (.int 1)) (dCons (dC (.int 0)) dNil))) (dCons (dTup (dCons (dUnI (fun i => -i) (dC (.int 1))) (dCons (dC (.int 2)) dNil))) (dCons (dTup (dCons (dC (.bl true)) (dCons (dC (.int 1)) dNil))) (dCons (dTup (dCons (dC (.int 1)) (dCons (dC (.bl true)) dNil))) (dCons (dTup (dCons (dC (.str "1")) (dCons (dC (.int 2)) dNil))) dNil)))))))) (dFor (diSeq (dOp gAdd (dLst (dCons (dC .non) (dCons (dC (.int 5)) (dCons (dC (.str "2/3")) (dCons (dTup dNil) (dCons (dTup (dCons (dC (.int 1)) dNil)) (dCons (dTup (dCons (dC (.int 1)) (dCons (dC (.int 2)) (dCons (dC (.int 3)) dNil)))) (dCons (dLst (dCons (dC (.int 1)) (dCons (dC (.int 2)) dNil))) dNil)))))))) (dVar 5))) (dgName 6) (dSeq (dFor (diSeq (dLst (dCons (dVar 7) (dCons (dVar 4) dNil)))) (dgName 13) (dIfS (dOr (dB (dOp gNe (dCall c_refused xw0 (dCons (dVar 6) (dCons (dVar 13) dNil))) (dLst (dCons (dC (.str "bad")) (dCons (dVar 6) (dCons (dC (.bl true)) dNil)))))) (dB (dOp gNe (dCall c_refused xw0 (dCons (dVar 13) (dCons (dVar 6) dNil))) (dLst (dCons (dC (.str "bad")) (dCons (dVar 6) (dCons (dC (.bl true)) dNil))))))) (dRet (dC (.bl false))) dNext)) (dIfS (dB (dOp gNe (dCall c_refused xw0 (dCons (dVar 6) (dCons (dC .non) dNil))) (dLst (dCons (dC (.str "bad")) (dCons (dVar 6) (dCons (dC (.bl true)) dNil)))))) (dRet (dC (.bl false))) dNext)))))
theorem pairs_ok {a : Ad} {E : DEnds} {ns : List Int} {s1 s2 s3 s4 s5 s6 s7 s8 s11 s12 s13 : Sl} {x y : D} (hx : IsP x) (hy : IsP y) (h : ∀ s9 s10 s11 s12, E.nx (slots ns s1 s2 s3 s4 s5 s6 s7 s8 s9 s10 s11 s12 s13)) :
    blkPairs a E (slots ns s1 s2 s3 s4 s5 s6 s7 s8 (.d x) (.d y) s11 s12 s13) := by
  have px := isP_pace hx
  have py := isP_pace hy
  obtain ⟨i, j, rfl, i0, i1, j0, j1⟩ := hx
  obtain ⟨i', j', rfl, i0', i1', j0', j1'⟩ := hy
  have b := px.2.2.1
  have b' := py.2.2.1
  refine ⟨mulW_of b.1 b'.2 (by decide) (by decide) (by decide), mulW_of b'.1 b.2 (by decide) (by decide) (by decide), ?_⟩
  refine ⟨rfl, px.2.1, py.2.1, px.2.2.1, py.2.2.1, ?_⟩
  rw [px.1, py.1]
  refine ⟨rfl, rfl, ?_⟩
  have e : fast (.tup [.int i, .int j]) (.tup [.int i', .int j']) = decide (i * j' ≤ i' * j) := rfl
  rw [e]
  have e2 : deq (.bl (decide (i * j' ≤ i' * j))) (.bl (decide (i * j' ≤ i' * j))) = true := deq_self rfl
  rw [e2]
  exact ⟨rfl, rfl, h _ _ _ _⟩
theorem odd_ok {a : Ad} {E : DEnds} {ns : List Int} {s1 s2 s3 s5 s8 s9 s10 s11 s12 s13 : Sl} {x one near : D} (hx : x ∈ oddOnes) (h1 : IsP one) (h2 : IsP near) (h : ∀ s13, E.nx (slots ns s1 s2 s3 (.d near) s5 (.d x) (.d one) s8 s9 s10 s11 s12 s13)) :
    blkOdd a E (slots ns s1 s2 s3 (.d near) s5 (.d x) (.d one) s8 s9 s10 s11 s12 s13) := by
  have ox := odd_no hx
  have p1 := isP_pace h1
  have p2 := isP_pace h2
  have e : deq (told x) (told x) = true := deq_self ox.2.2.2.2
  refine ⟨len_ok rfl, ?_⟩
  refine forD_inv (fun Γ => ∃ s13, Γ = slots ns s1 s2 s3 (.d near) s5 (.d x) (.d one) s8 s9 s10 s11 s12 s13) ?_ _ ?_ _ ⟨_, rfl⟩
  · rintro Γ ⟨s13, rfl⟩
    refine ⟨rfl, ox.2.1, rfl, ox.2.2.1, trivial, ?_⟩
    rw [ox.1]
    refine ⟨len_ok rfl, ox.2.2.2.2, ox.2.2.2.2, ?_⟩
    show cond (!deq (told x) (told x)) _ _
    rw [e]
    exact h _
  · rintro g hg Γ ⟨s13, rfl⟩ N hN
    have pg : isPace g = true ∧ flat g = true ∧ small g ∧ okD g = true := by
      rcases List.mem_cons.mp hg with rfl | hg
      · exact p1
      rcases List.mem_cons.mp hg with rfl | hg
      · exact p2
      cases hg
    refine ⟨rfl, ox.2.1, pg.2.1, ox.2.2.1, pg.2.2.1, ?_⟩
    rw [ox.1]
    refine ⟨len_ok rfl, ox.2.2.2.2, ox.2.2.2.2, ?_⟩
    show cond (!deq (told x) (told x)) _ _
    rw [e]
    refine ⟨rfl, pg.2.1, ox.2.1, pg.2.2.1, ox.2.2.1, ?_⟩
    rw [pg.1, ox.1]
    refine ⟨len_ok rfl, ox.2.2.2.2, ox.2.2.2.2, ?_⟩
    show cond (!deq (told x) (told x)) _ _
    rw [e]
    exact hN _ ⟨_, rfl⟩
theorem tail_ok {a : Ad} {E : DEnds} {ns : List Int} {s1 s2 s3 s5 s6 s9 s10 s11 s12 s13 : Sl} {one other near : D} (h1 : IsP one) (h2 : IsP other) (h3 : IsP near) (h : ∀ s1 s2 s3 s4 s5 s6 s7 s8 s9 s10 s11 s12 s13, E.nx (slots ns s1 s2 s3 s4 s5 s6 s7 s8 s9 s10 s11 s12 s13)) :
    tailLaw a E (slots ns s1 s2 s3 (.d near) s5 s6 (.d one) (.d other) s9 s10 s11 s12 s13) := by
  refine ⟨len_ok rfl, len_ok rfl, len_ok rfl, len_ok rfl, len_ok rfl, len_ok rfl, len_ok rfl, ?_⟩
  refine forD_inv (fun Γ => ∃ s9 s10 s11 s12, Γ = slots ns s1 s2 s3 (.d near) s5 s6 (.d one) (.d other) s9 s10 s11 s12 s13) ?_ _ ?_ _ ⟨_, _, _, _, rfl⟩
  · rintro Γ ⟨s9, s10, s11, s12, rfl⟩
    refine ⟨len_ok rfl, len_ok rfl, len_ok rfl, len_ok rfl, len_ok rfl, len_ok rfl, len_ok rfl, ?_⟩
    refine ⟨len_ok rfl, len_ok rfl, len_ok rfl, len_ok rfl, len_ok rfl, len_ok rfl, ?_⟩
    refine forD_inv (fun Γ => ∃ s6 s13, Γ = slots ns s1 s2 s3 (.d near) (.d (.lst [.tup [.int 0, .int 1], .tup [.int 1, .int 0], .tup [.int (-1), .int 2], .tup [.bl true, .int 1], .tup [.int 1, .bl true], .tup [.str "1", .int 2]])) s6 (.d one) (.d other) s9 s10 s11 s12 s13) ?_ _ ?_ _ ⟨_, _, rfl⟩
    · rintro Γ ⟨s6, s13, rfl⟩
      exact h _ _ _ _ _ _ _ _ _ _ _ _ _
    · rintro x hx Γ ⟨s6, s13, rfl⟩ N hN
      exact odd_ok (a := a) hx h1 h3 fun s13 => hN _ ⟨_, _, rfl⟩
  · rintro p hp Γ ⟨s9, s10, s11, s12, rfl⟩ N hN
    have key : ∀ (B : Gm → Prop) (x y : D), IsP x → IsP y → p = .tup [x, y] → dgTup 2 (dgCons (dgName 9) (dgCons (dgName 10) dgNil)) p (slots ns s1 s2 s3 (.d near) s5 s6 (.d one) (.d other) s9 s10 s11 s12 s13) fun Γ' => blkPairs a { E with nx := N, ct := N, bk := B } Γ' := by
      rintro B x y px py rfl
      exact ⟨rfl, pairs_ok (a := a) px py fun _ _ _ _ => hN _ ⟨_, _, _, _, rfl⟩⟩
    rcases List.mem_cons.mp hp with e | hp
    · exact key _ _ _ h1 h2 e
    rcases List.mem_cons.mp hp with e | hp
    · exact key _ _ _ h2 h1 e
    rcases List.mem_cons.mp hp with e | hp
    · exact key _ _ _ h1 h3 e
    rcases List.mem_cons.mp hp with e | hp
    · exact key _ _ _ h3 h1 e
    rcases List.mem_cons.mp hp with e | hp
    · exact key _ _ _ h1 h1 e
    rcases List.mem_cons.mp hp with e | hp
    · exact key _ _ _ h3 h2 e
    cases hp
theorem ok_law (T : Txt P K mg a) : FnOk P w K mg base (L2.CX P w) 5 a.f_law a.d_law ["_law_script"] (cLaw.sp K) := by
  refine fn_ok0 cLaw T.f_law.F sc_law rfl (fun cdv A outer s H E hr po => ⟨_, _, (pdss_cons (pds_for po rfl (pdi_range1 T.n_range (pda_cons (pd_callB (call_max2 rfl) oc_I2 T.n_max (by decide +kernel) (pda_cons pd_int (pda_cons (pd_callB (call_min2 rfl) oc_I2 T.n_min (by decide +kernel) (pda_cons (pd_callB call_len oc_len T.n_len (by decide +kernel) (pda_cons (pd_v 0) pda_nil)) (pda_cons pd_int pda_nil))) pda_nil))) pda_nil)) (pdg_name (i := 1) sc_law.nd)
  (pdss_pool (i := 2) (ok__law_pool T) (hr.mono (by decide)) T.f__law_pool.m T.f__law_pool.F.kp T.f__law_pool.b sc_law.nd (pda_cons (pd_v 0) (pda_cons (pd_v 1) pda_nil))
  (pdss_cons (pds_par (i := 7) (j := 8) (pda_cons (pd_call (ok__law_pace T) (hr.mono (by decide)) T.f__law_pace.m T.f__law_pace.F.kp T.f__law_pace.b (pda_cons (pd_v 2) pda_nil)) (pda_cons (pd_call (ok__law_pace T) (hr.mono (by decide)) T.f__law_pace.m T.f__law_pace.F.kp T.f__law_pace.b (pda_cons (pd_v 2) pda_nil)) pda_nil)) rfl sc_law.nd)
  (pdss_cons (pds_set (i := 3) (pd_add pd_int (pd_call (ok__law_take T) (hr.mono (by decide)) T.f__law_take.m T.f__law_take.F.kp T.f__law_take.b (pda_cons (pd_v 2) (pda_cons pd_int pda_nil)))) sc_law.nd)
  (pdss_cons (pds_set (i := 4) (pd_tup (pda_cons (pd_add (pd_mul (pd_ix (pd_v 7) pd_int) (pd_v 3)) (pd_mul (pd_ix (pd_lst (pda_cons pd_int (pda_cons pd_int (pda_cons (pd_neg pd_int) pda_nil)))) (pd_call (ok__law_take T) (hr.mono (by decide)) T.f__law_take.m T.f__law_take.F.kp T.f__law_take.b (pda_cons (pd_v 2) (pda_cons pd_int pda_nil)))) (pd_callTy call_int1 oc_int T.n_int (by decide +kernel) (pda_cons (pd_gt (pd_mul (pd_ix (pd_v 7) pd_int) (pd_v 3)) pd_int) pda_nil)))) (pda_cons (pd_mul (pd_ix (pd_v 7) pd_int) (pd_v 3)) pda_nil))) sc_law.nd)
  (pdss_cons (pds_for po rfl (pdi_seq (pd_lst (pda_cons (pd_tup (pda_cons (pd_v 7) (pda_cons (pd_v 8) pda_nil))) (pda_cons (pd_tup (pda_cons (pd_v 8) (pda_cons (pd_v 7) pda_nil))) (pda_cons (pd_tup (pda_cons (pd_v 7) (pda_cons (pd_v 4) pda_nil))) (pda_cons (pd_tup (pda_cons (pd_v 4) (pda_cons (pd_v 7) pda_nil))) (pda_cons (pd_tup (pda_cons (pd_v 7) (pda_cons (pd_v 7) pda_nil))) (pda_cons (pd_tup (pda_cons (pd_v 4) (pda_cons (pd_v 8) pda_nil))) pda_nil)))))))) (pdg_tup rfl (pdgs_cons (pdg_name (i := 9) sc_law.nd) (pdgs_cons (pdg_name (i := 10) sc_law.nd) pdgs_nil)))
  (pdss_cons (pds_set (i := 11) (pd_le (pd_mul (pd_ix (pd_v 9) pd_int) (pd_ix (pd_v 10) pd_int)) (pd_mul (pd_ix (pd_v 10) pd_int) (pd_ix (pd_v 9) pd_int))) sc_law.nd)
  (pdss_cons (pds_set (i := 12) (pd_call (ok_is_as_fast T) (hr.mono (by decide)) T.f_is_as_fast.m T.f_is_as_fast.F.kp T.f_is_as_fast.b (pda_cons (pd_v 9) (pda_cons (pd_v 10) pda_nil))) sc_law.nd)
  (pdss_one (pds_if (pdw_pt (pdw_or (pdt_ne hr.units (pd_v 12) (pd_v 11)) (pdw_or1 (pdt_not (pdt_val (pd_callB call_isi (oc_is .bool) T.n_isinstance (by decide +kernel) (pda_cons (pd_v 12) (pda_cons (pd_ty (T := "bool") T.n_bool (by decide +kernel)) pda_nil))))))))
  (pdss_one (pds_ret pd_bl))
  pdss_nil)))))
  (pdss_cons (pds_set (i := 5) (pd_lst (pda_cons (pd_tup (pda_cons pd_int (pda_cons pd_int pda_nil))) (pda_cons (pd_tup (pda_cons pd_int (pda_cons pd_int pda_nil))) (pda_cons (pd_tup (pda_cons (pd_neg pd_int) (pda_cons pd_int pda_nil))) (pda_cons (pd_tup (pda_cons pd_bl (pda_cons pd_int pda_nil))) (pda_cons (pd_tup (pda_cons pd_int (pda_cons pd_bl pda_nil))) (pda_cons (pd_tup (pda_cons pd_str (pda_cons pd_int pda_nil))) pda_nil))))))) sc_law.nd)
  (pdss_one (pds_for po rfl (pdi_seq (pd_add (pd_lst (pda_cons pd_non (pda_cons pd_int (pda_cons pd_str (pda_cons (pd_tup pda_nil) (pda_cons (pd_tup (pda_cons pd_int pda_nil)) (pda_cons (pd_tup (pda_cons pd_int (pda_cons pd_int (pda_cons pd_int pda_nil)))) (pda_cons (pd_lst (pda_cons pd_int (pda_cons pd_int pda_nil))) pda_nil)))))))) (pd_v 5))) (pdg_name (i := 6) sc_law.nd)
  (pdss_cons (pds_for po rfl (pdi_seq (pd_lst (pda_cons (pd_v 7) (pda_cons (pd_v 4) pda_nil)))) (pdg_name (i := 13) sc_law.nd)
  (pdss_one (pds_if (pdw_pt (pdw_or (pdt_ne hr.units (pd_call (ok__law_refused T) (hr.mono (by decide)) T.f__law_refused.m T.f__law_refused.F.kp T.f__law_refused.b (pda_cons (pd_v 6) (pda_cons (pd_v 13) pda_nil))) (pd_lst (pda_cons pd_str (pda_cons (pd_v 6) (pda_cons pd_bl pda_nil))))) (pdw_or1 (pdt_ne hr.units (pd_call (ok__law_refused T) (hr.mono (by decide)) T.f__law_refused.m T.f__law_refused.F.kp T.f__law_refused.b (pda_cons (pd_v 13) (pda_cons (pd_v 6) pda_nil))) (pd_lst (pda_cons pd_str (pda_cons (pd_v 6) (pda_cons pd_bl pda_nil))))))))
  (pdss_one (pds_ret pd_bl))
  pdss_nil)))
  (pdss_one (pds_if (pdt_ne hr.units (pd_call (ok__law_refused T) (hr.mono (by decide)) T.f__law_refused.m T.f__law_refused.F.kp T.f__law_refused.b (pda_cons (pd_v 6) (pda_cons pd_non pda_nil))) (pd_lst (pda_cons pd_str (pda_cons (pd_v 6) (pda_cons pd_bl pda_nil)))))
  (pdss_one (pds_ret pd_bl))
  pdss_nil))))))))))))
  (pdss_one (pds_ret pd_bl))), ?_⟩)
  intro ss kk xx hl h
  unfold cLaw at h
  dsimp only at h
  split at h
  · rename_i xs
    obtain ⟨⟨ns, rfl, h63⟩, h⟩ := h
    have ln : (intD ns).length = ns.length := List.length_map ..
    refine ⟨⟨?_, ?_⟩, ?_⟩
    · dsimp only
      (repeat' split) <;> omega
    · dsimp only
      (repeat' split) <;> omega
    refine forD_inv (fun Γ => ∃ s1 s2 s3 s4 s5 s6 s7 s8 s9 s10 s11 s12 s13, Γ = slots ns s1 s2 s3 s4 s5 s6 s7 s8 s9 s10 s11 s12 s13) ?_ _ ?_ _ ⟨_, _, _, _, _, _, _, _, _, _, _, _, _, rfl⟩
    · rintro Γ ⟨s1, s2, s3, s4, s5, s6, s7, s8, s9, s10, s11, s12, s13, rfl⟩
      exact h
    · rintro x hx Γ ⟨s1, s2, s3, s4, s5, s6, s7, s8, s9, s10, s11, s12, s13, rfl⟩ N hN
      obtain ⟨i, rfl, i0, i1⟩ := intsFrom_mem hx
      refine ⟨⟨ns, rfl, h63⟩, i0, ?_, ?_⟩
      · revert i1
        dsimp only
        (repeat' split) <;> omega
      refine ⟨rfl, fun p q p1 p2 q1 q2 => ⟨rfl, fun p' q' p1' p2' q1' q2' => ?_⟩⟩
      refine ⟨rfl, by decide, by decide, fun t t0 t1 => ?_⟩
      have hone : IsP (.tup [.int p, .int q]) := ⟨p, q, rfl, p1, by omega, q1, by omega⟩
      have hoth : IsP (.tup [.int p', .int q']) := ⟨p', q', rfl, p1', by omega, q1', by omega⟩
      have w1 : CMulW p (1 + t) := mulW_of (a := 64) (b := 64) (by omega) (by omega) (by decide) (by decide) (by decide)
      have w2 : CMulW q (1 + t) := mulW_of (a := 64) (b := 64) (by omega) (by omega) (by decide) (by decide) (by decide)
      have g1 : 1 ≤ p * (1 + t) := by
        have z := Int.mul_le_mul p1 (show 1 ≤ 1 + t by omega) (by decide) (by omega)
        simpa using z
      have g2 : 1 ≤ q * (1 + t) := by
        have z := Int.mul_le_mul q1 (show 1 ≤ 1 + t by omega) (by decide) (by omega)
        simpa using z
      have g3 : p * (1 + t) ≤ 10 ^ 18 * 9 := Int.mul_le_mul p2 (by omega) (by omega) (by decide)
      have g4 : q * (1 + t) ≤ 10 ^ 18 * 9 := Int.mul_le_mul q2 (by omega) (by omega) (by decide)
      refine ⟨w1, len_ok rfl, rfl, by decide, by decide, fun u u0 u1 => ?_⟩
      have fin : ∀ e : Int, 1 ≤ e → e < 2 ^ 100 → tailLaw a { nx := fun Γ => N (unp Γ), rt := fun s => kk (unp1 s), bk := fun Γ => dRet (dC (.bl true)) { nx := fun _ => kk (.d .non), rt := kk } (unp Γ), ct := fun Γ => N (unp Γ) } (slots ns (.d (.int i)) .pool (.d (.int (1 + t))) (.d (.tup [.int e, .int (q * (1 + t))])) s5 s6 (.d (.tup [.int p, .int q])) (.d (.tup [.int p', .int q'])) s9 s10 s11 s12 s13) := fun e e0 e1 =>
        tail_ok (a := a) hone hoth ⟨e, _, rfl, e0, e1, g2, by omega⟩ fun _ _ _ _ _ _ _ _ _ _ _ _ _ => hN _ ⟨_, _, _, _, _, _, _, _, _, _, _, _, _, rfl⟩
      have bb : ∀ (sg : Int) (b : Bool), sg.natAbs ≤ 1 → CMulW sg (if b = true then 1 else 0) := fun sg b h => mulW_of (a := 2) (b := 2) (by omega) (by cases b <;> decide) (by decide) (by decide) (by decide)
      have mm : ∀ (sg : Int), (sg = 1 ∨ sg = 0 ∨ sg = -1) → 1 ≤ p * (1 + t) + sg * (if decide (1 < p * (1 + t)) = true then 1 else 0) ∧ p * (1 + t) + sg * (if decide (1 < p * (1 + t)) = true then 1 else 0) < 2 ^ 100 := by
        intro sg hs
        by_cases c : 1 < p * (1 + t)
        · rw [if_pos (decide_eq_true c)]
          rcases hs with rfl | rfl | rfl <;> omega
        · rw [if_neg (by simpa using c)]
          omega
      have q3 : u = 0 ∨ u = 1 ∨ u = 2 := by omega
      rcases q3 with rfl | rfl | rfl
      · exact ⟨w1, bb 1 _ (by decide), w2, len_ok rfl, fin _ (mm 1 (by omega)).1 (mm 1 (by omega)).2⟩
      · exact ⟨w1, bb 0 _ (by decide), w2, len_ok rfl, fin _ (mm 0 (by omega)).1 (mm 0 (by omega)).2⟩
      · exact ⟨w1, bb (-1) _ (by decide), w2, len_ok rfl, fin _ (mm (-1) (by omega)).1 (mm (-1) (by omega)).2⟩
  · exact h.elim
end
theorem all_mk {l : PySem.W.OpenLaw} {w : World} {K : PySem.W.Frag} {h : Heap} {mg : Str → Option Value} {fa f1 f2 f3 f4 f5 f6 f7 f8 D fI cda cc C_BadPace : Addr} (X : K.In h) (G : h.Ns mainGlobals mg) (hfa : mg "law" = some (.ref fa))
    {od1 an1 : Option Addr} {sl1 : Array (Option Value)} {oc1 kV1 dc1 pm1 cd1 ct1 : Value}
    {od2 an2 : Option Addr} {sl2 : Array (Option Value)} {oc2 kV2 dc2 pm2 cd2 ct2 : Value}
    {od3 an3 : Option Addr} {sl3 : Array (Option Value)} {oc3 kV3 dc3 pm3 cd3 ct3 : Value}
    {od4 an4 : Option Addr} {sl4 : Array (Option Value)} {oc4 kV4 dc4 pm4 cd4 ct4 : Value}
    {od5 an5 : Option Addr} {sl5 : Array (Option Value)} {oc5 kV5 dc5 pm5 cd5 ct5 : Value}
    {od6 an6 : Option Addr} {sl6 : Array (Option Value)} {oc6 kV6 dc6 pm6 cd6 ct6 : Value}
    {od7 an7 : Option Addr} {sl7 : Array (Option Value)} {oc7 kV7 dc7 pm7 cd7 ct7 : Value}
    {od8 an8 : Option Addr} {sl8 : Array (Option Value)} {oc8 kV8 dc8 pm8 cd8 ct8 : Value}
    {odR anR : Option Addr} {slR : Array (Option Value)} {ocR dcR pmR ctR : Value} {cclR : Value} {cddR : Option Addr} {vsR : Array Value} {ccsR : Array (Option Value)} {fileR : Str} {tfR : Tok} {clR : Value} {cldR : Option Addr} {cslR : Array (Option Value)} {cdR : ClassData}
    {nmBadPace qnBadPace : Str} {NBadPace : Addr} {bsBadPace : List Value} {snBadPace : List Str} {subBadPace : List Value} {abBadPace : Bool} {colBadPace : Option Bool} {ddBadPace : Option Addr} {m0BadPace m1BadPace m2BadPace m3BadPace m5BadPace : Option Value}
    (a1 : PySem.W.nsIn K mainGlobals "is_integer" = some (some (.ref f1)))
    (l1 : K.lookup f1 = some ⟨oc1, od1, .func (PySem.W.fnOf "is_integer" "is_integer" (defArgs s_is_integer) (defBody s_is_integer) (defScope s_is_integer) .none kV1 dc1 pm1 an1 cd1 ct1), sl1⟩)
    (c1 : PySem.W.codeIn K cd1 "is_integer" = true)
    (k1 : PySem.W.keepIn K (.ref f1) = true)
    (a2 : PySem.W.nsIn K mainGlobals "is_pace" = some (some (.ref f2)))
    (l2 : K.lookup f2 = some ⟨oc2, od2, .func (PySem.W.fnOf "is_pace" "is_pace" (defArgs s_is_pace) (defBody s_is_pace) (defScope s_is_pace) .none kV2 dc2 pm2 an2 cd2 ct2), sl2⟩)
    (c2 : PySem.W.codeIn K cd2 "is_pace" = true)
    (k2 : PySem.W.keepIn K (.ref f2) = true)
    (a3 : PySem.W.nsIn K mainGlobals "is_as_fast" = some (some (.ref f3)))
    (l3 : K.lookup f3 = some ⟨oc3, od3, .func (PySem.W.fnOf "is_as_fast" "is_as_fast" (defArgs s_is_as_fast) (defBody s_is_as_fast) (defScope s_is_as_fast) .none kV3 dc3 pm3 an3 cd3 ct3), sl3⟩)
    (c3 : PySem.W.codeIn K cd3 "is_as_fast" = true)
    (k3 : PySem.W.keepIn K (.ref f3) = true)
    (a4 : PySem.W.nsIn K mainGlobals "_law_pool" = some (some (.ref f4)))
    (l4 : K.lookup f4 = some ⟨oc4, od4, .func (PySem.W.fnOf "_law_pool" "_law_pool" (defArgs s__law_pool) (defBody s__law_pool) (defScope s__law_pool) .none kV4 dc4 pm4 an4 cd4 ct4), sl4⟩)
    (c4 : PySem.W.codeIn K cd4 "_law_pool" = true)
    (k4 : PySem.W.keepIn K (.ref f4) = true)
    (a5 : PySem.W.nsIn K mainGlobals "_law_take" = some (some (.ref f5)))
    (l5 : K.lookup f5 = some ⟨oc5, od5, .func (PySem.W.fnOf "_law_take" "_law_take" (defArgs s__law_take) (defBody s__law_take) (defScope s__law_take) .none kV5 dc5 pm5 an5 cd5 ct5), sl5⟩)
    (c5 : PySem.W.codeIn K cd5 "_law_take" = true)
    (k5 : PySem.W.keepIn K (.ref f5) = true)
    (a6 : PySem.W.nsIn K mainGlobals "_law_pace" = some (some (.ref f6)))
    (l6 : K.lookup f6 = some ⟨oc6, od6, .func (PySem.W.fnOf "_law_pace" "_law_pace" (defArgs s__law_pace) (defBody s__law_pace) (defScope s__law_pace) .none kV6 dc6 pm6 an6 cd6 ct6), sl6⟩)
    (c6 : PySem.W.codeIn K cd6 "_law_pace" = true)
    (k6 : PySem.W.keepIn K (.ref f6) = true)
    (a7 : PySem.W.nsIn K mainGlobals "_law_refused" = some (some (.ref f7)))
    (l7 : K.lookup f7 = some ⟨oc7, od7, .func (PySem.W.fnOf "_law_refused" "_law_refused" (defArgs s__law_refused) (defBody s__law_refused) (defScope s__law_refused) .none kV7 dc7 pm7 an7 cd7 ct7), sl7⟩)
    (c7 : PySem.W.codeIn K cd7 "_law_refused" = true)
    (k7 : PySem.W.keepIn K (.ref f7) = true)
    (a8 : PySem.W.nsIn K mainGlobals "law" = some (some (.ref f8)))
    (l8 : K.lookup f8 = some ⟨oc8, od8, .func (PySem.W.fnOf "law" "law" (defArgs s_law) (defBody s_law) (defScope s_law) .none kV8 dc8 pm8 an8 cd8 ct8), sl8⟩)
    (c8 : PySem.W.codeIn K cd8 "law" = true)
    (k8 : PySem.W.keepIn K (.ref f8) = true)
    (z_ValueError : PySem.W.nsIn K mainGlobals "ValueError" = some none)
    (z_all : PySem.W.nsIn K mainGlobals "all" = some none)
    (z_bool : PySem.W.nsIn K mainGlobals "bool" = some none)
    (z_int : PySem.W.nsIn K mainGlobals "int" = some none)
    (z_isinstance : PySem.W.nsIn K mainGlobals "isinstance" = some none)
    (z_len : PySem.W.nsIn K mainGlobals "len" = some none)
    (z_max : PySem.W.nsIn K mainGlobals "max" = some none)
    (z_min : PySem.W.nsIn K mainGlobals "min" = some none)
    (z_range : PySem.W.nsIn K mainGlobals "range" = some none)
    (z_tuple : PySem.W.nsIn K mainGlobals "tuple" = some none)
    (aD : PySem.W.nsIn K mainGlobals "RoomError" = some (some (.ref D)))
    (aI : PySem.W.findIn K (.ref D) "__init__" = some (some (.ref fI)))
    (lI : K.lookup fI = some ⟨ocR, odR, .func (PySem.W.ksFn "__init__" "RoomError.__init__" (PySem.RoomX.iA ⟨4, 17, 4, 21⟩ ⟨4, 23, 4, 28⟩) (PySem.RoomX.iB ⟨5, 8, 5, 13⟩ ⟨5, 8, 5, 15⟩ ⟨5, 8, 5, 24⟩ ⟨5, 25, 5, 30⟩ ⟨5, 8, 5, 31⟩ ⟨5, 8, 5, 31⟩ ⟨6, 8, 6, 12⟩ ⟨6, 8, 6, 18⟩ ⟨6, 21, 6, 26⟩ ⟨6, 8, 6, 26⟩) PySem.RoomX.iS .none .none dcR pmR anR (.ref cda) ctR cc), slR⟩)
    (cI : PySem.W.codeIn K (.ref cda) "RoomError.__init__" = true)
    (lcI : K.lookup cda = some ⟨cclR, cddR, .fields vsR, ccsR⟩)
    (lvI : vsR[2]? = some (.str fileR tfR))
    (lfI : ((l.prog.main.file : Str) == fileR) = true)
    (lcc : K.lookup cc = some ⟨clR, cldR, .cell (some (.ref D)), cslR⟩)
    (lD : PySem.W.clsIn K D = some cdR)
    (zS : PySem.W.nsIn K mainGlobals "super" = some none)
    (mt : (l.prog.main.scope.names.lookup ("super" : Str)).isSome = false)
    (tp : PySem.W.nsIn K cStatics "thirdparty.any" = some none)
    (hcn : PySem.W.specialIn K (.builtin "object.__class__") "__get__" = some (some (.builtin "getset_descriptor.__get__")))
    (hct : PySem.W.takesIn K (.builtin "object.__class__") = some true)
    (aC_BadPace : PySem.W.nsIn K mainGlobals "BadPace" = some (some (.ref C_BadPace)))
    (xC_BadPace : K.lookup C_BadPace = some (excClassObj nmBadPace qnBadPace C_BadPace NBadPace bsBadPace [.ref D, .type "ValueError", .type "Exception", .type "BaseException", .type "object"] true snBadPace subBadPace abBadPace colBadPace ddBadPace m0BadPace m1BadPace m2BadPace m3BadPace m5BadPace "ValueError.__new__"))
    (sa_BadPace : PySem.W.findIn K (.ref C_BadPace) "__setattr__" = some (some (.builtin "object.__setattr__")))
    (ga_BadPace : PySem.W.findIn K (.ref C_BadPace) "__getattribute__" = some (some (.builtin "BaseException.__getattribute__")))
    (gg_BadPace : PySem.W.findIn K (.ref C_BadPace) "__getattr__" = some none)
    (nv_BadPace : PySem.W.findIn K (.ref C_BadPace) "value" = some none)
    (in_BadPace : PySem.W.findIn K (.ref C_BadPace) "__init__" = some (some (.ref fI)))
    (tf_BadPace : PySem.W.typeIn K (.ref fI) = some (.type "function"))
    (kC_BadPace : PySem.W.keepIn K (.ref C_BadPace) = true)
    (eC_BadPace : PySem.W.subIn K (.ref C_BadPace) (.type "BaseException") = some true)
    (vC_BadPace : PySem.W.subIn K (.ref C_BadPace) (.type "ValueError") = some true)
    (tC_BadPace : PySem.W.typeIn K (.ref C_BadPace) = some (.type "type"))
    (hC_BadPace : PySem.W.hasDictIn K C_BadPace = true)
    (iC_BadPace : PySem.W.isClsIn K C_BadPace = true)
    (sC_BadPace : PySem.W.subIn K (.ref C_BadPace) (.ref C_BadPace) = some true)
    (su_BadPace : PySem.W.ks_superIn K C_BadPace D "__init__" = some (some (.builtin "ValueError.__init__")))
    (mr_BadPace : PySem.W.mroIn K C_BadPace (.ref D) = some true)
    (hc_BadPace : PySem.W.findIn K (.ref C_BadPace) "__class__" = some (some (.builtin "object.__class__")))
    (mo_BadPace : PySem.W.mroIn K C_BadPace (.type "object") = some true) :
    ∃ fd : FuncData, (∀ (s : Shared) (v : Value), BindsTo s fd ⟨[v], []⟩ [("_law_script", v)]) ∧ ∀ base : Heap, K.In base → base.Ns mainGlobals mg → FnOk l.prog w K mg base (L2.CX l.prog w) 5 fa fd ["_law_script"] (cLaw.sp K) := by
  have e := hfa.symm.trans (PySem.W.mg_of X G a8)
  cases e
  have F1 := fun_mk (st := s_is_integer) l1 c1 k1
  have b1 := F1.binds (ps := ["thing"]) fun _ _ _ _ _ _ us hl => match us, hl with | [_], _ => rfl
  have F2 := fun_mk (st := s_is_pace) l2 c2 k2
  have b2 := F2.binds (ps := ["thing"]) fun _ _ _ _ _ _ us hl => match us, hl with | [_], _ => rfl
  have F3 := fun_mk (st := s_is_as_fast) l3 c3 k3
  have b3 := F3.binds (ps := ["one", "other"]) fun _ _ _ _ _ _ us hl => match us, hl with | [_, _], _ => rfl
  have F4 := fun_mk (st := s__law_pool) l4 c4 k4
  have b4 := F4.binds (ps := ["_law_script", "_law_k"]) fun _ _ _ _ _ _ us hl => match us, hl with | [_, _], _ => rfl
  have F5 := fun_mk (st := s__law_take) l5 c5 k5
  have b5 := F5.binds (ps := ["_law_pool_here", "_law_many"]) fun _ _ _ _ _ _ us hl => match us, hl with | [_, _], _ => rfl
  have F6 := fun_mk (st := s__law_pace) l6 c6 k6
  have b6 := F6.binds (ps := ["_law_pool_here"]) fun _ _ _ _ _ _ us hl => match us, hl with | [_], _ => rfl
  have F7 := fun_mk (st := s__law_refused) l7 c7 k7
  have b7 := F7.binds (ps := ["_law_one", "_law_other"]) fun _ _ _ _ _ _ us hl => match us, hl with | [_, _], _ => rfl
  have F8 := fun_mk (st := s_law) l8 c8 k8
  have b8 := F8.binds (ps := ["_law_script"]) fun _ _ _ _ _ _ us hl => match us, hl with | [_], _ => rfl
  have room : PySem.RoomX.RoomTxt l.prog K mg D fI := ⟨⟨_, _, _, _, _, _, _, _, _, _, _, _, _, _, _, _, _, _, _, _, _, lI, cI, rfl, ⟨_, _, _, _, _, _, lcI, lvI, lfI⟩, ⟨_, _, _, lcc⟩⟩, ⟨_, lD⟩, PySem.W.mg_none_of X G zS, mt, tp⟩
  have c_BadPace : PySem.RoomX.RoomCls K mg "BadPace" C_BadPace D fI := ⟨PySem.W.mg_of X G aC_BadPace, ⟨_, _, _, _, _, _, _, _, _, _, _, _, _, _, _, xC_BadPace, rfl⟩, sa_BadPace, ga_BadPace, gg_BadPace, nv_BadPace, in_BadPace, tf_BadPace, kC_BadPace, eC_BadPace, vC_BadPace, tC_BadPace, hC_BadPace, iC_BadPace, sC_BadPace, su_BadPace, mr_BadPace⟩
  have T : Txt l.prog K mg ⟨f1, PySem.W.fnOf "is_integer" "is_integer" (defArgs s_is_integer) (defBody s_is_integer) (defScope s_is_integer) .none kV1 dc1 pm1 an1 cd1 ct1, f2, PySem.W.fnOf "is_pace" "is_pace" (defArgs s_is_pace) (defBody s_is_pace) (defScope s_is_pace) .none kV2 dc2 pm2 an2 cd2 ct2, f3, PySem.W.fnOf "is_as_fast" "is_as_fast" (defArgs s_is_as_fast) (defBody s_is_as_fast) (defScope s_is_as_fast) .none kV3 dc3 pm3 an3 cd3 ct3, f4, PySem.W.fnOf "_law_pool" "_law_pool" (defArgs s__law_pool) (defBody s__law_pool) (defScope s__law_pool) .none kV4 dc4 pm4 an4 cd4 ct4, f5, PySem.W.fnOf "_law_take" "_law_take" (defArgs s__law_take) (defBody s__law_take) (defScope s__law_take) .none kV5 dc5 pm5 an5 cd5 ct5, f6, PySem.W.fnOf "_law_pace" "_law_pace" (defArgs s__law_pace) (defBody s__law_pace) (defScope s__law_pace) .none kV6 dc6 pm6 an6 cd6 ct6, f7, PySem.W.fnOf "_law_refused" "_law_refused" (defArgs s__law_refused) (defBody s__law_refused) (defScope s__law_refused) .none kV7 dc7 pm7 an7 cd7 ct7, fa, PySem.W.fnOf "law" "law" (defArgs s_law) (defBody s_law) (defScope s_law) .none kV8 dc8 pm8 an8 cd8 ct8, D, fI, C_BadPace⟩ := ⟨⟨F1, PySem.W.mg_of X G a1, b1⟩, ⟨F2, PySem.W.mg_of X G a2, b2⟩, ⟨F3, PySem.W.mg_of X G a3, b3⟩, ⟨F4, PySem.W.mg_of X G a4, b4⟩, ⟨F5, PySem.W.mg_of X G a5, b5⟩, ⟨F6, PySem.W.mg_of X G a6, b6⟩, ⟨F7, PySem.W.mg_of X G a7, b7⟩, ⟨F8, PySem.W.mg_of X G a8, b8⟩, PySem.W.mg_none_of X G z_ValueError, PySem.W.mg_none_of X G z_all, PySem.W.mg_none_of X G z_bool, PySem.W.mg_none_of X G z_int, PySem.W.mg_none_of X G z_isinstance, PySem.W.mg_none_of X G z_len, PySem.W.mg_none_of X G z_max, PySem.W.mg_none_of X G z_min, PySem.W.mg_none_of X G z_range, PySem.W.mg_none_of X G z_tuple, room, c_BadPace, ⟨hc_BadPace, hcn, hct, mo_BadPace⟩⟩
  exact ⟨_, fun s v => .of_eq rfl, fun base _ _ => ok_law T⟩
theorem walk {l : PySem.W.OpenLaw} {q : Program} {loose : List Str} {XP : (Str → Option Value) → Heap → Prop} {YP : World → Heap → Prop} {d : DefRec} {K : Params → PySem.W.Frag} (hn : l.most = some 63) (hdf : d.params.defaults = [])
    (hY : ∀ (w : World) (h : Heap), YP w h → (K w.params).In h)
    (F : ∀ (w : World) (mg : Str → Option Value) (fa : Addr) (h : Heap), (K w.params).In h → h.Ns mainGlobals mg → mg d.name = some (.ref fa) →
      ∃ fd : FuncData, (∀ (s : Shared) (u : Value), BindsTo s fd ⟨[u], []⟩ [("_law_script", u)]) ∧ ∀ base : Heap, (K w.params).In base → base.Ns mainGlobals mg → FnOk l.prog w (K w.params) mg base (L2.CX l.prog w) 5 fa fd ["_law_script"] (cLaw.sp (K w.params))) :
    PySem.W.WalkO q loose XP YP l.row.toRowW d [] (fun f vs => PySem.call f vs) :=
  L2.walk_of (n := 63) (k := 5) (x := "_law_script") (CX := fun w => L2.CX l.prog w) (sp := fun w => cLaw.sp (K w.params)) hn (by decide) hdf ⟨rfl, by decide, by decide⟩ hY F (fun _ _ a ns hl _ hS => law_sp hl hS) fun _ _ _ _ _ z => law_cx z
end G

open PySem PySem.W PyProof.Rows in
set_option maxRecDepth 100000 in
set_option maxHeartbeats 0 in
theorem PySem.Challenge.cw_leastrooms_k67_paces_compared_holds : PySem.Challenge.rw_leastrooms_k67_paces_compared.Holds := by
  w_on; o_law; k_head; (case hw => w_witness2)
  k_fill
  refine G.walk (l := PySem.Challenge.rw_leastrooms_k67_paces_compared) rfl rfl (fun w h Y => PySem.W.kIn_of Y) ?F
  case F =>
    intro w mg fa h KX G hmg
    refine' _root_.G.all_mk KX G hmg ?a1 ?l1 ?c1 ?k1 ?a2 ?l2 ?c2 ?k2 ?a3 ?l3 ?c3 ?k3 ?a4 ?l4 ?c4 ?k4 ?a5 ?l5 ?c5 ?k5 ?a6 ?l6 ?c6 ?k6 ?a7 ?l7 ?c7 ?k7 ?a8 ?l8 ?c8 ?k8 ?z_ValueError ?z_all ?z_bool ?z_int ?z_isinstance ?z_len ?z_max ?z_min ?z_range ?z_tuple ?aD ?aI ?lI ?cI ?lcI ?lvI ?lfI ?lcc ?lD ?zS ?mt ?tp ?hcn ?hct ?aC_BadPace ?xC_BadPace ?sa_BadPace ?ga_BadPace ?gg_BadPace ?nv_BadPace ?in_BadPace ?tf_BadPace ?kC_BadPace ?eC_BadPace ?vC_BadPace ?tC_BadPace ?hC_BadPace ?iC_BadPace ?sC_BadPace ?su_BadPace ?mr_BadPace ?hc_BadPace ?mo_BadPace
    (case a1 => k_is)
    (case l1 => k_is)
    (case c1 => k_is)
    (case k1 => k_is)
    (case a2 => k_is)
    (case l2 => k_is)
    (case c2 => k_is)
    (case k2 => k_is)
    (case a3 => k_is)
    (case l3 => k_is)
    (case c3 => k_is)
    (case k3 => k_is)
    (case a4 => k_is)
    (case l4 => k_is)
    (case c4 => k_is)
    (case k4 => k_is)
    (case a5 => k_is)
    (case l5 => k_is)
    (case c5 => k_is)
    (case k5 => k_is)
    (case a6 => k_is)
    (case l6 => k_is)
    (case c6 => k_is)
    (case k6 => k_is)
    (case a7 => k_is)
    (case l7 => k_is)
    (case c7 => k_is)
    (case k7 => k_is)
    (case a8 => k_is)
    (case l8 => k_is)
    (case c8 => k_is)
    (case k8 => k_is)
    (case z_ValueError => k_is)
    (case z_all => k_is)
    (case z_bool => k_is)
    (case z_int => k_is)
    (case z_isinstance => k_is)
    (case z_len => k_is)
    (case z_max => k_is)
    (case z_min => k_is)
    (case z_range => k_is)
    (case z_tuple => k_is)
    (case aD => k_is)
    (case aI => k_is)
    (case lI => k_is)
    (case cI => k_is)
    (case lcI => k_is)
    (case lvI => rfl)
    (case lfI => decide +kernel)
    (case lcc => k_is)
    (case lD => k_is)
    (case zS => k_is)
    (case mt => decide +kernel)
    (case tp => k_is)
    (case hcn => k_is)
    (case hct => k_is)
    (case aC_BadPace => k_is)
    (case xC_BadPace => k_is)
    (case sa_BadPace => k_is)
    (case ga_BadPace => k_is)
    (case gg_BadPace => k_is)
    (case nv_BadPace => k_is)
    (case in_BadPace => k_is)
    (case tf_BadPace => k_is)
    (case kC_BadPace => k_is)
    (case eC_BadPace => k_is)
    (case vC_BadPace => k_is)
    (case tC_BadPace => k_is)
    (case hC_BadPace => k_is)
    (case iC_BadPace => k_is)
    (case sC_BadPace => first | rfl | k_is)
    (case su_BadPace => ks_is)
    (case mr_BadPace => k_is)
    (case hc_BadPace => k_is)
    (case mo_BadPace => k_is)
