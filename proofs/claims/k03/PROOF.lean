import PyProof.Rows.All
import Wide.All
import OpenK.AllK
import Wide.FinOn
import HandS.ForExc
import HandS.ExcInit
import HandS.ExcField
import KE.KExcSuper
import HandS.ForMost
import HandS.Lambda
import HandS.IsInst
import KE.KExcIs
import PyProof.Rows.NestShow
import HandS.Wide
import HandS.Star
import HandS.Defaults
import PyProof.ListMulRight
import KE.KOpsOwn
import KE.KCallOwn
import KE.KFmtOwn
import PyProof.InstNe
import HandS.EndTab
import HandS.ClsMeth
import HandS.TupLe
import HandS.MakeKwOnly
import HandS.Small
import HandS.Codes
import HandS.FStr
import HandS.RaiseMore
import HandS.Dict
import HandS.Comp
import PyProof.ReprLen
import HandS.MakeKw
import PySem.Challenge.RW_clipfades_k03_ratios_reckoned
set_option Elab.async false
set_option linter.all false
set_option maxRecDepth 100000
set_option maxHeartbeats 4000000
/-! An own error class E(Base(ValueError)) whose __init__ says super().__init__(f) and self.f = f. -/
namespace Sup
open PySem PySem.W PySem.Calls PyProof.Rows PySem.HandSPX
def a1 (f : Str) (p1 p2 : Pos) : Arguments :=
  { posonlyargs := [], args := [{ arg := "self", annotation := none, pos := p1 }, { arg := f, annotation := none, pos := p2 }], vararg := none, kwonlyargs := [], kw_defaults := [], kwarg := none, defaults := [] }
def b1 (f : Str) (q1 q2 q3 q4 q5 q6 r1 r2 r3 r4 : Pos) : List Stmt :=
  [.Expr (.Call (.Attribute (.Call (.Name "super" q1) [] [] q2) "__init__" q3) [.Name f q4] [] q5) q6, .Assign [.Attribute (.Name "self" r1) f r2] (.Name f r3) r4]
def s1 (f : Str) : Scope :=
  { kind := .function, names := [(PySem.Str.ofString "self", .local), (f, .local), (PySem.Str.ofString "__class__", .free), (PySem.Str.ofString "super", .globalImplicit)], isGenerator := false, isCoroutine := false, more := [] }
/-- the field's name is no other name of the text -/
structure Nm (f : Str) : Prop where
  n1 : (f == ("self" : Str)) = false
  n2 : (("__class__" : Str) == f) = false
  n3 : (("super" : Str) == f) = false
  n4 : (f == ("__debug__" : Str)) = false
  bd : ∀ (qual : Str) (body : List Stmt) (doc pm : Value) (an : Option Addr) (cdv ct : Value) (cc : Addr) (p1 p2 : Pos) (a b : Value),
    bindArgs (ksFn "__init__" qual (a1 f p1 p2) body (s1 f) .none .none doc pm an cdv ct cc) ⟨[a, b], []⟩ = pure [(("self" : Str), a), (f, b)]
/-- what the top has written of the class x, at C, and of its __init__, at fI -/
structure Err1 (prog : Program) (K : Frag) (mg : Str → Option Value) (x f : Str) (C fI : Addr) : Prop where
  gC : mg x = some (.ref C)
  ox : L2.OexC K C
  rd : L2.XfC K C
  nf : findIn K (.ref C) f = some none
  nm : Nm f
  iC : findIn K (.ref C) "__init__" = some (some (.ref fI))
  tI : typeIn K (.ref fI) = some (.type "function")
  fn : ∃ (qual : Str) (oc : Value) (od : Option Addr) (doc pm : Value) (an : Option Addr) (cda : Addr) (ct : Value) (cc : Addr) (osl : Array (Option Value)) (p1 p2 q1 q2 q3 q4 q5 q6 r1 r2 r3 r4 : Pos),
    K.lookup fI = some ⟨oc, od, .func (ksFn "__init__" qual (a1 f p1 p2) (b1 f q1 q2 q3 q4 q5 q6 r1 r2 r3 r4) (s1 f) .none .none doc pm an (.ref cda) ct cc), osl⟩ ∧ codeIn K (.ref cda) qual = true ∧
    (∃ cl cld csl, K.lookup cc = some ⟨cl, cld, .cell (some (.ref C)), csl⟩) ∧ ∃ ccl cdd vs ccs file tf, K.lookup cda = some ⟨ccl, cdd, .fields vs, ccs⟩ ∧ vs[2]? = some (.str file tf) ∧ ((prog.main.file : Str) == file) = true ∧ (q3.endLine == q5.line) = true
  su : ks_superIn K C C "__init__" = some (some (.builtin "ValueError.__init__"))
  sV : subIn K (.ref C) (.type "ValueError") = some true
  sC : mroIn K C (.ref C) = some true
  gS : mg "super" = none
  oq : nsIn K cStatics "thirdparty.any" = some none
  top : (prog.main.scope.names.lookup ("super" : Str)).isSome = false
/-- what __init__ leaves of a fresh exception at x -/
structure End1 (h h' : Heap) (f : Str) (x C dx t1 : Addr) (v : Value) : Prop where
  keep : ∀ b o, b ≠ x → h.get? b = some o → h'.get? b = some o
  obj : h'.get? x = some { cls := .ref C, dict := some dx, data := .fields #[.ref t1, .none, .none, .none, .bool false, .none] }
  dbig : h.objs.size ≤ dx
  dne : dx ≠ x
  ns : h'.Ns1 dx (fun y => if y = f then some v else none)
theorem lk2 {f : Str} (N : Nm f) : (s1 f).names.lookup f = some .local := by
  simp only [s1, List.lookup, N.n1, beq_self_eq_true]
theorem lk3 {f : Str} (N : Nm f) : (s1 f).names.lookup ("__class__" : Str) = some .free := by
  have e : (("__class__" : Str) == ("self" : Str)) = false := by decide +kernel
  have e2 : (("__class__" : Str) == ("__class__" : Str)) = true := by decide +kernel
  simp only [s1, List.lookup, N.n2, e, e2]
theorem lk4 {f : Str} (N : Nm f) : (s1 f).names.lookup ("super" : Str) = some .globalImplicit := by
  have e : (("super" : Str) == ("self" : Str)) = false := by decide +kernel
  have e2 : (("super" : Str) == ("__class__" : Str)) = false := by decide +kernel
  have e3 : (("super" : Str) == ("super" : Str)) = true := by decide +kernel
  simp only [s1, List.lookup, N.n3, e, e2, e3]
theorem meth_eq {o : Expr} {name f : Str} {q3 q4 q5 : Pos} {env : Env} (hp : (q3.endLine == q5.line) = true) :
    eval (.Call (.Attribute o name q3) [.Name f q4] [] q5) env = (do
      let ov ← attributeBase o name env (eval o env)
      standAt q3.atName
      let (g, first) ← holding [ov] (getMethod ov name (do return (← importBound o env).getD true))
      callWith q5 g first (backTo q5 (starEach [.Name f q4] env)) []) := by
  rw [arm_eval_Call]
  have hf : methodCallForm ([Expr.Name f q4].length + ([] : List Keyword).length) (backTo q5 (starEach [.Name f q4] env)) (backToKw q5 (keywordEach [] env)) = true := rfl
  have e : ∀ ov, methodCall o name q3 q5 env ov ([Expr.Name f q4].length + ([] : List Keyword).length) (backTo q5 (starEach [.Name f q4] env)) (backToKw q5 (keywordEach [] env)) = (do
      let (g, first) ← holding [ov] (getMethod ov name (do return (← importBound o env).getD true))
      callWith q5 g first (backTo q5 (starEach [.Name f q4] env)) []) := fun ov => by
    unfold methodCall
    rw [hf]
    unfold calleeOf methodCallPos
    simp only [hp, Bool.not_true, Bool.false_or, if_true]
    rfl
  simp only [e]
section
variable {prog : Program} {w : World} {A : Around} {E : Value → Shared → Prop} {R : Result → Shared → Prop} {s : Shared} {K : Frag} {mg : Str → Option Value} {x f : Str} {C fI : Addr}
/-- the bound ValueError.__init__ called -/
theorem call_mw {h : Heap} {g : Array GenState} {d : Drawn} {t : Nat} {os : OsState} {u e t0 : Addr} {rest : List Value} {Q : Value → Shared → Prop} {nm q : Str} {N : Addr} {bs bm : List Value} {hdct : Bool} {sn : List Str} {sub : List Value} {ab : Bool} {col : Option Bool} {dd : Option Addr} {k0 k1 k2 k3 k5 : Option Value}
    (hC : h.get? C = some (excClassObj nm q C N bs bm hdct sn sub ab col dd k0 k1 k2 k3 k5 "ValueError.__new__")) (he : h.get? e = some (excO C t0)) (hu : h.get? u = some (kxs_mw "ValueError.__init__" e)) (hz : rest.length ≤ sizeLine)
    (hq : ∀ h' t1, (∀ b o, b ≠ e → h.get? b = some o → h'.get? b = some o) → h'.get? e = some (excO C t1) → Q .none ⟨h', g, d, t, os⟩) :
    wpAny (model prog w) A (call (.ref u) rest) Q E ⟨h, g, d, t, os⟩ := by
  refine wpAny_call (codeAny_of_tree ?_)
  show wpAny _ A.in1 (callAny (.ref u) ⟨rest, []⟩) _ _ _
  simp only [callAny]
  refine wpAny_bind (wpAny_load hu ?_)
  simp only [kxs_mw, show (Value.type "method-wrapper" == Value.type "method" || Value.type "method-wrapper" == Value.type "builtin_function_or_method" || Value.type "method-wrapper" == Value.type "method-wrapper") = true by decide, if_true]
  refine KFB.if_so (by decide) ?_
  refine wpAny_bind (check_bound_init F.excBase_ValueError.toExcCallFacts hC he rfl ?_)
  refine wpAny_bind (wpAny_pure (wpAny_pure ?_))
  refine ⟨plainId_quiet F.excBase_ValueError.init.plain _, codeAny_builtin F.excBase_ValueError.initEntry ?_⟩
  exact exc_init_tree (cls := .ref C) (t0 := t0) (dv := none) (c2 := .none) (c3 := .none) (b4 := .bool false) he hz fun h' k e' _ => hq h' _ k e'
theorem init1 (T : Err1 prog K mg x f C fI) {e t0 : Addr} {v : Value} (X : K.In s.heap) (hlim : s.heap.NoLimit) (hg : s.heap.Ns mainGlobals mg) (hb : ∃ mb, s.heap.Ns builtinsNs mb ∧ ∀ x : Str, x ≠ "__name__" → mb x = bootBuiltins x)
    (he : s.heap.get? e = some (excO C t0)) (hnx : K.lookup e = none) (hroom : A.depth < recursionLimit)
    (hq : ∀ h' tk dx t1, End1 s.heap h' f e C dx t1 v → R (.ok (.ret .none)) { s with heap := h', toks := tk }) :
    codeAny (model prog w) A (.call (.ref fI) ⟨[.ref e, v], []⟩) R s := by
  obtain ⟨qual, oc, od, doc, pm, an, cda, ct, cc, osl, p1, p2, q1, q2, q3, q4, q5, q6, r1, r2, r3, r4, ho, hcd, ⟨cl, cld, csl, hcell⟩, ccl, cdd, vs, ccs, file, tf, hcode, hvs, hfile, hqq⟩ := T.fn
  obtain ⟨nm, q, N, bs, bm, sn, sub, ab, col, dd, k0, k1, k2, k3, k5, hC, hbm⟩ := T.ox.cls
  obtain ⟨mb, hb1, hb2⟩ := hb
  have hcl : clsIn K C = some { name := nm, bases := bs, mro := .ref C :: bm, ns := N, qualname := q, hasDict := true, slotNames := sn, subclasses := sub, abstract := ab, collection := col, hasDel := false } := by unfold clsIn; rw [hC] <;> rfl
  have hloc : ∀ y ∈ [(("self" : Str), Value.ref e), (f, v)], (s1 f).names.lookup y.1 = some .local := fun y hy => by
    rcases List.mem_cons.mp hy with z | z
    · rw [z]; rfl
    · rw [List.mem_singleton.mp z]; exact lk2 T.nm
  have hsu : alongIn K "__init__" ((((Value.ref C :: bm) : List Value).dropWhile (· != .ref C)).drop 1) = some (some (.builtin "ValueError.__init__")) := by
    have z := T.su
    unfold ks_superIn at z
    rw [hcl] at z
    exact z
  refine ks_codeAny_call_defAt (fd := ksFn "__init__" qual (a1 f p1 p2) (b1 f q1 q2 q3 q4 q5 q6 r1 r2 r3 r4) (s1 f) .none .none doc pm an (.ref cda) ct cc) (binds := [("self", .ref e), (f, v)]) hroom (X _ _ ho) rfl hlim (codeRec_of X hcd) rfl (BindsTo.of_eq (T.nm.bd _ _ _ _ _ _ _ _ _ _ _ _))
    (by intro y hy; simp only [s1, List.mem_cons, List.mem_nil_iff, or_false] at hy; rcases hy with z | z | z | z <;> rw [z] <;> exact (fun w => nomatch w)) hloc (fun h1 hns kp => ?_)
  have X1 : K.In h1 := X.keeps kp
  have he1 := kp _ _ he
  have hC1 := X1 _ _ hC
  have hx0 : e ≠ C := fun z => by
    have y := X _ _ hC
    rw [← z, he] at y
    cases y
  have mself : ([(("self" : Str), Value.ref e), (f, v)].reverse.lookup ("self" : Str)) = some (.ref e) := by
    have e1 : (("self" : Str) == f) = false := by
      have z := T.nm.n1
      rw [Bool.eq_false_iff] at z ⊢
      intro y
      exact z (by rw [beq_iff_eq] at y ⊢; exact y.symm)
    simp only [List.reverse_cons, List.reverse_nil, List.nil_append, List.cons_append, List.lookup, e1, beq_self_eq_true]
  have mf : ([(("self" : Str), Value.ref e), (f, v)].reverse.lookup f) = some v := by
    simp only [List.reverse_cons, List.reverse_nil, List.nil_append, List.cons_append, List.lookup, beq_self_eq_true]
  show _root_.PySem.wpAt _ _ _ (execs (b1 f q1 q2 q3 q4 q5 q6 r1 r2 r3 r4) _) _ _ _
  unfold b1
  refine ks_wpAt_execs_cons (ks_wpAt_Expr_any (ks_wpAt_MethodCall (ks_wpAt_super_base (lk4 T.nm) (lk3 T.nm) (by decide +kernel) rfl (X1 _ _ ho) rfl rfl rfl (X1 _ _ hcode) rfl hvs hfile T.top ?_) (meth_eq hqq)))
  refine ks_loadName_global rfl (lk4 T.nm) (loadGlobal_builtin (hg.keeps kp) T.gS (hb1.keeps kp) ((hb2 _ (by decide +kernel)).trans (by decide +kernel : bootBuiltins "super" = some (.type "super"))) ⟨rfl, ?_⟩)
  refine wpAny_loadName_free rfl (lk3 T.nm) rfl ⟨_, X1 _ _ hcell, rfl⟩ ?_
  refine wpAny_loadName_local rfl rfl hns mself ?_
  refine ks_wpAny_isType_cls hC1 rfl ⟨rfl, ?_⟩
  refine ks_wpAny_call_super hC1 rfl he1 rfl (fun c z => nomatch z) (looks_mroIn X1 T.sC) (fun h2 hso k2 => ?_)
  have X2 : K.In h2 := X1.keeps k2
  have he2 := k2 _ _ he1
  have I2 : InstAt h2 e (excO C t0) C none := ⟨he2, rfl, rfl, trivial⟩
  refine kxs_getMethod kxs_ValueError hso (looks_opaque X2 T.oq) (l₀ := .ref C :: bm) (fun A Q E s k q => wpAny_bind ((looks_clsIn X2 hcl) A _ E s k (wpAny_pure q))) rfl X2 hsu (I2.type.andThen (looks_subIn X2 T.sV)) hx0 (by decide +kernel) ?_
  refine kxs_callWith (i := "ValueError.__init__") (x := e) rfl ?_
  have hns2 := hns.keeps k2
  refine evalArgs_plain (Calls.spliced_cons (ldc rfl (lk2 T.nm) (hns2.keeps fun b o z => Heap.get?_push_of_some _ z) mf (Calls.spliced_nil ⟨Heap.get?_push_size _ rfl, ?_⟩) T.nm.n4))
  have k3 : ∀ b o, h2.get? b = some o → (h2.push (kxs_mw "ValueError.__init__" e)).get? b = some o := fun b o z => Heap.get?_push_of_some _ z
  show wpAny _ _ (call (.ref h2.objs.size) [v]) _ _ _
  refine call_mw (X2.keeps k3 _ _ hC) (k3 _ _ he2) (Heap.get?_push_size _ rfl) (by rw [sizeLine_eq]; exact (by decide : 1 ≤ 16777216)) fun h4 t1 k4 he4 => ?_
  have kall : ∀ b o, b ≠ e → s.heap.get? b = some o → h4.get? b = some o := fun b o hb z => k4 b o hb (k3 b o (k2 b o (kp b o z)))
  have X4 : K.In h4 := fun a o z => kall a o (fun y => by rw [y, hnx] at z; cases z) (X a o z)
  have hL : s.heap.objs.size ≠ e := Nat.ne_of_gt (Heap.lt_size he)
  have hns4 : h4.Ns s.heap.objs.size (fun y => [(("self" : Str), Value.ref e), (f, v)].reverse.lookup y) := by
    obtain ⟨oL, es, ep, hoL, r⟩ := hns2
    exact ⟨oL, es, ep, k4 _ _ hL (k3 _ _ hoL), r⟩
  show _root_.PySem.wpAt _ _ _ (execs [.Assign [.Attribute (.Name "self" r1) f r2] (.Name f r3) r4] _) _ _ _
  refine wpAt_of_wpAny (wpAny_execs_cons (plainObj_wpAny_Assign_Attribute (ldc rfl (lk2 T.nm) hns4 mf (ldc rfl rfl hns4 mself ?_) T.nm.n4)))
  refine set_plain X4 (ox := excO C t1) (od := none) ⟨he4, rfl, rfl, trivial⟩ T.ox.sa ?_
  refine exc_osa X4 he4 hcl (show refsVE (.ref C :: bm) = true from hbm) rfl T.nf (fun h5 tk5 dx k5 dn dne hx5 hn5 => ?_)
  have z1 : s.heap.objs.size ≤ h1.objs.size := Nat.le_of_lt hns.lt
  refine wpAny_execs_nil (hq h5 tk5 dx t1 ⟨fun b o hb z => k5 b o hb (kall b o hb z), hx5, ?_, dne, hn5⟩)
  have z2 := hns4.lt
  exact Nat.le_trans (Nat.le_of_lt z2) dn
/-- a made error -/
structure Made1 (h h' : Heap) (f : Str) (e C d : Addr) (v : Value) : Prop where
  keep : ∀ b o, h.get? b = some o → h'.get? b = some o
  new : h.objs.size ≤ e
  obj : ∃ oe vs, h'.get? e = some oe ∧ oe.cls = .ref C ∧ oe.dict = some d ∧ oe.data = .fields vs ∧ vs[1]? = some .none
  dbig : h.objs.size ≤ d
  dne : d ≠ e
  ns : h'.Ns1 d (fun y => if y = f then some v else none)
theorem made1 (T : Err1 prog K mg x f C fI) {v : Value} (X : K.In s.heap) (hlim : s.heap.NoLimit) (hg : s.heap.Ns mainGlobals mg) (hb : ∃ mb, s.heap.Ns builtinsNs mb ∧ ∀ x : Str, x ≠ "__name__" → mb x = bootBuiltins x) (hroom : A.depth + 1 < recursionLimit)
    (hq : ∀ h' tk e d, Made1 s.heap h' f e C d v → R (.ok (.ret (.ref e))) { s with heap := h', toks := tk }) :
    codeAny (model prog w) A (.call (.ref C) ⟨[v], []⟩) R s := by
  obtain ⟨nm, q, N, bs, bm, sn, sub, ab, col, dd, k0, k1, k2, k3, k5, hC, hbm⟩ := T.ox.cls
  obtain ⟨hp, g, dr, tk, os⟩ := s
  have kp : ∀ b o, hp.get? b = some o → ((hp.push (kdv_tup [v])).push (excO C hp.objs.size)).get? b = some o := fun b o z => Heap.get?_push_of_some _ (Heap.get?_push_of_some _ z)
  have hget : ((hp.push (kdv_tup [v])).push (excO C hp.objs.size)).get? (hp.objs.size + 1) = some (excO C hp.objs.size) := by heap_get
  have hnx : K.lookup (hp.objs.size + 1) = none := by
    cases z : K.lookup (hp.objs.size + 1) with
    | none => rfl
    | some o => exact absurd (Nat.lt_of_succ_lt (Heap.lt_size (X _ _ z))) (Nat.lt_irrefl _)
  refine call_own F.excBase_ValueError (fun Y => refsVE_contains Y bm hbm) (X _ _ hC) (looks_findIn X T.iC) (fun self => bind_fn X self T.tI) (by rw [sizeLine_eq]; exact (by decide : 1 ≤ 16777216)) ?_
  obtain ⟨mb, hb1, hb2⟩ := hb
  refine init1 (s := ⟨(hp.push (kdv_tup [v])).push (excO C hp.objs.size), g, dr, tk, os⟩) T (X.keeps kp) (hlim.keeps kp) (hg.keeps kp) ⟨mb, hb1.keeps kp, hb2⟩ hget hnx ?_ fun h' tk' dx t1 ⟨k', hx, dn, dne, hns⟩ => ?_
  · show A.depth + 1 < recursionLimit
    exact hroom
  · have old : ∀ b o, hp.get? b = some o → h'.get? b = some o := fun b o z => k' b o (Nat.ne_of_lt (Nat.lt_succ_of_lt (Heap.lt_size z))) (kp b o z)
    have z : hp.objs.size + 1 + 1 ≤ dx := by
      have y := dn
      first
        | (rw [Heap.size_push, Heap.size_push] at y; exact y)
        | exact y
    exact ⟨rfl, hq h' tk' (hp.objs.size + 1) dx ⟨old, Nat.le_succ _, ⟨_, _, hx, rfl, rfl, rfl, rfl⟩, Nat.le_trans (Nat.le_trans (Nat.le_succ _) (Nat.le_succ _)) z, dne, hns⟩⟩
end
end Sup
namespace L2
open PySem PySem.Spec PyProof.Rows
theorem relO_one {v : V} {v' : Value} {f : Str} (r : RelV v v') (g : Str) : RelO (List.lookup g [(f, v)]) (if g = f then some v' else none) := by
  by_cases hw : g = f
  · rw [if_pos hw, hw]
    have z : List.lookup f [(f, v)] = some v := by simp [List.lookup]
    rw [z]
    exact r
  · rw [if_neg hw]
    have y : (g == f) = false := by simpa using hw
    have z : List.lookup g [(f, v)] = none := by simp [List.lookup, y]
    rw [z]
    trivial
section
variable {X : Cx} {C fI : Addr} {x f : Str}
/-- E(e) -/
def tMk1 (C : Addr) (f : Str) (ta : TA) : St → Hp → XK → Prop := fun σ H Q => ta σ H fun vs H1 => ∃ v, vs = [v] ∧ ∀ d, H1 d = none → Q (.ref C) (some d) (upd H1 d (.xd [(f, v)]))
theorem pmk_1 {a : Expr} {ta : TA} {p pos : Pos} {k : Nat} (T : Sup.Err1 X.prog X.K X.mg x f C fI) (hr : Room k X.A) (ha : PA X [a] ta) (hg : Gl X x := by rfl) (hdb : (x == ("__debug__" : Str)) = false := by decide)
    (hs : starEach (a :: []) X.env = (false, eval a X.env) :: starEach [] X.env := by rfl) (hpl : (backTo pos (starEach [] X.env)).any (·.1) = false := by rfl) :
    PMk X (.Call (.Name x p) [a] [] pos) (tMk1 C f ta) := by
  intro pins s σ H Q I h
  refine wpAny_Call_Name_kw (ld_glob I hg T.gC ?_ hdb)
  refine PySem.W.callWith_K (h₀ := X.base) I.ok.mod.kin T.ox.kC (thn (ha.run pos pins s σ H _ I h) fun us s1 hh => ?_) hs hpl
  obtain ⟨vs, H1, I1, r1, v, ev, q1⟩ := hh
  subst ev
  refine ⟨I1.kIn, ?_⟩
  cases r1 with
  | cons rv rn =>
    rename_i v' us'
    cases rn
    show wpAny _ _ (call (.ref C) [v']) _ _ _
    have hlim := I1.nolimit
    obtain ⟨mb, hb1, hb2⟩ := I1.mod.blt
    have bk1 := I1.bk
    have gl1 := I1.mod.glob
    obtain ⟨hp, g, dr, tk, os⟩ := s1
    refine wpAny_call (Sup.made1 T I1.kIn hlim (gl1.keeps bk1) ⟨mb, hb1.keeps bk1, hb2⟩ (by have := hr.dp; omega) fun h' tk' e d M => ?_)
    show MkP X pins σ Q (.ref e) ⟨h', g, dr, tk', os⟩
    obtain ⟨oe, fv, hoe, hc, hd, hdat, h1⟩ := M.obj
    have hns := M.ns
    obtain ⟨G', g1, g2⟩ := restrict h' fun b => decide (b ≠ e)
    have gk : ∀ b, b ≠ e → G'.get? b = h'.get? b := fun b hb => g1 b (decide_eq_true hb)
    have ge : G'.get? e = none := g2 e (by simp)
    have old : ∀ b o, hp.get? b = some o → G'.get? b = some o := fun b o z => (gk b (Nat.ne_of_lt (Nat.lt_of_lt_of_le (Heap.lt_size z) M.new))).trans (M.keep b o z)
    have ob : ObjOk X.prog X.w (upd H1 d (.xd [(f, v)])) G' d (.xd [(f, v)]) :=
      ⟨_, hns.at (fun o z => (gk d M.dne).trans z), fun y => relO_one rv y⟩
    have J : Inv X pins σ (upd H1 d (.xd [(f, v)])) ⟨G', g, dr, tk', os⟩ := I1.laid (t' := tk') old M.dbig ob
    refine ⟨e, oe, fv, ⟨G', g, dr, tk', os⟩, _, .ref C, some d, rfl, J, fun b o z => ?_, ge, hoe, ⟨hc, hd⟩, hdat, h1, ?_, rfl, I1.bare, raises_own T.ox.exC T.ox.tyC, q1 d (I1.hok.fresh M.dbig)⟩
    · by_cases hb : b = e
      · have z' : G'.get? b = some o := z
        rw [hb, ge] at z'; cases z'
      · exact (gk b hb).symm.trans z
    · rw [upd_ne (Ne.symm M.dne)]
      exact I1.hok.fresh M.new
/-- raise E(e) -/
def tRaise1 (C : Addr) (f : Str) (W : WX) (ta : TA) : TS := fun _ σ H => tMk1 C f ta σ H fun cls d H' => W cls d σ H'
theorem ps_raise1 {a : Expr} {ta : TA} {W : WX} {p pos pos2 : Pos} {k : Nat} (hc : X.calm = true) (T : Sup.Err1 X.prog X.K X.mg x f C fI) (hr : Room k X.A) (tk : Takes X W) (ha : PA X [a] ta) (hg : Gl X x := by rfl) (hdb : (x == ("__debug__" : Str)) = false := by decide)
    (hs : starEach (a :: []) X.env = (false, eval a X.env) :: starEach [] X.env := by rfl) (hpl : (backTo pos (starEach [] X.env)).any (·.1) = false := by rfl) :
    PS X (.Raise (some (.Call (.Name x p) [a] [] pos)) none pos2) (tRaise1 C f W ta) := ps_raise hc tk (pmk_1 T hr ha hg hdb hs hpl)
end
end L2
/-! Rules of our own over the hand layer: defs whose guards are told (for repr), repr of data, an error kept behind its except suite. -/
namespace My
open PySem PySem.Spec PyProof.Rows L2
/-! ### a def that is run where no repr is under way -/
structure FnG (P : Program) (w : World) (K : PySem.W.Frag) (mg : Str → Option Value) (base : Heap) (CX : CXT) (k : Nat) (f : Addr) (fd : FuncData) (ps : List Str) (sp : Sp) : Prop where
  len : ∀ vs H Q E, sp vs H Q E → vs.length = ps.length
  run : ∀ (A : Around) (outer : List Env) (s : Shared) (H : Hp) (args : Args) (us : List Value) (vs : List V) (Q : VK) (E : XK), A.guards = some [] → Room k A → Env0 P w K mg base A outer s H → BindsTo s fd args (ps.zip us) → Vals vs us → sp vs H Q E →
    codeAny (model P w) A (.call (.ref f) args) (CR CX outer P w H s Q E) s
section
variable {P : Program} {w : World} {K : PySem.W.Frag} {mg : Str → Option Value} {base : Heap}
theorem okG {x qual : Str} {st : Stmt} {f : Addr} {fd : FuncData} {N ps : List Str} {k : Nat} {sp : Sp} (F : Fun K x qual st f fd) (S : FnScope N ps (defScope st)) (len : ∀ vs H Q E, sp vs H Q E → vs.length = ps.length)
    (hbody : ∀ (cdv : Value) (A : Around) (outer : List Env) (s : Shared) (H : Hp) (vs : List V) (Q : VK) (E : XK), K.lookup f ≠ none → A.guards = some [] → Room k (A.deeper (envOfC qual (defScope st) s.heap.objs.size f cdv)) → sp vs H Q E →
      ∃ t, PSs (cxOf CX0 P w K mg base N qual (defScope st) f cdv A outer s H E).nox (defBody st) t ∧ t { nx := fun _ H' => Q .non H', rt := Q } (start N vs) H) : FnG P w K mg base CX0 (k + 1) f fd ps sp := by
  obtain ⟨oc, od, kV, doc, pm, an, cdv, ct, osl, rfl, lk, hcd⟩ := F.ex
  refine ⟨len, fun A outer s H args us vs Q E hg hr e0 hb r hsp => LamX.run_ofS lk hcd S hr e0 hb r (len _ _ _ _ hsp) fun hr' => ?_⟩
  obtain ⟨t, h, q⟩ := hbody cdv A outer s H vs Q E (by rw [lk]; exact fun z => nomatch z) hg hr' hsp
  exact ⟨t, h.nox, q⟩
end
section
variable {X : Cx} {CX : CXT} {k : Nat} {f : Addr} {fd : FuncData} {ps : List Str} {sp : Sp} {E : XK} {x : Str} {e : Expr} {es : List Expr} {t : TA} {p pos : Pos} {ds : List Value} {dvs : List V}
/-- x(e, ..) -/
theorem pe_callG (F : FnG X.prog X.w X.K X.mg X.base CX k f fd ps sp) (hgd : X.A.guards = some []) (hr : Room k X.A) (hg : Gl X x) (hm : X.mg x = some (.ref f)) (hk : PySem.W.keepIn X.K (.ref f) = true) (hb : Binds X.K fd ps []) (hx : Passes CX X E)
    (ha : PA X (e :: es) t) (hdb : (x == ("__debug__" : Str)) = false := by decide) (hs : starEach (e :: es) X.env = (false, eval e X.env) :: starEach es X.env := by rfl) (hpl : (backTo pos (starEach es X.env)).any (·.1) = false := by rfl) :
    PE X (.Call (.Name x p) (e :: es) [] pos) (tCall sp [] E t) := by
  refine ⟨fun pins s σ H Q I h => ?_⟩
  refine wpAny_Call_Name_kw (ld_glob I hg hm ?_ hdb)
  refine PySem.W.callWith_K (h₀ := X.base) I.ok.mod.kin hk (thn (ha.run pos pins s σ H _ I h) fun us s1 ⟨vs, H1, I1, r, q⟩ => ⟨I1.kIn, ?_⟩) hs hpl
  have q' : sp vs H1 Q E := by
    have z : sp (vs ++ []) H1 Q E := q
    rw [List.append_nil] at z
    exact z
  have hl : us.length = ps.length := by rw [← r.length]; exact F.len _ _ _ _ q'
  have hb' : BindsTo s1 fd ⟨us, []⟩ (ps.zip us) := by
    have z := hb s1 us I1.kIn (by rw [List.append_nil]; exact hl)
    rw [List.append_nil] at z
    exact z
  refine wpAny_call (codeAny_mono (F.run X.A X.stack s1 H1 ⟨us, []⟩ us vs Q E hgd hr I1.env0 hb' r q') fun res s2 hq => ?_)
  cases res with
  | error er => exact hx pins σ H1 s1 er s2 I1 hq
  | ok fl =>
    cases fl with
    | ret u => exact I1.after hq
    | next => exact False.elim hq
    | brk => exact False.elim hq
    | cont => exact False.elim hq
end
/-! ### repr of data -/
theorem sqt_same {K : PySem.W.Frag} {H H' : Hp} {a : Addr} {xs : List V} (e : Same H H') (h : SqT K H a xs) : SqT K H' a xs := by
  rcases h with (h | ⟨o, h⟩) | h
  · exact .inl (.inl (e _ _ h))
  · exact .inl (.inr ⟨o, e _ _ h⟩)
  · exact .inr h
/-- data that repr shows: as for ==, and the empty dict -/
def Dr (K : PySem.W.Frag) (H : Hp) (v : V) (d : PyData) : Prop := Dp K H v d ∨ (∃ a, v = .ref a ∧ d = .dict [] ∧ H a = some (.dK []))
mutual
theorem dp_same {K : PySem.W.Frag} {H H' : Hp} (k : Same H H') : ∀ (d : PyData) (v : V), Dp K H v d → Dp K H' v d
  | _, _, .non => .non
  | _, _, .bl b => .bl b
  | _, _, .int i => .int i
  | _, _, .str x => .str x
  | .list ds, _, .lst h ha => .lst (k.seq h) (dp_sameAll k ds _ ha)
  | .tuple ds, _, .tup h ha => .tup (sqt_same k h) (dp_sameAll k ds _ ha)
theorem dp_sameAll {K : PySem.W.Frag} {H H' : Hp} (k : Same H H') : ∀ (ds : List PyData) (vs : List V), DpAll K H vs ds → DpAll K H' vs ds
  | [], _, .nil => .nil
  | d :: ds, _, .cons h1 h2 => .cons (dp_same k d _ h1) (dp_sameAll k ds _ h2)
end
theorem dr_same {K : PySem.W.Frag} {H H' : Hp} {v : V} {d : PyData} (k : Same H H') (h : Dr K H v d) : Dr K H' v d := by
  rcases h with h | ⟨a, e1, e2, e3⟩
  · exact .inl (dp_same k d v h)
  · exact .inr ⟨a, e1, e2, k _ _ e3⟩
def rRepr (K : PySem.W.Frag) : List V → Hp → VK → Prop := fun xs H Q => ∃ (v : V) (d : PyData), xs = [v] ∧ Dr K H v d ∧ d.showable = true ∧ d.depth ≤ 60 ∧ d.shown.length ≤ sizeLine ∧ Q (.str d.shown) H
mutual
theorem noDict {K : PySem.W.Frag} {H : Hp} : ∀ (d : PyData) (v : V), Dp K H v d → d.hasDict = false
  | .none, _, _ => rfl
  | .bool _, _, _ => rfl
  | .int _, _, _ => rfl
  | .str _, _, _ => rfl
  | .list ds, _, h => by
    cases h with
    | lst _ ha => exact noDictAll ds _ ha
  | .tuple ds, _, h => by
    cases h with
    | tup _ ha => exact noDictAll ds _ ha
  | .dict _, _, h => by cases h
theorem noDictAll {K : PySem.W.Frag} {H : Hp} : ∀ (ds : List PyData) (vs : List V), DpAll K H vs ds → PyData.hasDictAll ds = false
  | [], _, _ => rfl
  | d :: ds, _, h => by
    cases h with
    | cons h1 h2 =>
      show (d.hasDict || PyData.hasDictAll ds) = false
      rw [noDict d _ h1, noDictAll ds _ h2]
      rfl
end
section
variable {X : Cx} {k : Nat}
theorem call_repr (hgd : X.A.guards = some []) (hr : Room k X.A) : CallR X (.builtin "repr") (rRepr X.K) := by
  intro pins s σ H xs us Q I r h
  obtain ⟨v, d, rfl, hd, hs, hdp, hz, q⟩ := h
  obtain ⟨u, rfl, r1⟩ := vals1 r
  have hu : X.A.units + (d.depth + 1) < cLine := by
    have := hr.units
    omega
  have fin : ∀ (h' : Heap) (t : Tok) (tk : Nat), (∀ b o, s.heap.get? b = some o → h'.get? b = some o) → EP X pins σ Q (.str d.shown t) { s with heap := h', toks := tk } :=
    fun h' t tk hk => ⟨.str d.shown, H, I.kept (t' := tk) hk, ⟨t, rfl⟩, q⟩
  rcases hd with hd | ⟨a, rfl, rfl, ha⟩
  · have hn := noDict d v hd
    obtain ⟨as, rd⟩ := Dp.reads I d v u hd r1
    cases hd with
    | non => cases (show u = Value.none from r1); exact PySem.P.repr_of_none (fin s.heap _ _ fun _ _ e => e)
    | bl b => cases (show u = Value.bool b from r1); exact PySem.P.repr_of_bool (fin s.heap _ _ fun _ _ e => e)
    | int i =>
      obtain ⟨t, e⟩ := (show ∃ t, u = Value.int i t from r1)
      cases e
      exact PySem.P.repr_of_int (of_decide_eq_true hs) (fin s.heap _ _ fun _ _ e => e)
    | str z =>
      obtain ⟨t, e⟩ := (show ∃ t, u = Value.str z t from r1)
      cases e
      exact PySem.P.repr_of_str (fin s.heap _ _ fun _ _ e => e) hz
    | @lst a xs ds _ _ =>
      cases (show u = Value.ref a from r1)
      exact repr_of_reads' rd hs (PyData.noDict_hsm hn) hgd hu (fun _ _ e => e) (fun h' t tk hk => fin h' t tk hk) hz
    | @tup a xs ds _ _ =>
      cases (show u = Value.ref a from r1)
      exact repr_of_reads' rd hs (PyData.noDict_hsm hn) hgd hu (fun _ _ e => e) (fun h' t tk hk => fin h' t tk hk) hz
  · cases (show u = Value.ref a from r1)
    obtain ⟨_, hne, vs, kv, o, es, ep, e1, e2, e3, e4⟩ := (show ObjOk X.prog X.w H s.heap a (.dK []) from I.hok a _ ha)
    cases kv
    have hes : es.toList = [] := by
      obtain ⟨_, pr, _⟩ := e4
      revert pr
      generalize es.toList = l
      intro pr
      cases pr
      rfl
    have rd : Reads s.heap (.ref a) (.dict []) (a :: [] ++ []) := .dict e1 e2.1 e3 (by rw [hes]; exact .nil) (by rw [hes]; exact .nil)
    exact repr_of_reads' rd hs (fun _ hm => by simp at hm; simp [hm] at hne) hgd hu (fun _ _ e => e) (fun h' t tk hk => fin h' t tk hk) hz
end
/-! ### an error that stands behind its except suite -/
/-- at a: an error of the class cls, its own dict at d -/
def ExA (cls : Value) (d : Option Addr) (a : Addr) : HO := .ext fun h => ∃ (oe : Obj) (vs : Array Value), h.get? a = some oe ∧ Zc cls d oe ∧ oe.data = .fields vs
theorem exA_ok {P : Program} {w : World} {H : Hp} {h : Heap} {a : Addr} {cls : Value} {d : Option Addr} {oe : Obj} {vs : Array Value} (e : h.get? a = some oe) (z : Zc cls d oe) (hd : oe.data = .fields vs) : ObjOk P w H h a (ExA cls d a) :=
  ⟨⟨oe, vs, e, z, hd⟩, ⟨oe, e⟩, fun _ _ ⟨o, v, q, r⟩ k => ⟨o, v, k o q, r⟩⟩
section
variable {X : Cx} {pins : List (Addr × Obj)} {σ : L2.St} {H : Hp} {s : Shared}
/-- an object of the heap that was not there at the entry, tracked from now on -/
theorem track {a : Addr} {o : HO} (I : Inv X pins σ H s) (h0 : X.s_0.heap.get? a = none) (na : H a = none) (nL : a ≠ X.env.locals) (nC : ∀ x c, X.env.cells.lookup x = some c → c ≠ a) (nP : ∀ p ∈ X.pn ++ pins, p.1 ≠ a)
    (new : ObjOk X.prog X.w (upd H a o) s.heap a o) : Inv X pins σ (upd H a o) s := by
  have ne0 : ∀ b ob, X.s_0.heap.get? b = some ob → b ≠ a := fun b ob e z => by rw [z, h0] at e; cases e
  refine ⟨I.ok, I.os, I.bare, ⟨I.base.keep, I.base.slot, fun b ob e n hx => ?_, I.base.there, fun b xs e => ?_, fun b ob u e => ?_, fun b ps e => ?_⟩, I.loc, I.cell, ?_, fun x c e => ?_, fun p hp => ?_, fun b u e => ?_, I.len⟩
  · rw [upd_ne (ne0 b ob e)]
    exact I.base.free b ob e n hx
  · have z := I.base.tups b xs e
    rw [upd_ne (ne_of_none z na)]
    exact z
  · have z := I.base.frzs b ob u e
    rw [upd_ne (ne_of_none z na)]
    exact z
  · obtain ⟨m, z⟩ := I.base.tbls b ps e
    exact ⟨m, by rw [upd_ne (ne_of_none z na)]; exact z⟩
  · rw [upd_ne (Ne.symm nL)]
    exact I.free
  · rw [upd_ne (nC x c e)]
    exact I.freeC x c e
  · obtain ⟨e, n, r⟩ := I.pin p hp
    exact ⟨e, by rw [upd_ne (nP p hp)]; exact n, r⟩
  · by_cases hb : b = a
    · subst hb
      rw [upd_same] at e
      cases e
      exact new
    · rw [upd_ne hb] at e
      exact (I.hok b u e).stay (fun _ _ _ q => q) (fun c q => by rw [upd_ne (ne_of_none q na)]; exact q) fun c xs q => by rw [upd_ne (ne_of_none q na)]; exact q
end
/-- the wish of «except c as n: y = n»: slot i is n's, slot j is y's -/
def wKeep (K : PySem.W.Frag) (c : Value) (i j n : Nat) (Wout : WX) (D : Ends) : WX := fun cls d σ H =>
  ∃ b, PySem.W.exmOne K cls c = some b ∧ (b = true → ∀ a, H a = none → σ.length = n → D.nx (((σ.set i (some (.ref a))).set j (some (.ref a))).set i none) (upd H a (ExA cls d a))) ∧ (b = false → Wout cls d σ H)
section
variable {X : Cx} {x n y : Str} {c : Value} {i j : Nat} {body : List Stmt} {np p1 p2 p3 pos pos' : Pos} {tb : WX → TS} {Wout : WX}
theorem ps_try_keep (hs : X.stack = X.env :: X.outer) (hf : X.env.frame = some X.env.locals) (hN : X.N.Nodup) (hi : X.N[i]? = some n) (hln : X.env.kindOf n = some .local) (hj : X.N[j]? = some y) (hly : X.env.kindOf y = some .local) (hex : X.ex = []) (hc : Names X x c) (tk : Takes X Wout)
    (hb : ∀ (W : WX) (pn : List (Addr × Obj)) (xe : Value → Shared → Prop), Takes (X.tr pn xe) W → PassesOwn (model X.prog X.w) X.A X.env xe → PSs (X.tr pn xe) body (tb W)) (hd1 : (n == ("__debug__" : Str)) = false := by decide) (hd2 : (n == ("__classdict__" : Str)) = false := by decide) :
    PS X (.Try body [.ExceptHandler (some (.Name x np)) (some n) [.Assign [.Name y p1] (.Name n p2) p3] pos'] [] [] pos) (fun D σ H => tb (wKeep X.K c i j X.N.length Wout D) D σ H) := by
  refine ⟨fun pins s σ H D I h => ?_⟩
  have ok := I.ok
  have hfr : X.A.frames = some (X.env :: X.outer) := by rw [ok.frames, hs]
  refine wpAny_Try_except ?_
  refine wpAny_mono ((hb (wKeep X.K c i j X.N.length Wout D) (X.pn ++ pins) (fun e t1 => wpAny (model X.prog X.w) X.A (noteFrame e X.env) (fun _ t2 => wpAny (model X.prog X.w) X.A (setFlight e none) (fun _ t3 =>
    wpAny (model X.prog X.w) X.A (handleBy e X.env [.ExceptHandler (some (.Name x np)) (some n) [.Assign [.Name y p1] (.Name n p2) p3] pos']) (SP X pins D) X.xe t3) X.xe t2) X.xe t1) (fun u s' xx => ?_) PassesOwn.looking).run [] s σ H D (I.toTry _) h) (fun fl t1 hsp => ?_) (fun _ _ he => he)
  · obtain ⟨a, B, sI, pins', σ1, H1, cls, d, rfl, J0, nb, up, sky, na, os, ag, b, hb1, hyes, hno⟩ := xx
    have J : Inv X pins σ1 H1 sI := J0.ofTry ok
    have sky' : Sky B (X.env :: X.outer) a (Zc cls d) X.env.locals s'.heap := by rw [← hs]; exact sky
    show wpAny (model X.prog X.w) X.A (noteFrame (.ref a) X.env) _ _ _
    refine Sky.land Zc.steady hfr hf sky' fun h3 fl3 up3 => ?_
    have J3 : Inv X pins σ1 H1 { s' with heap := h3 } := J.landed nb fl3.1 (up.trans up3) os ag
    obtain ⟨oe3, vs3, he3, hz3, hd3⟩ := fl3.there
    have nfr : a ∉ frs (X.env :: X.outer) := fun hm => by
      obtain ⟨_, o', e', hnf⟩ := fl3.2.2.1.mem hm
      rw [he3] at e'
      cases e'
      exact hnf _ hd3
    have nL : a ≠ X.env.locals := fun z => nfr (List.mem_filterMap.mpr ⟨X.env, List.mem_cons_self, by rw [hf, z]⟩)
    have nF : a ∉ X.fs := fun hm => by
      obtain ⟨e1, he1, q1⟩ := List.mem_filterMap.mp hm
      exact nfr (List.mem_filterMap.mpr ⟨e1, List.mem_cons_of_mem _ he1, q1⟩)
    -- the error was not there at the entry, and is no pin
    have Ba : B.get? a = none := fl3.2.1
    have sIa : sI.heap.get? a = none := by
      cases z : sI.heap.get? a with
      | none => rfl
      | some o =>
        have y := nb a o z (by rw [hs]; exact nfr)
        rw [Ba] at y
        cases y
    have s0a : X.s_0.heap.get? a = none := by
      cases z : X.s_0.heap.get? a with
      | none => rfl
      | some o =>
        obtain ⟨o', y⟩ := J.base.there a o z (by rw [hex]; exact fun w => nomatch w)
        rw [sIa] at y
        cases y
    have nPin : ∀ p ∈ X.pn ++ pins, p.1 ≠ a := fun p hp z => by
      have y := (J.pin p hp).1
      rw [z, sIa] at y
      cases y
    have S3 := J3.suite he3 hd3 na nL nF
    refine wpAny_handleBy_cons (codeAny_handlers_test ?_) (by intro q; cases q)
    have LT : PySem.W.Looks (model X.prog X.w) h3 (typeOf (.ref a)) cls := fun A Q E s k q => wpAny_typeOf_ref (k _ _ he3) (by rw [hz3.1]; exact q)
    have LM := PySem.W.exm_one (M := model X.prog X.w) (J3.kIn) LT hb1
    have test : ∀ {Q : Value → Shared → Prop} {E : Value → Shared → Prop}, Q c { s' with heap := h3 } → wpAny (model X.prog X.w) (X.A.mark (some (.ref a))) (eval (.Name x np) X.env) Q E { s' with heap := h3 } := fun {Q E} q => by
      obtain ⟨hg, hdbg, hm | ⟨hm, hv, hnn⟩⟩ := hc
      · exact ld_glob (X := X.suite a ((a, oe3) :: (X.pn ++ pins))) S3 hg hm q hdbg
      · exact ld_blt (X := X.suite a ((a, oe3) :: (X.pn ++ pins))) S3 hg hm hv q hnn hdbg
    refine test (LM.here ?_)
    cases b with
    | true =>
      refine codeAny_handlers_suite_as ?_
      refine HandSPX.lands_againZ fl3 fun h4 fl4 up4 => ?_
      have J4 : Inv X pins σ1 H1 { s' with heap := h4 } := J.landed nb fl4.1 ((up.trans up3).trans up4) os ag
      obtain ⟨oe4, vs4, he4, hz4, hd4⟩ := fl4.there
      have S4 := J4.suite he4 hd4 na nL nF
      refine store_ok (X := X.suite a ((a, oe4) :: (X.pn ++ pins))) (v := .ref a) S4 hN hi (.inl hln) rfl (fun s5 S5 => ?_) (.inr hln)
      have suite : PSs (X.suite a ((a, oe4) :: (X.pn ++ pins))) [.Assign [.Name y p1] (.Name n p2) p3] (tAsg (tVar i) (gName j)) :=
        pss_one (ps_asg (pe_var (i := i) hi (.inl hln) hd1 hd2) (pg_name (i := j) hN hj (.inl hly) (hf := .inr hly)))
      have hlen : i < σ1.length := by
        rw [J.len]
        exact (List.getElem?_eq_some_iff.mp hi).1
      refine wpAny_mono (suite.run [] s5 _ H1 { nx := fun σ' H' => σ' = (σ1.set i (some (.ref a))).set j (some (.ref a)) ∧ H' = H1, rt := fun _ _ => False } S5 ⟨.ref a, by rw [List.getElem?_set_self hlen], rfl, rfl⟩) (fun fl s6 hsp => ?_) (fun _ _ z => False.elim z)
      cases fl with
      | next =>
        obtain ⟨σ6, H6, S6, eσ, eH⟩ := hsp
        subst eσ
        subst eH
        refine gone_ok (X := X.suite a ((a, oe4) :: (X.pn ++ pins))) S6 hN hi hln fun s7 S7 => ?_
        have ha7 : s7.heap.get? a = some oe4 := (S7.pin (a, oe4) (List.mem_append_left _ List.mem_cons_self)).1
        have J7 := S7.unsuite ok
        have nC : ∀ (x : Str) (c : Addr), X.env.cells.lookup x = some c → c ≠ a := fun x c e z => by
          obtain ⟨v, o, ho, hdc⟩ := J7.cell x c e
          rw [z, ha7] at ho
          cases ho
          rw [hd4] at hdc
          cases hdc
        exact ⟨_, _, track J7 s0a na nL nC nPin (exA_ok ha7 hz4 hd4), hyes rfl a na J.len⟩
      | brk => obtain ⟨_, _, _, z⟩ := hsp; exact z.elim
      | cont => obtain ⟨_, _, _, z⟩ := hsp; exact z.elim
      | ret u => obtain ⟨_, _, _, _, _, z⟩ := hsp; exact z.elim
    | false =>
      show wpAny _ X.A (handleBy (.ref a) X.env []) _ _ _
      refine wpAny_handleBy_nil ?_
      obtain ⟨w1, w2, w3, oe, vs, T, oT, ts', he, hz, hdd, h1, hr⟩ := id fl3
      unfold PySem.passOn
      refine wpAny_bind (wpAny_field he hdd h1 ?_)
      rw [if_neg (show ¬ ((Value.ref T == Value.none) = true) from by simp)]
      have fin : wpAny (model X.prog X.w) X.A (setFlight (.ref a) X.env.frame) (fun _ s4 => wpAny (model X.prog X.w) X.A (throw (.ref a) : Sem Flow) (SP X pins D) X.xe s4) X.xe { s' with heap := h3 } := by
        rw [hf]
        refine HandSPX.setFlight_upZ fl3 fun h4 hh4 up4 => wpAny_throw (tk _ _ ?_)
        exact ⟨a, B, sI, pins, σ1, H1, cls, d, rfl, J, nb, (up.trans up3).trans up4, .inr (.inr (by rw [hs]; exact hh4)), na, os, ag, hno rfl⟩
      first
        | exact wpAny_bind (wpAny_pure (wpAny_bind fin))
        | exact wpAny_bind fin
  · cases fl with
    | next =>
      obtain ⟨σ', H', J', q⟩ := hsp
      exact wpAny_execs_nil ⟨σ', H', J'.ofTry ok, q⟩
    | brk =>
      obtain ⟨σ', H', J', q⟩ := hsp
      exact ⟨σ', H', J'.ofTry ok, q⟩
    | cont =>
      obtain ⟨σ', H', J', q⟩ := hsp
      exact ⟨σ', H', J'.ofTry ok, q⟩
    | ret u =>
      obtain ⟨v, σ', H', J', r, q⟩ := hsp
      exact ⟨v, σ', H', J'.ofTry ok, r, q⟩
end
/-! ### isinstance and fields of such an error -/
structure ExcK (K : PySem.W.Frag) (C : Addr) : Prop where
  cl : (PySem.W.clsIn K C).isSome = true
  ga : PySem.W.findIn K (.ref C) "__getattribute__" = some (some (.builtin "BaseException.__getattribute__"))
  gg : PySem.W.findIn K (.ref C) "__getattr__" = some none
  sb : PySem.W.subIn K (.ref C) (.type "BaseException") = some true
  ha : PySem.W.findIn K (.ref C) "__class__" = some (some (.builtin "object.__class__"))
  hn : PySem.W.specialIn K (.builtin "object.__class__") "__get__" = some (some (.builtin "getset_descriptor.__get__"))
  ht : PySem.W.takesIn K (.builtin "object.__class__") = some true
  hm : PySem.W.mroIn K C (.type "object") = some true
/-- isinstance(e, D) -/
def rIsA (K : PySem.W.Frag) : List V → Hp → VK → Prop := fun xs H Q => ∃ (a C d : Addr) (fs : List (Str × V)) (c : V) (cv : Value) (b : Bool), xs = [.ref a, c] ∧ ClsV c cv ∧ ExcK K C ∧ H a = some (ExA (.ref C) (some d) a) ∧ H d = some (.xd fs) ∧ PySem.W.kitOne K (.ref C) cv = some b ∧ Q (.bl b) H
section
variable {X : Cx} {pins : List (Addr × Obj)} {σ : L2.St} {H : Hp} {s : Shared}
theorem exA_at {a C d : Addr} {fs : List (Str × V)} (I : Inv X pins σ H s) (ha : H a = some (ExA (.ref C) (some d) a)) (hd : H d = some (.xd fs)) :
    ∃ (oe od : Obj) (mA : Str → Option Value), PySem.W.InstAt s.heap a oe C (some od) ∧ (∀ name, PySem.W.lookIn name od = some (mA name)) ∧ ∀ f, RelO (fs.lookup f) (mA f) := by
  obtain ⟨⟨oe, vs, ho, hz, hdat⟩, _, _⟩ := I.hok a _ ha
  obtain ⟨mA, hns, hr⟩ := (show ObjOk X.prog X.w H s.heap d (.xd fs) from I.hok d _ hd)
  obtain ⟨od, hod, hl⟩ := lookIn_ns hns
  exact ⟨oe, od, mA, ⟨ho, hz.1, by unfold PySem.W.notCls; rw [hdat] <;> rfl, by rw [hz.2]; exact hod⟩, hl, hr⟩
theorem call_isA : CallR X (.builtin "isinstance") (rIsA X.K) := by
  intro pins s σ H xs us Q I r h
  obtain ⟨a, C, d, fs, c, cv, b, rfl, k, T, ha, hd, e, q⟩ := h
  obtain ⟨u1, u2, rfl, r1, r2⟩ := vals2 r
  cases (show u1 = Value.ref a from r1)
  have e2 := k.eq r2
  subst e2
  obtain ⟨oe, od, mA, J, _, _⟩ := exA_at I ha hd
  exact PySem.W.kia_one (PySem.W.kitx_exc T.cl T.ga T.gg T.sb T.ha T.hn T.ht T.hm) I.kIn J e (fun z => nomatch z) fun t => ⟨.bl b, H, I.tok t, rfl, q⟩
/-- e.f -/
def tXa (K : PySem.W.Frag) (f : Str) (te : TE) : TE := fun σ H Q => te σ H fun x H1 => ∃ (a C d : Addr) (fs : List (Str × V)) (v : V), x = .ref a ∧ H1 a = some (ExA (.ref C) (some d) a) ∧ H1 d = some (.xd fs) ∧ XfC K C ∧ PySem.W.findIn K (.ref C) f = some none ∧ fs.lookup f = some v ∧ Q v H1
theorem pe_xa {e : Expr} {te : TE} {n : Str} {pos : Pos} (he : PE X e te) (hb : attributeBase e n X.env (eval e X.env) = eval e X.env := by rfl) : PE X (.Attribute e n pos) (tXa X.K n te) := by
  refine ⟨fun pins s σ H Q I h => ?_⟩
  refine attr_of hb (thn (he.run pins s σ H _ I h) fun u s1 hh => ?_)
  obtain ⟨x, H1, I1, rx, a, C, d, fs, v, ex, ha, hd, T, hno, l, q⟩ := hh
  subst ex
  obtain rfl : u = Value.ref a := rx
  obtain ⟨oe, od, mA, J, hl, hr⟩ := exA_at I1 ha hd
  obtain ⟨u, hu, ru⟩ := RelO.some_of (v := v) (o := mA n) (by rw [← l]; exact hr n)
  exact HandSPX.exc_get I1.kIn J T.ga T.gg T.exC (PySem.W.findObj_own T.hdC hno rfl (by rw [hl, hu])) (handed_of ru) ⟨v, H1, I1.tok _, ru, q⟩
end
end My
/-! Defs by name, the pen. -/
namespace My
open PySem PySem.Spec PyProof.Rows L2
/-- a def of the module that keeps its promise -/
structure DefAt (P : Program) (w : World) (K : PySem.W.Frag) (mg : Str → Option Value) (base : Heap) (CX : CXT) (k : Nat) (x : Str) (ps : List Str) (sp : Sp) : Prop where
  ex : ∃ f fd, FnOk P w K mg base CX k f fd ps sp ∧ mg x = some (.ref f) ∧ PySem.W.keepIn K (.ref f) = true ∧ L2.Binds K fd ps []
structure DefG (P : Program) (w : World) (K : PySem.W.Frag) (mg : Str → Option Value) (base : Heap) (CX : CXT) (k : Nat) (x : Str) (ps : List Str) (sp : Sp) : Prop where
  ex : ∃ f fd, FnG P w K mg base CX k f fd ps sp ∧ mg x = some (.ref f) ∧ PySem.W.keepIn K (.ref f) = true ∧ L2.Binds K fd ps []
section
variable {X : Cx} {CX : CXT} {k : Nat} {ps : List Str} {sp : Sp} {E : XK} {x : Str} {e : Expr} {es : List Expr} {t : TA} {p pos : Pos}
theorem pe_d (D : DefAt X.prog X.w X.K X.mg X.base CX k x ps sp) (hr : Room k X.A) (hg : Gl X x) (hx : Passes CX X E) (ha : PA X (e :: es) t) (hdb : (x == ("__debug__" : Str)) = false := by decide)
    (hs : starEach (e :: es) X.env = (false, eval e X.env) :: starEach es X.env := by rfl) (hpl : (backTo pos (starEach es X.env)).any (·.1) = false := by rfl) : PE X (.Call (.Name x p) (e :: es) [] pos) (tCall sp [] E t) := by
  obtain ⟨f, fd, F, m, hk, b⟩ := D.ex
  exact pe_call F hr hg m hk b .nil hx ha hdb hs hpl
theorem pe_dG (D : DefG X.prog X.w X.K X.mg X.base CX k x ps sp) (hgd : X.A.guards = some []) (hr : Room k X.A) (hg : Gl X x) (hx : Passes CX X E) (ha : PA X (e :: es) t) (hdb : (x == ("__debug__" : Str)) = false := by decide)
    (hs : starEach (e :: es) X.env = (false, eval e X.env) :: starEach es X.env := by rfl) (hpl : (backTo pos (starEach es X.env)).any (·.1) = false := by rfl) : PE X (.Call (.Name x p) (e :: es) [] pos) (tCall sp [] E t) := by
  obtain ⟨f, fd, F, m, hk, b⟩ := D.ex
  exact pe_callG F hgd hr hg m hk b hx ha hdb hs hpl
end
/-- a class of the module that is made by its __init__, some defaults filled up -/
structure MakeAt (P : Program) (w : World) (K : PySem.W.Frag) (mg : Str → Option Value) (base : Heap) (CX : CXT) (k : Nat) (x : Str) (C : Addr) (ps : List Str) (sp : Sp) (dvs : List V) : Prop where
  ex : ∃ f fd ds, Mk K C f ∧ FnOk P w K mg base CX k f fd ps sp ∧ mg x = some (.ref C) ∧ L2.Binds K fd ps ds ∧ Vals dvs ds
structure MethAt (P : Program) (w : World) (K : PySem.W.Frag) (mg : Str → Option Value) (base : Heap) (CX : CXT) (k : Nat) (C : Addr) (m : Str) (ps : List Str) (sp : Sp) : Prop where
  ex : ∃ f fd, Meth K C m f ∧ FnOk P w K mg base CX k f fd ps sp ∧ L2.Binds K fd ps []
/-- .. called with keywords alone: their names ks, gV puts them in the parameters' order -/
structure MethK (P : Program) (w : World) (K : PySem.W.Frag) (mg : Str → Option Value) (base : Heap) (CX : CXT) (k : Nat) (C : Addr) (m : Str) (ps ks : List Str) (sp : Sp) (gV : List V → List V → List V) : Prop where
  ex : ∃ f fd g, Meth K C m f ∧ FnOk P w K mg base CX k f fd ps sp ∧ KBn K fd ps 1 ks g gV
structure CallAt (P : Program) (w : World) (K : PySem.W.Frag) (mg : Str → Option Value) (base : Heap) (CX : CXT) (k : Nat) (C : Addr) (ps : List Str) (sp : Sp) : Prop where
  ex : ∃ f fd, StX.CallO K C f ∧ FnOk P w K mg base CX k f fd ps sp ∧ L2.Binds K fd ps []
section
variable {X : Cx} {CX : CXT} {k : Nat} {C : Addr} {ps ks : List Str} {sp : Sp} {E : XK} {x m : Str} {e o fe : Expr} {es : List Expr} {kws : List Keyword} {t tk : TA} {ta tf : TE} {p pos apos : Pos} {dvs : List V} {gV : List V → List V → List V}
theorem pe_mk (M : MakeAt X.prog X.w X.K X.mg X.base CX k x C ps sp dvs) (hr : Room (k + 1) X.A) (hg : Gl X x) (hx : Passes CX X E) (ha : PA X (e :: es) t) (hdb : (x == ("__debug__" : Str)) = false := by decide)
    (hs : starEach (e :: es) X.env = (false, eval e X.env) :: starEach es X.env := by rfl) (hpl : (backTo pos (starEach es X.env)).any (·.1) = false := by rfl) : PE X (.Call (.Name x p) (e :: es) [] pos) (tMake C sp dvs E t) := by
  obtain ⟨f, fd, ds, mk, F, hm, b, d⟩ := M.ex
  exact pe_make mk F hr hg hm b d hx ha hdb hs hpl
theorem pe_mt {pl : Sem Bool} (c : Cls X.K C) (M : MethAt X.prog X.w X.K X.mg X.base CX k C m ps sp) (hr : Room k X.A) (hx : Passes CX X E) (he : PE X o ta) (ha : PA X (e :: es) t)
    (hst : starEach (e :: es) X.env = (false, eval e X.env) :: starEach es X.env := by rfl) (hpl : (backTo pos (starEach es X.env)).any (·.1) = false := by rfl)
    (ht : eval (.Call (.Attribute o m apos) (e :: es) [] pos) X.env = (do
      let ov ← eval o X.env
      standAt apos.atName
      let (f, first) ← holding [ov] (getMethod ov m pl)
      callWith pos f first (backTo pos (starEach (e :: es) X.env)) (backToKw pos (keywordEach [] X.env))) := by rfl) :
    PE X (.Call (.Attribute o m apos) (e :: es) [] pos) (tMeth C m sp [] E ta t) := by
  obtain ⟨f, fd, hm, F, b⟩ := M.ex
  exact pe_meth he c hm F hr b .nil hx ha hst hpl ht
theorem pe_mt0 {pl : Sem Bool} (c : Cls X.K C) (M : MethAt X.prog X.w X.K X.mg X.base CX k C m ps sp) (hr : Room k X.A) (hx : Passes CX X E) (he : PE X o ta)
    (ht : eval (.Call (.Attribute o m apos) [] [] pos) X.env = (do
      let ov ← eval o X.env
      standAt apos.atName
      let (f, first) ← holding [ov] (getMethod ov m pl)
      callWith pos f first (backTo pos (starEach [] X.env)) (backToKw pos (keywordEach [] X.env))) := by rfl) :
    PE X (.Call (.Attribute o m apos) [] [] pos) (tMeth C m sp [] E ta tNil) := by
  obtain ⟨f, fd, hm, F, b⟩ := M.ex
  exact pe_meth0 he c hm F hr b .nil hx ht
/-- o.m(k = v, ..) -/
def tMethK (C : Addr) (m : Str) (j : Nat) (sp : Sp) (gV : List V → List V → List V) (E : XK) (ta : TE) (tk : TA) : TE := fun σ H Q => ta σ H fun x H1 => ∃ a dx fs, x = .ref a ∧ H1 a = some (.ins C dx fs) ∧ fs.lookup m = none ∧
  tk σ H1 fun zs H2 => zs.length = j ∧ sp (gV [.ref a] zs) H2 Q E
theorem pe_mtK {pl : Sem Bool} (c : Cls X.K C) (M : MethK X.prog X.w X.K X.mg X.base CX k C m ps ks sp gV) (hr : Room k X.A) (hx : Passes CX X E) (he : PE X o ta) (hkw : PK X kws tk)
    (hall : (backToKw pos (keywordEach kws X.env)).all (·.1.isSome) = true := by rfl) (hks : (backToKw pos (keywordEach kws X.env)).filterMap (·.1) = ks := by rfl)
    (hpl : ((backTo pos (starEach [] X.env)).any (·.1) || (backToKw pos (keywordEach kws X.env)).any (·.1.isNone)) = false := by rfl)
    (ht : eval (.Call (.Attribute o m apos) [] kws pos) X.env = (do
      let ov ← eval o X.env
      standAt apos.atName
      let (f, first) ← holding [ov] (getMethod ov m pl)
      callWith pos f first (backTo pos (starEach [] X.env)) (backToKw pos (keywordEach kws X.env))) := by rfl) :
    PE X (.Call (.Attribute o m apos) [] kws pos) (tMethK C m ks.length sp gV E ta tk) := by
  obtain ⟨f, fd, g, hm, F, b⟩ := M.ex
  refine ⟨fun pins s σ H Q I h => ?_⟩
  refine PySem.W.methodCall_KW (pl := pl) (thn (he.run pins s σ H _ I h) fun u s1 ⟨x, H1, I1, rx, a, dx, fs, ex, ea, l, q⟩ => ?_) ht
  subst ex
  obtain rfl : u = Value.ref a := rx
  refine getmeth_ok I1 ea c hm l ?_
  refine PySem.W.callWith_KW0 (first := [.ref a]) (h₀ := X.base) I.ok.mod.kin hm.kp hall (thn (hkw.run pos pins s1 σ H1 _ I1 q) fun ws s2 ⟨zs, H2, I2, rz, l2, q2⟩ => ⟨I2.kIn, ?_⟩) hpl
  rw [hks]
  exact run_fnN (us := [.ref a]) (vs := [.ref a]) F hr b hx I2 (.cons rfl .nil) rz rfl l2 q2
theorem pe_cl (M : CallAt X.prog X.w X.K X.mg X.base CX k C ps sp) (hr : Room k X.A) (hx : Passes CX X E) (hf : PE X fe tf) (ha : PA X (e :: es) t)
    (ht : eval (.Call fe (e :: es) [] pos) X.env = (do callWith pos (← eval fe X.env) [] (backTo pos (starEach (e :: es) X.env)) (backToKw pos (keywordEach [] X.env))) := by rfl)
    (hs : starEach (e :: es) X.env = (false, eval e X.env) :: starEach es X.env := by rfl) (hpl : (backTo pos (starEach es X.env)).any (·.1) = false := by rfl) : PE X (.Call fe (e :: es) [] pos) (StX.tCallO X C sp E tf t) := by
  obtain ⟨f, fd, c, F, b⟩ := M.ex
  refine StX.pe_callO hf c (fun A outer s H us vs Q E hr e0 r hsp => ?_) hr hx ha ht hs hpl
  have hl : (us ++ []).length = ps.length := by rw [List.append_nil, ← r.length]; exact F.len _ _ _ _ hsp
  have hb := b s us (e0.mod.kin.keeps fun b o e => (e0.bs b o e).1) hl
  rw [List.append_nil] at hb
  exact F.run A outer s H ⟨us, []⟩ us vs Q E hr e0 hb r hsp
end
/-- an own comparison -/
structure CmpAt (P : Program) (w : World) (K : PySem.W.Frag) (mg : Str → Option Value) (base : Heap) (CX : CXT) (k : Nat) (C : Addr) (m : Str) (ps : List Str) (sp : Sp) : Prop where
  ex : ∃ f fd, PySem.W.findIn K (.ref C) m = some (some (.ref f)) ∧ PySem.W.isFn K (.ref f) = true ∧ FnOk P w K mg base CX k f fd ps sp ∧ L2.Binds K fd ps []
def rCmpO (K : PySem.W.Frag) (C : Addr) (sp : Sp) (E : XK) : R2 := fun x y H Q => ∃ a dx fs t, x = .ref a ∧ H a = some (.ins C dx fs) ∧ TyX K H y t ∧ PySem.W.notFirst K C t = true ∧ sp [.ref a, y] H Q E
theorem op_cmpO {X : Cx} {CX : CXT} {k : Nat} {C : Addr} {m : Str} {ps : List Str} {sp : Sp} {E : XK} {op : CmpOp} (M : CmpAt X.prog X.w X.K X.mg X.base CX k C m ps sp) (hr : Room k X.A) (hx : Passes CX X E) (hop : (cmpInfo op).2.1 = m := by rfl)
    (hco : ∀ v u, compareOp op v u = richCompare op v u := by intro _ _; rfl) : OpR X (compareOp op) (rCmpO X.K C sp E) := by
  intro pins s σ H x y v u Q I rx ry h
  obtain ⟨f, fd, hs, hf, F, hb⟩ := M.ex
  obtain ⟨a, dx, fs, t, rfl, ha, ty, hn, hsp⟩ := h
  obtain rfl : v = Value.ref a := rx
  obtain ⟨mA, J, _⟩ := ins_get I.hok ha
  obtain ⟨od, J, _⟩ := J.look
  obtain ⟨m', hF⟩ := I.fr
  obtain ⟨Pz, Z, pz, _⟩ := kit_of I ry ty
  rw [hco]
  refine PySem.W.cmp_K (op := op) (tb := t) hr.units0 hF I.ok.mod.kin J (Z.ty _ _ I.kIn pz) hn (by rw [hop]; exact hs) hf ?_
  have hl := F.len _ _ _ _ hsp
  have r2 : Vals [V.ref a, y] [Value.ref a, u] := .cons rfl (.cons ry .nil)
  refine wpAny_call (codeAny_mono (F.run X.A X.stack s H ⟨[.ref a, u], []⟩ [.ref a, u] [.ref a, y] _ E hr I.env0 (by
    have := hb s [.ref a, u] I.kIn (by simpa using hl)
    simpa using this) r2 hsp) fun r s' hq => ?_)
  cases r with
  | error e => exact hx pins σ H s e s' I hq
  | ok fl =>
    cases fl with
    | ret z =>
      have q := I.after hq
      obtain ⟨zv, H', I', rz, q'⟩ := id q
      cases z with
      | notImplemented => cases zv <;> first | (cases rz; done) | (obtain ⟨_, rz⟩ := rz; cases rz)
      | _ => exact q
    | next => exact False.elim hq
    | brk => exact False.elim hq
    | cont => exact False.elim hq
/-! ### the pen: a list of the cells, an index, what is left of a great cell -/
def PenAt (H : Hp) (pn : Addr) (n : Nat) : Prop := ∃ (cl : Addr) (ns : List Int) (at_ rest : Int), H pn = some (.lst [.ref cl, .int at_, .int rest]) ∧ H cl = some (.lst (ns.map V.int)) ∧ ns.length ≤ 63 ∧ 0 ≤ at_ ∧ at_ ≤ n
/-- all but pn stays -/
def But (pn : Addr) (H H' : Hp) : Prop := ∀ b o, H b = some o → b ≠ pn → H' b = some o
theorem But.refl (pn : Addr) (H : Hp) : But pn H H := fun _ _ h _ => h
theorem But.trans {pn : Addr} {H H1 H2 : Hp} (a : But pn H H1) (b : But pn H1 H2) : But pn H H2 := fun c o h n => b c o (a c o h n) n
theorem But.new {pn p : Addr} {H : Hp} {o : HO} (h : H p = none) : But pn H (upd H p o) := fun b u e _ => by rw [upd_ne (ne_of_none e h)]; exact e
theorem But.put {pn : Addr} {H : Hp} {o : HO} : But pn H (upd H pn o) := fun b u e n => by rw [upd_ne n]; exact e
theorem pen_new {H : Hp} {pn p : Addr} {n : Nat} {o : HO} (h : PenAt H pn n) (hp : H p = none) : PenAt (upd H p o) pn n := by
  obtain ⟨cl, ns, a, r, h1, h2, h3⟩ := h
  exact ⟨cl, ns, a, r, by rw [upd_ne (ne_of_none h1 hp)]; exact h1, by rw [upd_ne (ne_of_none h2 hp)]; exact h2, h3⟩
theorem PenAt.le {H : Hp} {pn : Addr} {n m : Nat} (h : PenAt H pn n) (le : n ≤ m) : PenAt H pn m := by
  obtain ⟨cl, ns, a, r, h1, h2, h3, h4, h5⟩ := h
  exact ⟨cl, ns, a, r, h1, h2, h3, h4, by omega⟩
def spDraw : Sp := fun vs H Q _ => ∃ (pn : Addr) (m : Int) (n : Nat), vs = [.ref pn, .int m] ∧ 0 < m ∧ m.natAbs.log2 < 9000 ∧ PenAt H pn n ∧ n < 100000 ∧
  ∀ (d : Int) (H' : Hp), 0 ≤ d → d < m → PenAt H' pn (n + 1) → But pn H H' → Q (.int d) H'
/-- pick(pen, some): one of some -/
def spPick : Sp := fun vs H Q _ => ∃ (pn l : Addr) (n : Nat) (xs : List V), vs = [.ref pn, .ref l] ∧ H l = some (.lst xs) ∧ l ≠ pn ∧ 0 < xs.length ∧ xs.length ≤ 1000 ∧ PenAt H pn n ∧ n < 100000 ∧
  ∀ (v : V) (H' : Hp), v ∈ xs → PenAt H' pn (n + 1) → But pn H H' → Q v H'
def spPen (K : PySem.W.Frag) : Sp := fun vs H Q _ => ∃ (a : Addr) (ns : List Int), vs = [.ref a] ∧ SqL K H a (ns.map V.int) ∧
  ∀ (pn : Addr) (H' : Hp), H pn = none → PenAt H' pn 0 → Same H H' → Q (.ref pn) H'
/-! ### lists of ints as data -/
theorem dp_ints {K : PySem.W.Frag} {H : Hp} : ∀ ns : List Int, DpAll K H (ns.map V.int) (ns.map PyData.int)
  | [] => .nil
  | n :: ns => .cons (.int n) (dp_ints ns)
theorem lay_ints : ∀ ns : List Int, PyData.canLayAll0 (ns.map PyData.int) = true
  | [] => rfl
  | n :: ns => by
    show (true && PyData.canLayAll0 (ns.map PyData.int)) = true
    rw [lay_ints ns]
    rfl
theorem dep_ints : ∀ ns : List Int, PyData.depthAll (ns.map PyData.int) = 0
  | [] => rfl
  | n :: ns => by
    show max 0 (PyData.depthAll (ns.map PyData.int)) = 0
    rw [dep_ints ns]
    rfl
theorem shaped_ints (ns : List Int) : SeqAt.shaped (.list (ns.map PyData.int)) = true := by
  show (PyData.canLayAll0 (ns.map PyData.int) && decide (PyData.depthAll (ns.map PyData.int) + 1 ≤ 64)) = true
  rw [lay_ints, dep_ints]
  rfl
theorem pow_lt {i : Int} {b : Nat} (h0 : 0 ≤ i) (h : i < 2 ^ b) : i.natAbs < 2 ^ b := by
  have e : ((2 ^ b : Nat) : Int) = (2 : Int) ^ b := by simp
  omega
theorem mix_lt {x a c d e : Int} (x0 : 0 ≤ x) (x1 : x < 2147483648) (a0 : 0 ≤ a) (a1 : a < 100000) (c0 : 0 ≤ c) (c1 : c ≤ 1000) (d0 : 0 ≤ d) (d1 : d ≤ 100000) (e0 : 0 ≤ e) (e1 : e ≤ 100000) : (x * (2 * a + c) + d * a * a + e).natAbs < 2 ^ 64 := by
  have h1 : x * (2 * a + c) ≤ 2147483648 * 201000 := Int.mul_le_mul (by omega) (by omega) (by omega) (by decide)
  have h2 : 0 ≤ x * (2 * a + c) := Int.mul_nonneg x0 (by omega)
  have h3 : d * a ≤ 100000 * 100000 := Int.mul_le_mul d1 (by omega) a0 (by decide)
  have h4 : 0 ≤ d * a := Int.mul_nonneg d0 a0
  have h5 : d * a * a ≤ (100000 * 100000) * 100000 := Int.mul_le_mul h3 (by omega) a0 (by decide)
  have h6 : 0 ≤ d * a * a := Int.mul_nonneg h4 a0
  generalize x * (2 * a + c) = y at *
  generalize d * a * a = z at *
  refine pow_lt (by omega) (by omega)
theorem cut_ints (ns : List Int) (k : Nat) : cutV (ns.map V.int) none (some (k : Int)) = (ns.take k).map V.int := by
  unfold cutV
  rw [HT.sIx_none, HT.sIx_nat, List.drop_zero, Nat.sub_zero, List.map_take, List.length_map]
  by_cases h : k ≤ ns.length
  · rw [Nat.min_eq_left h]
  · rw [Nat.min_eq_right (by omega), List.take_of_length_le (by rw [List.length_map]; exact Nat.le_refl _), List.take_of_length_le (by rw [List.length_map]; omega)]
/-- names that are still the built-in ones -/
structure BI (mg : Str → Option Value) : Prop where
  z_len : mg "len" = none
  z_abs : mg "abs" = none
  z_int : mg "int" = none
  z_bool : mg "bool" = none
  z_list : mg "list" = none
  z_repr : mg "repr" = none
  z_isinstance : mg "isinstance" = none
  z_range : mg "range" = none
end My
/-! Ints beside instances: the int's own slots decline. -/
namespace My
open PySem PySem.Spec PyProof.Rows
def Plain (h : Heap) (l : Addr) : Prop := ∃ (c : Value) (d : Option Addr) (sl : Array (Option Value)), h.get? l = some { cls := c, dict := d, data := .plain, slots := sl }
def Declines (B : Builtin) (a : Int) (t : Tok) (l : Addr) : Prop := Meets (B ⟨[.int a t, .ref l], []⟩) fun _ R s => Plain s.heap l ∧ R (.ok (.ret Value.notImplemented)) s
theorem dec_add (a : Int) (t : Tok) (l : Addr) : Declines Builtin.«int.__add__» a t l :=
  .of_wp fun prog w A R s h => by obtain ⟨hp, g, d, tk, os⟩ := s; obtain ⟨⟨c, dd, sl, hl⟩, h⟩ := h; wp_walk; exact ⟨_, rfl, h⟩
theorem dec_sub (a : Int) (t : Tok) (l : Addr) : Declines Builtin.«int.__sub__» a t l :=
  .of_wp fun prog w A R s h => by obtain ⟨hp, g, d, tk, os⟩ := s; obtain ⟨⟨c, dd, sl, hl⟩, h⟩ := h; wp_walk; exact ⟨_, rfl, h⟩
theorem dec_mul (a : Int) (t : Tok) (l : Addr) : Declines Builtin.«int.__mul__» a t l :=
  .of_wp fun prog w A R s h => by obtain ⟨hp, g, d, tk, os⟩ := s; obtain ⟨⟨c, dd, sl, hl⟩, h⟩ := h; wp_walk; exact ⟨_, rfl, h⟩
theorem dec_floordiv (a : Int) (t : Tok) (l : Addr) : Declines Builtin.«int.__floordiv__» a t l :=
  .of_wp fun prog w A R s h => by obtain ⟨hp, g, d, tk, os⟩ := s; obtain ⟨⟨c, dd, sl, hl⟩, h⟩ := h; wp_walk; exact ⟨_, rfl, h⟩
theorem dec_mod (a : Int) (t : Tok) (l : Addr) : Declines Builtin.«int.__mod__» a t l :=
  .of_wp fun prog w A R s h => by obtain ⟨hp, g, d, tk, os⟩ := s; obtain ⟨⟨c, dd, sl, hl⟩, h⟩ := h; wp_walk; exact ⟨_, rfl, h⟩
theorem dec_lt (a : Int) (t : Tok) (l : Addr) : Declines Builtin.«int.__lt__» a t l :=
  .of_wp fun prog w A R s h => by obtain ⟨hp, g, d, tk, os⟩ := s; obtain ⟨⟨c, dd, sl, hl⟩, h⟩ := h; wp_walk; exact ⟨_, rfl, h⟩
theorem dec_le (a : Int) (t : Tok) (l : Addr) : Declines Builtin.«int.__le__» a t l :=
  .of_wp fun prog w A R s h => by obtain ⟨hp, g, d, tk, os⟩ := s; obtain ⟨⟨c, dd, sl, hl⟩, h⟩ := h; wp_walk; exact ⟨_, rfl, h⟩
theorem dec_gt (a : Int) (t : Tok) (l : Addr) : Declines Builtin.«int.__gt__» a t l :=
  .of_wp fun prog w A R s h => by obtain ⟨hp, g, d, tk, os⟩ := s; obtain ⟨⟨c, dd, sl, hl⟩, h⟩ := h; wp_walk; exact ⟨_, rfl, h⟩
theorem dec_ge (a : Int) (t : Tok) (l : Addr) : Declines Builtin.«int.__ge__» a t l :=
  .of_wp fun prog w A R s h => by obtain ⟨hp, g, d, tk, os⟩ := s; obtain ⟨⟨c, dd, sl, hl⟩, h⟩ := h; wp_walk; exact ⟨_, rfl, h⟩
theorem dec_eq (a : Int) (t : Tok) (l : Addr) : Declines Builtin.«int.__eq__» a t l :=
  .of_wp fun prog w A R s h => by obtain ⟨hp, g, d, tk, os⟩ := s; obtain ⟨⟨c, dd, sl, hl⟩, h⟩ := h; wp_walk; exact ⟨_, rfl, h⟩
end My
/-! Own operators: an instance beside an instance, beside an int, an int beside it, in place, the sign. -/
namespace My
open PySem PySem.Spec PySem.Calls PyProof.Rows L2
section
open PySem.W
variable {prog : Program} {w : World} {A : Around} {E : Value → Shared → Prop} {s : Shared} {K : Frag} {x C L f f0 : Addr} {h₀ : Heap} {m : Str → Option Value} {ox : Obj} {od : Option Obj}
/-- what is known of the int's slot -/
structure IntSlot (K : Frag) (nm : String) (id : String) (B : Builtin) : Prop where
  slot : Slot "int" (PySem.dunder nm) id
  entry : entryFor table id = some B
  args : ∀ a b : Value, argsOk id ⟨[a, b], []⟩
  dec : ∀ a t l, Declines B a t l
theorem int_plain (i : Int) (t : Tok) (s : Shared) : s.TypeIs (.int i t) "int" := by
  first | exact .int | exact trivial | rfl | exact ⟨_, rfl⟩
theorem int_call {i : Int} {t : Tok} {nm id : String} {B : Builtin} {Q : Value → Shared → Prop} (S : IntSlot K nm id B) (hp : Plain s.heap x) (h : Q .notImplemented s) : wpAny (model prog w) A (call (.builtin id) [.int i t, .ref x]) Q E s :=
  call_meets S.slot (int_plain i t s) S.entry (S.args _ _) (S.dec i t x) ⟨hp, h⟩
/-- an int beside an instance: the reflected method -/
theorem binR_K {op : Operator} {i : Int} {t : Tok} {id : String} {B : Builtin} {fo ro : Option Value} {Q : Value → Shared → Prop} (S : IntSlot K op.info.2 id B) (F : Fr h₀ L s.heap m) (X₀ : K.In h₀) (I : InstAt s.heap x ox C od) (hp : Plain s.heap x) (hc : selfFirst K C = true)
    (hs : findIn K (.ref C) (PySem.dunder op.info.2) = some (some (.ref f0))) (hr : findIn K (.ref C) (dunderR op.info.2) = some (some (.ref f))) (hf : isFn K (.ref f) = true)
    (h1 : findIn K (.type "int") (PySem.dunder op.info.2) = some fo) (h2 : findIn K (.type "int") (dunderR op.info.2) = some ro) (hl : ((fo.isSome && !isSeqSlot fo) || (ro.isSome && !isSeqSlot ro)) = true) (hsub : subIn K (.ref C) (.type "int") = some false)
    (h : wpAny (model prog w) A (call (.ref f) [.ref x, .int i t]) (PySem.W.CmpBack Q) E s) : wpAny (model prog w) A (binaryOp op (.int i t) (.ref x)) Q E s := by
  have X := X₀.keeps F.keep
  obtain ⟨cd, rest, hcd, hm⟩ := ksp_first hc
  have two := ksp_try X I hr hf h
  rcases hi : op.info with ⟨sym, nm'⟩
  rw [hi] at hs hr h1 h2 S two
  dsimp only at hs hr h1 h2 S two
  have one : wpAny (model prog w) A (tryMethod (.int i t) (PySem.dunder nm') (.ref x)) (fun r s' => r = none ∧ s' = s) E s := wpAny_tryMethod_declines (int_plain i t s) S.slot (int_call S hp ⟨rfl, rfl, rfl⟩)
  obtain ⟨hh, g, d, tt, os⟩ := s
  have L1 : Looks (model prog w) hh (typeOf (.ref x)) (.ref C) := I.type
  have L2 : Looks (model prog w) hh (typeOf (.int i t)) (.type "int") := Looks.of_pure rfl
  have L3 : Looks (model prog w) hh (fillsNumberSlot (.ref C) nm') true := fills_K X hcd hm hs
  have L4 : Looks (model prog w) hh (fillsNumberSlot (.type "int") nm') true := hl ▸ ksp_fillsT X h1 h2
  have L5 : Looks (model prog w) hh (isSubtype (.ref C) (.type "int")) false := looks_subIn X hsub
  have L7 : Looks (model prog w) hh (numberSlotInPython (.type "int") nm') false := Looks.of_pure rfl
  have hne : (Value.type "int" == Value.ref C) = false := Bool.eq_false_iff.mpr fun q => by cases beq_iff_eq.mp q
  simp only [binaryOp, hi]
  refine wpAny_holding (wpAny_bind ?_)
  unfold binaryOp1
  refine wpAny_bind (L2.at (wpAny_bind (L1.at (wpAny_bind (L4.at ?_)))))
  simp only [hne, Bool.false_eq_true, if_false]
  ksp_lk
  refine wpAny_mono one (fun r s' hr' => ?_) fun _ _ e => e
  obtain ⟨rfl, rfl⟩ := hr'
  ksp_lk
  refine wpAny_mono two (fun r s' hr' => ?_) fun _ _ e => e
  obtain ⟨v, rfl, hq⟩ := hr'
  ksp_lk
  exact hq
/-- an int compared with an instance: the reflected method -/
theorem cmpR_K {op : CmpOp} {i : Int} {t : Tok} {id : String} {B : Builtin} {Q : Value → Shared → Prop} (hu : A.units < cLine) (sl : Slot "int" (cmpInfo op).2.1 id) (en : entryFor table id = some B) (ar : ∀ a b : Value, argsOk id ⟨[a, b], []⟩) (de : ∀ a t l, Declines B a t l)
    (F : Fr h₀ L s.heap m) (X₀ : K.In h₀) (I : InstAt s.heap x ox C od) (hp : Plain s.heap x) (hs : findIn K (.ref C) (cmpInfo op).2.2 = some (some (.ref f))) (hf : isFn K (.ref f) = true) (hsub : subIn K (.ref C) (.type "int") = some false)
    (h : wpAny (model prog w) A (call (.ref f) [.ref x, .int i t]) (PySem.W.CmpBack Q) E s) (h1 : oneThing? op (.int i t) (.ref x) = none) : wpAny (model prog w) A (richCompare op (.int i t) (.ref x)) Q E s := by
  have X := X₀.keeps F.keep
  have two : wpAny (model prog w) A (tryCompare (.ref x) (cmpInfo op).2.2 (.int i t)) (fun r s' => ∃ v, r = some v ∧ Q v s') E s := by
    unfold tryCompare
    refine wpAny_bind (ifBound_K X I hs hf (wpAny_mono h (fun v s' hv => ?_) fun _ _ e => e))
    cases v <;> first | exact hv.elim | exact wpAny_pure ⟨_, rfl, hv⟩
  have one : wpAny (model prog w) A (tryCompare (.int i t) (cmpInfo op).2.1 (.ref x)) (fun r s' => r = none ∧ s' = s) E s :=
    wpAny_tryCompare_declines (int_plain i t s) sl (call_meets sl (int_plain i t s) en (ar _ _) (de i t x) ⟨hp, rfl, rfl, rfl⟩)
  have hne : (Value.type "int" != Value.ref C) = true := by
    have : (Value.type "int" == Value.ref C) = false := Bool.eq_false_iff.mpr fun q => by cases beq_iff_eq.mp q
    simp [bne, this]
  unfold richCompare
  simp only [h1]
  refine wpAny_holding (wpAny_bind (wpAny_cRoomFor hu ?_))
  refine wpAny_bind ((Looks.of_pure (show typeOf (.int i t) = pure (.type "int") from rfl)).here (wpAny_bind (I.type.here ?_)))
  simp only [hne, if_true]
  refine wpAny_bind ((looks_subIn X hsub).here ?_)
  simp only [Bool.false_eq_true, if_false, Bool.not_false, if_true]
  refine wpAny_bind (wpAny_mono one (fun r s' z => ?_) fun _ _ e => e)
  obtain ⟨rfl, rfl⟩ := z
  refine wpAny_bind (wpAny_mono two (fun r s' z => ?_) fun _ _ e => e)
  obtain ⟨v, rfl, hq⟩ := z
  exact wpAny_pure hq
end
/-! ### a method run somewhere below the body -/
structure Und (X : Cx) (n : Nat) (A : Around) : Prop where
  room : Room n A
  fr : A.frames = X.A.frames
theorem Und.here {X : Cx} {n : Nat} (hr : Room n X.A) : Und X n X.A := ⟨hr, rfl⟩
theorem Und.in1 {X : Cx} {n : Nat} {A : Around} (u : Und X (n + 1) A) : Und X n A.in1 := ⟨u.room.in1, u.fr⟩
section
variable {X : Cx} {pins : List (Addr × Obj)} {σ : L2.St} {H : Hp} {s : Shared} {CX : CXT} {k : Nat} {ps : List Str} {sp : Sp} {E : XK} {C : Addr} {m : Str}
theorem run_at {f : Addr} {fd : FuncData} {A : Around} {vs : List V} {us : List Value} {Q : VK} (F : FnOk X.prog X.w X.K X.mg X.base CX k f fd ps sp) (hb : L2.Binds X.K fd ps []) (hx : Passes CX X E) (u : Und X k A) (I : Inv X pins σ H s) (r : Vals vs us) (hsp : sp vs H Q E) :
    wpAny (model X.prog X.w) A (call (.ref f) us) (EP X pins σ Q) X.xe s := by
  have e0 : Env0 X.prog X.w X.K X.mg X.base A X.stack s H := by
    have e := I.env0
    exact ⟨by rw [u.fr]; exact e.frames, e.mod, e.bs, e.bsz, e.funs, e.frf, e.hok, e.bare⟩
  have hl : (us ++ []).length = ps.length := by rw [List.append_nil, ← r.length]; exact F.len _ _ _ _ hsp
  have bd := hb s us I.kIn hl
  rw [List.append_nil] at bd
  refine wpAny_call (codeAny_mono (F.run A X.stack s H ⟨us, []⟩ us vs _ E u.room e0 bd r hsp) fun r s' hq => ?_)
  match r, hq with
  | .error e, hq => exact hx pins σ H s e s' I hq
  | .ok (.ret z), hq => exact I.after hq
  | .ok .next, hq => exact False.elim hq
  | .ok .brk, hq => exact False.elim hq
  | .ok .cont, hq => exact False.elim hq
theorem ep_back {Q : VK} {v : Value} {s' : Shared} (h : EP X pins σ Q v s') : PySem.W.CmpBack (EP X pins σ Q) v s' := by
  cases v with
  | notImplemented =>
    obtain ⟨zv, H', I', rz, q'⟩ := h
    cases zv <;> first | (cases rz; done) | (obtain ⟨_, rz⟩ := rz; cases rz)
  | _ => exact h
theorem ins_plain {a dx : Addr} {fs : List (Str × V)} (I : Inv X pins σ H s) (ha : H a = some (.ins C dx fs)) : ∃ (ox od : Obj), PySem.W.InstAt s.heap a ox C (some od) ∧ Plain s.heap a := by
  obtain ⟨mA, J, _⟩ := ins_get I.hok ha
  have g : Plain s.heap a := ⟨_, _, _, J.1⟩
  obtain ⟨od, J, _⟩ := J.look
  exact ⟨_, od, J, g⟩
/-- a two-place method of C beside an instance of C or an int -/
structure BinF (K : PySem.W.Frag) (C : Addr) (nm : String) : Prop where
  sf : PySem.W.selfFirst K C = true
  rc : ∃ rc, PySem.W.findIn K (.ref C) (dunderR nm) = some rc ∧ (rc = none ∨ ∃ g : Addr, rc = some (.ref g))
  i1 : ∃ fo, PySem.W.findIn K (.type "int") (PySem.dunder nm) = some fo
  i2 : ∃ ro, PySem.W.findIn K (.type "int") (dunderR nm) = some ro
  su : PySem.W.subIn K (.type "int") (.ref C) = some false
def OrInt (H : Hp) (C : Addr) (y : V) : Prop := (∃ b dy gs, y = .ref b ∧ H b = some (.ins C dy gs)) ∨ ∃ j, y = .int j
def rBinO (C : Addr) (sp : Sp) (E : XK) : R2 := fun x y H Q => ∃ a dx fs, x = .ref a ∧ H a = some (.ins C dx fs) ∧ OrInt H C y ∧ sp [x, y] H Q E
theorem op_binO {op : Operator} (M : CmpAt X.prog X.w X.K X.mg X.base CX k C m ps sp) (B : BinF X.K C op.info.2) (hr : Room k X.A) (hx : Passes CX X E) (hm : PySem.dunder op.info.2 = m := by rfl) : OpR X (binaryOp op) (rBinO C sp E) := by
  intro pins s σ H x y v u Q I rx ry h
  obtain ⟨f, fd, hs, hf, F, hb⟩ := M.ex
  obtain ⟨a, dx, fs, rfl, ha, oi, hsp⟩ := h
  obtain rfl : v = Value.ref a := rx
  obtain ⟨ox, od, J, _⟩ := ins_plain I ha
  obtain ⟨m', hF⟩ := I.fr
  subst hm
  have go : wpAny (model X.prog X.w) X.A (call (.ref f) [.ref a, u]) (PySem.W.CmpBack (EP X pins σ Q)) X.xe s := wpAny_mono (run_at (vs := [.ref a, y]) F hb hx (Und.here hr) I (.cons rfl (.cons ry .nil)) hsp) (fun _ _ z => ep_back z) fun _ _ z => z
  rcases oi with ⟨b, dy, gs, rfl, hb'⟩ | ⟨j, rfl⟩
  · obtain rfl : u = Value.ref b := ry
    obtain ⟨oy, od', J', _⟩ := ins_plain I hb'
    exact PySem.W.binop_K hF I.ok.mod.kin J J'.type B.sf hs hf go
  · obtain ⟨t, rfl⟩ := ry
    obtain ⟨rc, r1, r2⟩ := B.rc
    obtain ⟨fo, i1⟩ := B.i1
    obtain ⟨ro, i2⟩ := B.i2
    exact PySem.W.ksp_binT hF I.ok.mod.kin J rfl B.sf hs hf r1 r2 i1 i2 B.su go
/-- an int beside an instance: the reflected method -/
structure RefF (K : PySem.W.Frag) (C : Addr) (nm : String) : Prop where
  sf : PySem.W.selfFirst K C = true
  f0 : ∃ f : Addr, PySem.W.findIn K (.ref C) (PySem.dunder nm) = some (some (.ref f))
  ii : ∃ fo ro, PySem.W.findIn K (.type "int") (PySem.dunder nm) = some fo ∧ PySem.W.findIn K (.type "int") (dunderR nm) = some ro ∧ ((fo.isSome && !isSeqSlot fo) || (ro.isSome && !isSeqSlot ro)) = true
  su : PySem.W.subIn K (.ref C) (.type "int") = some false
def rBinR (C : Addr) (sp : Sp) (E : XK) : R2 := fun x y H Q => ∃ i b dy gs, x = .int i ∧ y = .ref b ∧ H b = some (.ins C dy gs) ∧ sp [y, x] H Q E
theorem op_binR {op : Operator} {id : String} {Bu : Builtin} (M : CmpAt X.prog X.w X.K X.mg X.base CX k C m ps sp) (S : IntSlot X.K op.info.2 id Bu) (B : RefF X.K C op.info.2) (hr : Room k X.A) (hx : Passes CX X E) (hm : dunderR op.info.2 = m := by rfl) : OpR X (binaryOp op) (rBinR C sp E) := by
  intro pins s σ H x y v u Q I rx ry h
  obtain ⟨f, fd, hs, hf, F, hb⟩ := M.ex
  obtain ⟨i, b, dy, gs, rfl, rfl, hb', hsp⟩ := h
  obtain rfl : u = Value.ref b := ry
  obtain ⟨t, rfl⟩ := rx
  obtain ⟨ox, od, J, pl⟩ := ins_plain I hb'
  obtain ⟨m', hF⟩ := I.fr
  subst hm
  obtain ⟨f0, h0⟩ := B.f0
  obtain ⟨fo, ro, i1, i2, i3⟩ := B.ii
  exact binR_K S hF I.ok.mod.kin J pl B.sf h0 hs hf i1 i2 i3 B.su (wpAny_mono (run_at (vs := [.ref b, .int i]) F hb hx (Und.here hr) I (.cons rfl (.cons ⟨t, rfl⟩ .nil)) hsp) (fun _ _ z => ep_back z) fun _ _ z => z)
theorem is_add {K : PySem.W.Frag} : IntSlot K (Operator.info .Add).2 "int.__add__" Builtin.«int.__add__» := ⟨PySem.F.slot_int_add, PySem.F.entry_int_add, PySem.F.args_int_add_2, dec_add⟩
theorem is_sub {K : PySem.W.Frag} : IntSlot K (Operator.info .Sub).2 "int.__sub__" Builtin.«int.__sub__» := ⟨PySem.F.slot_int_sub, PySem.F.entry_int_sub, PySem.F.args_int_sub_2, dec_sub⟩
theorem is_mul {K : PySem.W.Frag} : IntSlot K (Operator.info .Mult).2 "int.__mul__" Builtin.«int.__mul__» := ⟨PySem.F.slot_int_mul, PySem.F.entry_int_mul, PySem.F.args_int_mul_2, dec_mul⟩
/-- an int compared with an instance -/
def rCmpR (C : Addr) (sp : Sp) (E : XK) : R2 := fun x y H Q => ∃ i b dy gs, x = .int i ∧ y = .ref b ∧ H b = some (.ins C dy gs) ∧ sp [y, x] H Q E
theorem op_cmpRv {op : CmpOp} {id : String} {Bu : Builtin} (M : CmpAt X.prog X.w X.K X.mg X.base CX k C m ps sp) (su : PySem.W.subIn X.K (.ref C) (.type "int") = some false) (hr : Room k X.A) (hx : Passes CX X E) (hm : (cmpInfo op).2.2 = m) (hco : ∀ v u, compareOp op v u = richCompare op v u)
    (h1 : ∀ i t b, oneThing? op (.int i t) (.ref b) = none) (sl : Slot "int" (cmpInfo op).2.1 id) (en : entryFor table id = some Bu) (ar : ∀ a b : Value, argsOk id ⟨[a, b], []⟩) (de : ∀ a t l, Declines Bu a t l) : OpR X (compareOp op) (rCmpR C sp E) := by
  intro pins s σ H x y v u Q I rx ry h
  obtain ⟨f, fd, hs, hf, F, hb⟩ := M.ex
  obtain ⟨i, b, dy, gs, rfl, rfl, hb', hsp⟩ := h
  obtain rfl : u = Value.ref b := ry
  obtain ⟨t, rfl⟩ := rx
  obtain ⟨ox, od, J, pl⟩ := ins_plain I hb'
  obtain ⟨m', hF⟩ := I.fr
  subst hm
  rw [hco]
  exact cmpR_K hr.units0 sl en ar de hF I.ok.mod.kin J pl hs hf su (wpAny_mono (run_at (vs := [.ref b, .int i]) F hb hx (Und.here hr) I (.cons rfl (.cons ⟨t, rfl⟩ .nil)) hsp) (fun _ _ z => ep_back z) fun _ _ z => z) (h1 i t b)
theorem op_ltR (M : CmpAt X.prog X.w X.K X.mg X.base CX k C "__gt__" ps sp) (su : PySem.W.subIn X.K (.ref C) (.type "int") = some false) (hr : Room k X.A) (hx : Passes CX X E) : OpR X (compareOp .Lt) (rCmpR C sp E) := op_cmpRv M su hr hx rfl (fun _ _ => rfl) (fun _ _ _ => rfl) PySem.F.slot_int_lt PySem.F.entry_int_lt PySem.F.args_int_lt_2 dec_lt
theorem op_leR (M : CmpAt X.prog X.w X.K X.mg X.base CX k C "__ge__" ps sp) (su : PySem.W.subIn X.K (.ref C) (.type "int") = some false) (hr : Room k X.A) (hx : Passes CX X E) : OpR X (compareOp .LtE) (rCmpR C sp E) := op_cmpRv M su hr hx rfl (fun _ _ => rfl) (fun _ _ _ => rfl) PySem.F.slot_int_le PySem.F.entry_int_le PySem.F.args_int_le_2 dec_le
theorem op_gtR (M : CmpAt X.prog X.w X.K X.mg X.base CX k C "__lt__" ps sp) (su : PySem.W.subIn X.K (.ref C) (.type "int") = some false) (hr : Room k X.A) (hx : Passes CX X E) : OpR X (compareOp .Gt) (rCmpR C sp E) := op_cmpRv M su hr hx rfl (fun _ _ => rfl) (fun _ _ _ => rfl) PySem.F.slot_int_gt PySem.F.entry_int_gt PySem.F.args_int_gt_2 dec_gt
theorem op_geR (M : CmpAt X.prog X.w X.K X.mg X.base CX k C "__le__" ps sp) (su : PySem.W.subIn X.K (.ref C) (.type "int") = some false) (hr : Room k X.A) (hx : Passes CX X E) : OpR X (compareOp .GtE) (rCmpR C sp E) := op_cmpRv M su hr hx rfl (fun _ _ => rfl) (fun _ _ _ => rfl) PySem.F.slot_int_ge PySem.F.entry_int_ge PySem.F.args_int_ge_2 dec_ge
/-- - of an instance -/
def rNegO (C : Addr) (sp : Sp) (E : XK) : V → Hp → VK → Prop := fun x H Q => ∃ a dx fs, x = .ref a ∧ H a = some (.ins C dx fs) ∧ sp [x] H Q E
theorem un_negO (M : CmpAt X.prog X.w X.K X.mg X.base CX k C "__neg__" ps sp) (hr : Room k X.A) (hx : Passes CX X E) : UnR X (unaryOp .USub) (rNegO C sp E) := by
  intro pins s σ H x v Q I rx h
  obtain ⟨f, fd, hs, hf, F, hb⟩ := M.ex
  obtain ⟨a, dx, fs, rfl, ha, hsp⟩ := h
  obtain rfl : v = Value.ref a := rx
  obtain ⟨ox, od, J, _⟩ := ins_plain I ha
  obtain ⟨m', hF⟩ := I.fr
  exact PySem.W.ksp_neg hF I.ok.mod.kin J hs hf (run_at (vs := [.ref a]) F hb hx (Und.here hr) I (.cons rfl .nil) hsp)
/-- str(x) of an instance with its own __str__ -/
def rStrO (C : Addr) (sp : Sp) (E : XK) : List V → Hp → VK → Prop := fun xs H Q => ∃ a dx fs, xs = [.ref a] ∧ H a = some (.ins C dx fs) ∧ sp [.ref a] H (fun v H' => ∃ x, v = .str x ∧ Q v H') E
theorem call_strO (M : CmpAt X.prog X.w X.K X.mg X.base CX k C "__str__" ps sp) (hr : Room (k + 2) X.A) (hx : Passes CX X E) : CallR X (.type "str") (rStrO C sp E) := by
  intro pins s σ H xs us Q I r h
  obtain ⟨f, fd, hs, hf, F, hb⟩ := M.ex
  obtain ⟨a, dx, fs, rfl, ha, hsp⟩ := h
  obtain ⟨u, rfl, r1⟩ := vals1 r
  obtain rfl : u = Value.ref a := r1
  obtain ⟨ox, od, J, _⟩ := ins_plain I ha
  have U : Und X k X.A.in1.in1 := (Und.here hr).in1.in1
  refine PySem.W.kso_call U.room.units0 (I.kIn) J hs hf (wpAny_mono (run_at (vs := [.ref a]) F hb hx U I (.cons rfl .nil) hsp) (fun v s' z => ?_) fun _ _ z => z)
  obtain ⟨z, H', I', rz, x, rfl, q⟩ := z
  obtain ⟨t, rfl⟩ := rz
  exact ⟨.str x, H', I', ⟨t, rfl⟩, q⟩
end
end My
/-! != by an own ==. -/
namespace My
open PySem PySem.Spec PySem.Calls PyProof.Rows L2
theorem slot_one : Slot "object" "__ne__" "object.__ne__" :=
  .of (owner := "object") (n := "__ne__") (by rw [typeLookup_type, builtinLookup_eq_fast]; kernel_rfl) (by decide +kernel) (by decide +kernel) (by decide +kernel) (.inl (by decide +kernel)) (by rw [isSubtype_type]; kernel_rfl)
section
open PySem.W
variable {prog : Program} {w : World} {A : Around} {E : Value → Shared → Prop} {s : Shared} {K : Frag} {x C L f : Addr} {h₀ : Heap} {m : Str → Option Value} {ox : Obj} {od : Option Obj} {b tb : Value}
/-- what an own == hands back, turned about -/
def NotBack (Q : Value → Shared → Prop) (v : Value) (s' : Shared) : Prop := ∃ c, v = .bool c ∧ Q (.bool (!c)) s'
theorem one_call {Q : Value → Shared → Prop} (hu : A.in1.units < cLine) (X : K.In s.heap) (I : InstAt s.heap x ox C od) (hm : mroIn K C (.type "object") = some true) (hs : findIn K (.ref C) "__eq__" = some (some (.ref f))) (hf : isFn K (.ref f) = true)
    (h : wpAny (model prog w) A.in1 (call (.ref f) [.ref x, b]) (NotBack Q) E s) : wpAny (model prog w) A (call (.builtin "object.__ne__") [.ref x, b]) Q E s := by
  refine wpAny_call (codeAny_call_builtin slot_one.plain PySem.F.cmpEntry_ne (check_slot (i := "object.__ne__") (owner := "object") (n := "__ne__") PySem.F.cmpKind_ne PySem.F.cmpSplit_ne (I.type.andThen (looks_mroIn X hm)) (PySem.F.cmpArgs_ne _ _) ?_))
  unfold Builtin.«object.__ne__»
  refine wpAny_bind (m := slotArgs "__ne__" 1 _) (wpAny_pure ?_)
  refine wpAny_bind (m := cRoomFor _ _) (wpAny_cRoomFor hu ?_)
  refine wpAny_bind (m := callSpecialIfBound? (.ref x) (Str.ofString "__eq__") _) (ifBound_K X I hs hf (wpAny_mono h (fun r s' hq => ?_) fun _ _ y => y))
  obtain ⟨c, rfl, hq⟩ := hq
  refine wpAny_bind (m := truthy (.bool c)) (wpAny_truthy_bool ?_)
  exact wpAny_pure hq
theorem ne_K {Q : Value → Shared → Prop} (hu : A.units < cLine) (hu1 : A.in1.units < cLine) (F : Fr h₀ L s.heap m) (X₀ : K.In h₀) (I : InstAt s.heap x ox C od) (hb : Looks (model prog w) s.heap (typeOf b) tb) (hn : notFirst K C tb = true)
    (hm : mroIn K C (.type "object") = some true) (h1 : findIn K (.ref C) "__ne__" = some (some (.builtin "object.__ne__"))) (hs : findIn K (.ref C) "__eq__" = some (some (.ref f))) (hf : isFn K (.ref f) = true)
    (h : wpAny (model prog w) A.in1 (call (.ref f) [.ref x, b]) (NotBack Q) E s) : wpAny (model prog w) A (richCompare .NotEq (.ref x) b) Q E s := by
  have X := X₀.keeps F.keep
  have one : wpAny (model prog w) A (tryCompare (.ref x) "__ne__" b) (fun r s' => ∃ v, r = some v ∧ Q v s') E s := by
    unfold tryCompare
    refine wpAny_bind ?_
    simp only [callSpecialIfBound?, bindSpecialIfBound?]
    refine wpAny_holding (wpAny_bind (wpAny_bind (wpAny_bind (I.type.here ((looks_findIn X h1).here ?_)))))
    refine wpAny_bind (wpAny_askSetting (wpAny_ite ?_))
    have fin : wpAny (model prog w) A (call (.builtin "object.__ne__") ([.ref x] ++ [b]) >>= fun v => pure (some v)) (fun r s' => wpAny (model prog w) A (match r with | some .notImplemented | none => pure none | some v => pure (some v)) (fun r s' => ∃ v, r = some v ∧ Q v s') E s') E s := by
      refine wpAny_bind (one_call hu1 X I hm hs hf (wpAny_mono h (fun v s' z => ?_) fun _ _ z => z))
      obtain ⟨c, rfl, hq⟩ := z
      exact ⟨c, rfl, wpAny_pure (wpAny_pure ⟨_, rfl, hq⟩)⟩
    split
    · exact wpAny_bind ((Looks.of_pure (slot_one.bind (.ref x))).here (wpAny_pure (by exact fin)))
    · exact wpAny_tryCatch (wpAny_bind ((Looks.of_pure (slot_one.bind (.ref x))).here (wpAny_pure (by exact fin))))
  unfold richCompare
  simp only [oneThing_ref]
  refine wpAny_holding (wpAny_bind (wpAny_cRoomFor hu ?_))
  refine wpAny_bind (I.type.here (wpAny_bind (hb.here ?_)))
  split
  · rename_i q
    have e : subIn K tb (.ref C) = some false := by
      rcases Bool.or_eq_true_iff.mp hn with e | e
      · rw [beq_iff_eq.mp e] at q; simp at q
      · exact beq_iff_eq.mp e
    refine wpAny_bind ((looks_subIn X e).here ?_)
    simp only [Bool.false_eq_true, if_false]
    refine wpAny_bind (wpAny_mono one (fun r s' z => ?_) fun _ _ e => e)
    obtain ⟨v, rfl, hq⟩ := z
    exact wpAny_pure hq
  · refine wpAny_bind (wpAny_pure ?_)
    simp only [Bool.false_eq_true, if_false]
    refine wpAny_bind (wpAny_mono one (fun r s' z => ?_) fun _ _ e => e)
    obtain ⟨v, rfl, hq⟩ := z
    exact wpAny_pure hq
end
section
variable {X : Cx} {CX : CXT} {k : Nat} {ps : List Str} {sp : Sp} {E : XK} {C : Addr}
def rNeO (K : PySem.W.Frag) (C : Addr) (sp : Sp) (E : XK) : R2 := fun x y H Q => ∃ a dx fs t, x = .ref a ∧ H a = some (.ins C dx fs) ∧ TyX K H y t ∧ PySem.W.notFirst K C t = true ∧ sp [.ref a, y] H (fun v H' => ∃ b, v = .bl b ∧ Q (.bl (!b)) H') E
theorem op_neO (M : CmpAt X.prog X.w X.K X.mg X.base CX k C "__eq__" ps sp) (hm : PySem.W.mroIn X.K C (.type "object") = some true) (h1 : PySem.W.findIn X.K (.ref C) "__ne__" = some (some (.builtin "object.__ne__"))) (hr : Room (k + 1) X.A) (hx : Passes CX X E) : OpR X (compareOp .NotEq) (rNeO X.K C sp E) := by
  intro pins s σ H x y v u Q I rx ry h
  obtain ⟨f, fd, hs, hf, F, hb⟩ := M.ex
  obtain ⟨a, dx, fs, t, rfl, ha, ty, hn, hsp⟩ := h
  obtain rfl : v = Value.ref a := rx
  obtain ⟨ox, od, J, _⟩ := ins_plain I ha
  obtain ⟨m', hF⟩ := I.fr
  obtain ⟨Pz, Z, pz, _⟩ := kit_of I ry ty
  have U : Und X k X.A.in1 := (Und.here hr).in1
  refine ne_K hr.units0 U.room.units0 hF I.ok.mod.kin J (Z.ty _ _ I.kIn pz) hn hm h1 hs hf (wpAny_mono (run_at (vs := [.ref a, y]) F hb hx U I (.cons rfl (.cons ry .nil)) hsp) (fun v s' z => ?_) fun _ _ z => z)
  obtain ⟨z, H', I', rz, b, rfl, q⟩ := z
  obtain rfl : v = Value.bool b := rz
  exact ⟨b, rfl, .bl (!b), H', I', rfl, q⟩
end
end My
/-! The end of a law whose def shows containers: a def that keeps its promise where nothing is being shown. -/
namespace My
open PySem PySem.Spec PyProof.Rows L2
/-- the heap h at the law's start as the walk sees it: the script's list at a, the tables of code objects -/
structure Begin (P : Program) (w : World) (K : PySem.W.Frag) (cs : List (Addr × Addr)) (a : Addr) (ns : List Int) (H : Hp) (h : Heap) : Prop where
  tbl : ∀ p ∈ cs, H p.2 = some (.tbl #[])
  kind : ∀ b, H b = none ∨ b ∈ cs.map (·.2) ∨ ∃ o xs, H b = some (.frz o (.lst xs))
  seq : SqL K H a (ns.map V.int)
  ok : HOk P w H h
  only : ∀ b, H b ≠ none → b = a ∨ b ∈ cs.map (·.2)
  out : H a ≠ none → K.lookup a = none
/-- what is known of a table and its code object -/
structure TabF (K : PySem.W.Frag) (h : Heap) (p : Addr × Addr) : Prop where
  get : h.get? p.2 = some { cls := .none, data := .fields #[] }
  out : K.lookup p.2 = none
  hd : PySem.W.CodeHd h p.1 p.2
def Goal (l : Program) (w : World) (fa a : Addr) (s₁ : Shared) : Prop := codeAny (model l w) callerA (.call (.ref fa) ⟨[.ref a], []⟩) (fun r s' => r = .ok (.ret (.bool true)) ∧ OldK s₁.heap s'.heap ∧ s'.os = s₁.os ∧ AllBare s'.gens) s₁
theorem tab_get {K : PySem.W.Frag} {h : Heap} {cs : List (Addr × Addr)} (t : ∀ p ∈ cs, TabF K h p) {b : Addr} (hb : b ∈ cs.map (·.2)) : h.get? b = some { cls := .none, data := .fields #[] } := by
  obtain ⟨p, hp, rfl⟩ := List.mem_map.mp hb
  exact (t p hp).get
section
variable {P : Program} {w : World} {K : PySem.W.Frag} {mg mb : Str → Option Value} {k : Nat} {fa a : Addr} {cs : List (Addr × Addr)} {fd : FuncData} {x : Str} {sp : Sp} {s₁ : Shared} {vs : List Value} {ns : List Int}
theorem from_begin {H : Hp} (B : Begin P w K cs a ns H s₁.heap) (hK : K.In s₁.heap) (gN : s₁.heap.Ns mainGlobals mg) (bN : s₁.heap.Ns builtinsNs mb) (bB : ∀ x : Str, x ≠ "__name__" → mb x = bootBuiltins x) (lim : s₁.heap.NoLimit) (gens : s₁.gens = #[])
    (ts : ∀ p ∈ cs, TabF K s₁.heap p) (mB : ∃ (bm : Addr) (ob : Obj), mg "__builtins__" = some (.ref bm) ∧ bm ≠ builtinsNs ∧ s₁.heap.get? bm = some ob ∧ ob.cls = .type "module" ∧ ob.dict = some builtinsNs ∧ ob.data = .plain)
    (la : s₁.heap.get? a = some { cls := .type "list", data := .seq vs.toArray }) (hr : Room k callerA)
    (F : ∀ base : Heap, K.In base → base.Ns mainGlobals mg → (∀ p ∈ cs, LamX.TabB base mg p.1 p.2) → FnG P w K mg base CX0 k fa fd [x] sp) (bd : ∀ (s : Shared) (u : Value), BindsTo s fd ⟨[u], []⟩ [(x, u)])
    (go : sp [.ref a] H (fun v _ => v = .bl true) fun _ _ _ => False) : Goal P w fa a s₁ := by
  have away : ∀ {b : Addr} {o : Obj}, s₁.heap.get? b = some o → (∀ ys n, o.data ≠ .seq ys n) → o.data ≠ .fields #[] → H b = none := fun {b o} e n1 n2 => by
    by_cases q : H b = none
    · exact q
    · exfalso
      rcases B.only b q with rfl | hb
      · rw [la] at e
        injection e with e
        subst e
        exact n1 _ _ rfl
      · rw [tab_get ts hb] at e
        injection e with e
        subst e
        exact n2 rfl
  have seen : ∀ {b : Addr} {o : Obj}, s₁.heap.get? b = some o → H b = none → (hidT s₁.heap H).get? b = some o := fun e n => hidT_get e n
  have nsOf : ∀ {b : Addr} {m : Str → Option Value}, s₁.heap.Ns b m → (hidT s₁.heap H).Ns b m := fun {b m} ⟨o, es, ep, e, d, r⟩ =>
    ⟨o, es, ep, seen e (away e (fun ys n z => by rw [d] at z; cases z) (fun z => by rw [d] at z; cases z)), d, r⟩
  have inK : K.In (hidT s₁.heap H) := fun b o e => by
    refine seen (hK b o e) ?_
    by_cases q : H b = none
    · exact q
    · exfalso
      rcases B.only b q with rfl | hb
      · rw [B.out q] at e
        cases e
      · obtain ⟨p, hp, rfl⟩ := List.mem_map.mp hb
        rw [(ts p hp).out] at e
        cases e
  have modK : L2.Mod K mg (hidT s₁.heap H) := ⟨inK, nsOf gN, ⟨mb, nsOf bN, bB⟩, let ⟨mc, h1, h2⟩ := lim; ⟨mc, nsOf h1, h2⟩⟩
  have tabs : ∀ p ∈ cs, LamX.TabB (hidT s₁.heap H) mg p.1 p.2 := fun p hp => by
    have tp := ts p hp
    refine ⟨?_, ?_, fun z => ?_⟩
    · obtain ⟨o, us, file, tf, flags, tg, inF, text, tt, e1, r1, r2, r3, rs⟩ := tp.hd
      exact ⟨o, us, file, tf, flags, tg, inF, text, tt, seen e1 (away e1 (fun ys n z => by rw [r2] at z; cases z) (fun z => by rw [r2] at z; cases z; simp at r3)), r1, r2, r3, rs⟩
    · obtain ⟨bm, ob, m1, m2, m3, m4, m5, m6⟩ := mB
      refine ⟨bm, ob, m1, m2, fun z => ?_, fun z => ?_, seen m3 (away m3 (fun ys n z => by rw [m6] at z; cases z) (fun z => by rw [m6] at z; cases z)), m4, m5, m6⟩
      · obtain ⟨o, es, ep, e, hd, _⟩ := gN
        rw [z, e] at m3
        cases m3
        rw [hd] at m6
        cases m6
      · rw [z, tp.get] at m3
        cases m3
        cases m6
    · obtain ⟨o, es, ep, e, hd, _⟩ := gN
      rw [z, tp.get] at e
      cases e
      cases hd
  have env0 : Env0 P w K mg (hidT s₁.heap H) callerA [] s₁ H := ⟨rfl, modK, fun b o e => of_hidT e, Nat.le_of_eq (hidT_size _ _), trivial, fun b hb => absurd (show b ∈ ([] : List Addr) from hb) (by simp), B.ok, .of_eq gens⟩
  unfold Goal
  refine codeAny_mono ((F _ inK (nsOf gN) tabs).run callerA [] s₁ H ⟨[.ref a], []⟩ [.ref a] [.ref a] _ _ rfl hr env0 (bd s₁ (.ref a)) (.cons rfl .nil) go) fun r s' done => ?_
  match r, done with
  | .error e, z => exact False.elim z
  | .ok .next, z => exact False.elim z
  | .ok .brk, z => exact False.elim z
  | .ok .cont, z => exact False.elim z
  | .ok (.ret u), ⟨v, H', os, bare, un, ok', r', q⟩ =>
    have q2 : v = .bl true := q
    subst q2
    have q3 : u = Value.bool true := r'
    subst q3
    have stays : ∀ b o, b ∉ cs.map (·.2) → s₁.heap.get? b = some o → s'.heap.get? b = some o := fun b o nb e => by
      rcases B.kind b with z | z | ⟨ob, xs, z⟩
      · exact un.keep b o e z (by intro z; exact absurd (show b ∈ ([] : List Addr) from z) (by simp)) (by simp)
      · exact absurd z nb
      · obtain ⟨e1, _⟩ := B.ok b _ z
        obtain ⟨e2, _⟩ := ok' b _ (un.frzs b ob _ z)
        rw [e] at e1
        cases e1
        exact e2
    have more : ∀ p ∈ cs, ∃ ys : Array Value, s'.heap.get? p.2 = some { cls := .none, data := .fields ys } := fun p hp => by
      obtain ⟨ys, z⟩ := un.tbls p.2 #[] (B.tbl p hp)
      exact ⟨_, ok' p.2 _ z⟩
    refine ⟨rfl, ⟨fun b o e => ?_, fun b o e => ?_⟩, os, bare⟩
    · by_cases hb : b ∈ cs.map (·.2)
      · obtain ⟨p, hp, rfl⟩ := List.mem_map.mp hb
        obtain ⟨ys, hm⟩ := more p hp
        rw [(ts p hp).get] at e
        cases e
        exact .inr (.inl ⟨((ts p hp).hd.tab (ts p hp).get).isCodeTable, rfl, #[], ys, rfl, by rw [Array.empty_append]; exact hm⟩)
      · exact .inl (stays b o hb e)
    · by_cases hb : b ∈ cs.map (·.2)
      · obtain ⟨p, hp, rfl⟩ := List.mem_map.mp hb
        obtain ⟨ys, hm⟩ := more p hp
        exact ⟨_, hm⟩
      · exact ⟨o, stays b o hb e⟩
/-- such a beginning is to be had -/
theorem begins (hK : K.In s₁.heap) (ts : ∀ p ∈ cs, TabF K s₁.heap p) (la : s₁.heap.get? a = some { cls := .type "list", data := .seq vs.toArray }) (hi : IntsAre vs ns) (hl : ns.length ≤ sizeLine) : ∃ H, Begin P w K cs a ns H s₁.heap := by
  have nt : a ∉ cs.map (·.2) := fun z => by
    have q := tab_get ts z
    rw [la] at q
    injection q with q
    injection q with _ _ q _
    cases q
  have rv := vals_ints hi
  let O : Option HO := if (K.lookup a).isSome = true then none else some (.frz { cls := .type "list", data := .seq vs.toArray } (.lst (ns.map V.int)))
  have atT : ∀ b, b ∈ cs.map (·.2) → (if b ∈ cs.map (·.2) then some (HO.tbl #[]) else if b = a then O else none) = some (HO.tbl #[]) := fun b h => if_pos h
  have atA : (if a ∈ cs.map (·.2) then some (HO.tbl #[]) else if a = a then O else none) = O := (if_neg nt).trans (if_pos rfl)
  have atN : ∀ b, b ∉ cs.map (·.2) → b ≠ a → (if b ∈ cs.map (·.2) then some (HO.tbl #[]) else if b = a then O else none) = none := fun b h1 h2 => (if_neg h1).trans (if_neg h2)
  refine ⟨fun b => if b ∈ cs.map (·.2) then some (.tbl #[]) else if b = a then O else none, fun p hp => atT _ (List.mem_map.mpr ⟨p, hp, rfl⟩), fun b => ?_, ?_, fun b u z => ?_, fun b z => ?_, fun z => ?_⟩
  · by_cases h1 : b ∈ cs.map (·.2)
    · exact .inr (.inl h1)
    · by_cases h2 : b = a
      · subst h2
        by_cases h3 : (K.lookup b).isSome = true
        · exact .inl (atA.trans (if_pos h3))
        · exact .inr (.inr ⟨_, _, atA.trans (if_neg h3)⟩)
      · exact .inl (atN b h1 h2)
  · cases h3 : K.lookup a with
    | none =>
      refine .inl (.inr ⟨_, atA.trans (if_neg ?_)⟩)
      rw [h3]
      exact Bool.noConfusion
    | some o =>
      have e := hK a o h3
      rw [la] at e
      cases e
      exact .inr ⟨_, vs.toArray, _, h3, rfl, rfl, rfl, by rw [List.size_toArray, hi.length]; exact hl, by simpa using rv⟩
  · by_cases h1 : b ∈ cs.map (·.2)
    · have z' := (atT b h1).symm.trans z
      cases z'
      exact tab_get ts h1
    · by_cases h2 : b = a
      · subst h2
        have z' := atA.symm.trans z
        by_cases h3 : (K.lookup b).isSome = true
        · have z2 := (if_pos h3).symm.trans z'
          cases z2
        · have z2 := (if_neg h3).symm.trans z'
          cases z2
          exact ⟨la, by rw [List.length_map]; exact hl, vs, _, rv, la⟩
      · have z' := (atN b h1 h2).symm.trans z
        cases z'
  · by_cases h1 : b ∈ cs.map (·.2)
    · exact .inr h1
    · by_cases h2 : b = a
      · exact .inl h2
      · exact absurd (atN b h1 h2) z
  · cases h3 : K.lookup a with
    | none => rfl
    | some o => exact absurd (atA.trans (if_pos (by rw [h3]; rfl))) z
end
/-- what is known of the law's promise at the head's heap h; TF: what the top says of the tables -/
def LawG (l : PySem.W.OpenLaw) (w : World) (K : PySem.W.Frag) (k n : Nat) (x : Str) (mg : Str → Option Value) (fa : Addr) (h : Heap) : Prop :=
  ∃ (fd : FuncData) (cs : List (Addr × Addr)) (sp : Sp), (∀ p ∈ cs, TabF K h p) ∧ (∀ (s : Shared) (u : Value), BindsTo s fd ⟨[u], []⟩ [(x, u)]) ∧
    (∀ (H : Hp) (a : Addr) (ns : List Int), ns.length ≤ n → (∀ z ∈ ns, Builtin.Int.intBits z ≤ 1048576) → (∀ p ∈ cs, H p.2 = some (.tbl #[])) → SqL K H a (ns.map V.int) → sp [.ref a] H (fun v _ => v = .bl true) fun _ _ _ => False) ∧
    ∀ base : Heap, K.In base → base.Ns mainGlobals mg → (∀ p ∈ cs, LamX.TabB base mg p.1 p.2) → FnG l.prog w K mg base CX0 k fa fd [x] sp
theorem walk_G {l : PySem.W.OpenLaw} {n k : Nat} {q : Program} {loose : List Str} {XP : (Str → Option Value) → Heap → Prop} {YP : World → Heap → Prop} {d : DefRec} {K : Params → PySem.W.Frag} {x : Str}
    (hn : l.most = some n) (hn2 : n ≤ sizeLine) (hdf : d.params.defaults = []) (hr : Room k callerA) (hY : ∀ (w : World) (h : Heap), YP w h → (K w.params).In h)
    (F : ∀ (w : World) (mg : Str → Option Value) (fa : Addr) (h : Heap), YP w h → (K w.params).In h → h.Ns mainGlobals mg → mg d.name = some (.ref fa) →
      (∀ (y : Str) (c T : Addr), ((recsOf q).any fun e => e.name == y) = true → PySem.W.tabIn (K w.params) y = some (c, T) → (K w.params).lookup T = none → TabF (K w.params) h (c, T)) → LawG l w (K w.params) k n x mg fa h) :
    PySem.W.WalkO q loose XP YP l.row.toRowW d [] (fun f vs => PySem.call f vs) := by
  refine Att.attach_callB hn hdf fun w s₀ s₁ mg mb fa o pm cd doc a vs ns G Y ho hd hcd hmg hobj hints hlen hbits hg => ?_
  have KX := hY w _ Y
  obtain ⟨fd, cs, sp, ts, hb, hsp, hF⟩ := F w mg fa _ Y KX G.T.g hmg fun y c T hrec hT hN => by
    obtain ⟨e, he⟩ := Option.isSome_iff_exists.mp (show ((recsOf q).find? fun e => e.name == y).isSome = true by rw [List.find?_isSome]; obtain ⟨e, h1, h2⟩ := List.any_eq_true.mp hrec; exact ⟨e, h1, h2⟩)
    obtain ⟨h1, h2⟩ := PySem.W.tab_of G.T KX he hT
    exact ⟨h2, hN, h1⟩
  obtain ⟨H, B⟩ := begins (P := l.prog) (w := w) KX ts hobj hints (Nat.le_trans hlen hn2)
  exact from_begin B KX G.T.g G.T.b G.T.builtins G.T.nolimit hg ts G.T.bmain hobj hr hF hb (hsp H a ns hlen hbits B.tbl B.seq)
end My
/-! What the top has written, by name. -/
namespace My
open PySem PySem.Spec PyProof.Rows L2
/-- the module has the def -/
structure Has (K : PySem.W.Frag) (mg : Str → Option Value) (x : Str) (st : Stmt) : Prop where
  ex : ∃ f fd, mg x = some (.ref f) ∧ Fun K x x st f fd
/-- a def that makes functions, its code object at c -/
structure HasC (K : PySem.W.Frag) (mg : Str → Option Value) (x : Str) (st : Stmt) (c : Addr) : Prop where
  ex : ∃ (f : Addr) (oc : Value) (od : Option Addr) (kV doc pm : Value) (an : Option Addr) (ct : Value) (osl : Array (Option Value)), mg x = some (.ref f) ∧
    K.lookup f = some ⟨oc, od, .func (PySem.W.fnOf x x (defArgs st) (defBody st) (defScope st) .none kV doc pm an (.ref c) ct), osl⟩ ∧ PySem.W.codeIn K (.ref c) x = true ∧ PySem.W.keepIn K (.ref f) = true
/-- the class has the method -/
structure HasM (K : PySem.W.Frag) (C : Addr) (m qual : Str) (st : Stmt) : Prop where
  ex : ∃ f fd, PySem.W.findIn K (.ref C) m = some (some (.ref f)) ∧ PySem.W.isFn K (.ref f) = true ∧ Fun K m qual st f fd
/-- the class has the method, with defaults -/
structure HasD (K : PySem.W.Frag) (C : Addr) (m qual : Str) (st : Stmt) (dvs : List V) (kws : List (Str × V)) : Prop where
  ex : ∃ f fd, PySem.W.findIn K (.ref C) m = some (some (.ref f)) ∧ PySem.W.isFn K (.ref f) = true ∧ FunD K m qual (defArgs st) (defBody st) (defScope st) dvs kws f fd
section
variable {P : Program} {w : World} {K : PySem.W.Frag} {mg : Str → Option Value} {base : Heap} {CX : CXT} {k : Nat} {x m qual : Str} {st : Stmt} {ps ks : List Str} {sp : Sp} {C c : Addr}
def BindW (x qual : Str) (st : Stmt) (ps : List Str) : Prop := ∀ (kV doc pm : Value) (an : Option Addr) (cdv ct : Value) (us : List Value), us.length = ps.length → bindArgs (PySem.W.fnOf x qual (defArgs st) (defBody st) (defScope st) .none kV doc pm an cdv ct) ⟨us, []⟩ = pure (ps.zip us)
theorem def_at (A : Has K mg x st) (ok : ∀ f fd, Fun K x x st f fd → FnOk P w K mg base CX k f fd ps sp) (b : BindW x x st ps) : DefAt P w K mg base CX k x ps sp := by
  obtain ⟨f, fd, h1, F⟩ := A.ex
  exact ⟨f, fd, ok f fd F, h1, F.kp, F.binds b⟩
theorem def_atG (A : Has K mg x st) (ok : ∀ f fd, Fun K x x st f fd → FnG P w K mg base CX k f fd ps sp) (b : BindW x x st ps) : DefG P w K mg base CX k x ps sp := by
  obtain ⟨f, fd, h1, F⟩ := A.ex
  exact ⟨f, fd, ok f fd F, h1, F.kp, F.binds b⟩
theorem meth_at (A : HasM K C m qual st) (ok : ∀ f fd, Fun K m qual st f fd → FnOk P w K mg base CX k f fd ps sp) (b : BindW m qual st ps) : MethAt P w K mg base CX k C m ps sp := by
  obtain ⟨f, fd, h1, h2, F⟩ := A.ex
  exact ⟨f, fd, ⟨h1, h2, F.kp⟩, ok f fd F, F.binds b⟩
theorem call_at (A : HasM K C "__call__" qual st) (ok : ∀ f fd, Fun K "__call__" qual st f fd → FnOk P w K mg base CX k f fd ps sp) (b : BindW "__call__" qual st ps) : CallAt P w K mg base CX k C ps sp := by
  obtain ⟨f, fd, h1, h2, F⟩ := A.ex
  obtain ⟨oc, od, kV, doc, pm, an, cdv, ct, osl, e, lk, _⟩ := F.ex
  refine ⟨f, fd, ⟨h1, h2, ?_⟩, ok f fd F, F.binds b⟩
  unfold PySem.W.fnIn
  rw [lk]
theorem cmp_at (A : HasM K C m qual st) (ok : ∀ f fd, Fun K m qual st f fd → FnOk P w K mg base CX k f fd ps sp) (b : BindW m qual st ps) : CmpAt P w K mg base CX k C m ps sp := by
  obtain ⟨f, fd, h1, h2, F⟩ := A.ex
  exact ⟨f, fd, h1, h2, ok f fd F, F.binds b⟩
/-- called with keywords alone -/
theorem methK_at {gV : List V → List V → List V} {g : List Value → List Value → List Value} (A : HasM K C m qual st) (ok : ∀ f fd, Fun K m qual st f fd → FnOk P w K mg base CX k f fd ps sp)
    (b : ∀ (kV doc pm : Value) (an : Option Addr) (cdv ct : Value) (us ws : List Value), us.length = 1 → ws.length = ks.length → bindArgs (PySem.W.fnOf m qual (defArgs st) (defBody st) (defScope st) .none kV doc pm an cdv ct) ⟨us, ks.zip ws⟩ = pure (ps.zip (g us ws)))
    (r : ∀ {vs : List V} {us : List Value} {zs : List V} {ws : List Value}, Vals vs us → Vals zs ws → Vals (gV vs zs) (g us ws)) : MethK P w K mg base CX k C m ps ks sp gV := by
  obtain ⟨f, fd, h1, h2, F⟩ := A.ex
  obtain ⟨oc, od, kV, doc, pm, an, cdv, ct, osl, rfl, lk, hcd⟩ := id F.ex
  exact ⟨f, _, g, ⟨h1, h2, F.kp⟩, ok f _ F, ⟨fun s us ws _ l1 l2 => .of_eq (b kV doc pm an cdv ct us ws l1 l2), r⟩⟩
/-- the class is made with all its arguments -/
theorem make_all {dvs : List V} (A : HasD K C "__init__" qual st dvs []) (hx : mg x = some (.ref C)) (mk : PySem.W.makesIn K C = true) (kp : PySem.W.keepIn K (.ref C) = true) (ok : ∀ f fd, FunD K "__init__" qual (defArgs st) (defBody st) (defScope st) dvs [] f fd → FnOk P w K mg base CX k f fd ps sp) (hd : dvs ≠ [])
    (b : ∀ (T : Addr) (kV doc pm : Value) (an : Option Addr) (cdv ct : Value) (us its : List Value), us.length = ps.length → its.length = dvs.length →
      ∃ k, bindArgs (PySem.W.fnOf "__init__" qual (defArgs st) (defBody st) (defScope st) (.ref T) kV doc pm an cdv ct) ⟨us, []⟩ = seqItems? (.ref T) >>= k ∧ k (some its.toArray) = pure (ps.zip (us ++ its.drop dvs.length))) : MakeAt P w K mg base CX k x C ps sp [] := by
  obtain ⟨f, fd, h1, h2, F⟩ := A.ex
  obtain ⟨ds, r, bs⟩ := F.binds1 ps.length dvs.length hd (by omega) b
  rw [List.drop_length] at r
  exact ⟨f, fd, ds, ⟨mk, h1, h2, kp⟩, ok f fd F, hx, bs, r⟩
end
end My
/-! Static methods by the class's name; ints divided by ints of any sign; lists beside the empty one. -/
namespace My
open PySem PySem.Spec PySem.Calls PyProof.Rows L2
/-- C.m is a staticmethod with the def at f -/
structure Stat (K : PySem.W.Frag) (C : Addr) (m : Str) (f : Addr) : Prop where
  ga : PySem.W.specialIn K (.ref C) "__getattribute__" = some (some (.builtin "type.__getattribute__"))
  rc : ∃ (mc : Value) (p : Addr) (rest : List Value), PySem.W.readsIn K C mc = true ∧ PySem.W.findCls K (.ref C) mc m = some (.get (.builtin "staticmethod.__get__") (.ref p) .none (.ref C)) ∧ PySem.W.recIn K p "staticmethod" = some (.ref f :: rest)
  kp : PySem.W.keepIn K (.ref f) = true
structure StatAt (P : Program) (w : World) (K : PySem.W.Frag) (mg : Str → Option Value) (base : Heap) (CX : CXT) (k : Nat) (C : Addr) (m : Str) (ps : List Str) (sp : Sp) : Prop where
  ex : ∃ f fd, Stat K C m f ∧ FnOk P w K mg base CX k f fd ps sp ∧ L2.Binds K fd ps []
structure StatK (P : Program) (w : World) (K : PySem.W.Frag) (mg : Str → Option Value) (base : Heap) (CX : CXT) (k : Nat) (C : Addr) (m : Str) (ps ks : List Str) (sp : Sp) (gV : List V → List V → List V) : Prop where
  ex : ∃ f fd g, Stat K C m f ∧ FnOk P w K mg base CX k f fd ps sp ∧ KBn K fd ps 0 ks g gV
section
variable {X : Cx} {CX : CXT} {k : Nat} {C : Addr} {ps ks : List Str} {sp : Sp} {E : XK} {m : Str} {e o : Expr} {es : List Expr} {kws : List Keyword} {t tk : TA} {ta : TE} {pos apos : Pos} {gV : List V → List V → List V}
theorem getstat_ok {pins : List (Addr × Obj)} {σ : L2.St} {H : Hp} {s : Shared} {f : Addr} {pl : Sem Bool} {A : Around} {Er : Value → Shared → Prop} {Q : Value × List Value → Shared → Prop} (I : Inv X pins σ H s) (c : Stat X.K C m f) (h : ∀ s', Inv X pins σ H s' → Q (.ref f, []) s') : wpAny (model X.prog X.w) A (getMethod (.ref C) m pl) Q Er s := by
  obtain ⟨mc, p, rest, h1, h2, h3⟩ := c.rc
  refine PySem.W.method_cls I.kIn c.ga (PySem.W.cls_bind I.kIn h1 h2 ?_)
  exact wpAny_call (PySem.W.sm_get (s := { s with toks := s.toks + 1 }) I.kIn h3 (PySem.W.handed_on rfl (h _ (I.tok _))))
def tStat (C : Addr) (sp : Sp) (E : XK) (ta : TE) (t : TA) : TE := fun σ H Q => ta σ H fun x H1 => x = .ref C ∧ t σ H1 fun vs H2 => sp vs H2 Q E
theorem pe_st {pl : Sem Bool} (M : StatAt X.prog X.w X.K X.mg X.base CX k C m ps sp) (hr : Room k X.A) (hx : Passes CX X E) (he : PE X o ta) (ha : PA X (e :: es) t)
    (hst : starEach (e :: es) X.env = (false, eval e X.env) :: starEach es X.env := by rfl) (hpl : (backTo pos (starEach es X.env)).any (·.1) = false := by rfl)
    (ht : eval (.Call (.Attribute o m apos) (e :: es) [] pos) X.env = (do
      let ov ← eval o X.env
      standAt apos.atName
      let (f, first) ← holding [ov] (getMethod ov m pl)
      callWith pos f first (backTo pos (starEach (e :: es) X.env)) (backToKw pos (keywordEach [] X.env))) := by rfl) :
    PE X (.Call (.Attribute o m apos) (e :: es) [] pos) (tStat C sp E ta t) := by
  obtain ⟨f, fd, c, F, b⟩ := M.ex
  refine ⟨fun pins s σ H Q I h => ?_⟩
  refine PySem.W.methodCall_KW (pl := pl) (thn (he.run pins s σ H _ I h) fun u s1 ⟨x, H1, I1, rx, ex, q⟩ => ?_) ht
  subst ex
  obtain rfl : u = Value.ref C := rx
  refine getstat_ok I1 c fun s1 I1 => ?_
  refine PySem.W.callWith_K (first := []) (h₀ := X.base) I.ok.mod.kin c.kp (thn (ha.run pos pins s1 σ H1 _ I1 q) fun us s2 ⟨vs, H2, I2, r, q2⟩ => ⟨I2.kIn, ?_⟩) hst hpl
  exact run_fn (us := us) (vs := vs) F hr b .nil hx I2 r (by rw [List.append_nil]; exact q2)
def tStatK (C : Addr) (j : Nat) (sp : Sp) (gV : List V → List V → List V) (E : XK) (ta : TE) (tk : TA) : TE := fun σ H Q => ta σ H fun x H1 => x = .ref C ∧ tk σ H1 fun zs H2 => zs.length = j ∧ sp (gV [] zs) H2 Q E
theorem pe_stK {pl : Sem Bool} (M : StatK X.prog X.w X.K X.mg X.base CX k C m ps ks sp gV) (hr : Room k X.A) (hx : Passes CX X E) (he : PE X o ta) (hkw : PK X kws tk)
    (hall : (backToKw pos (keywordEach kws X.env)).all (·.1.isSome) = true := by rfl) (hks : (backToKw pos (keywordEach kws X.env)).filterMap (·.1) = ks := by rfl)
    (hpl : ((backTo pos (starEach [] X.env)).any (·.1) || (backToKw pos (keywordEach kws X.env)).any (·.1.isNone)) = false := by rfl)
    (ht : eval (.Call (.Attribute o m apos) [] kws pos) X.env = (do
      let ov ← eval o X.env
      standAt apos.atName
      let (f, first) ← holding [ov] (getMethod ov m pl)
      callWith pos f first (backTo pos (starEach [] X.env)) (backToKw pos (keywordEach kws X.env))) := by rfl) :
    PE X (.Call (.Attribute o m apos) [] kws pos) (tStatK C ks.length sp gV E ta tk) := by
  obtain ⟨f, fd, g, c, F, b⟩ := M.ex
  refine ⟨fun pins s σ H Q I h => ?_⟩
  refine PySem.W.methodCall_KW (pl := pl) (thn (he.run pins s σ H _ I h) fun u s1 ⟨x, H1, I1, rx, ex, q⟩ => ?_) ht
  subst ex
  obtain rfl : u = Value.ref C := rx
  refine getstat_ok I1 c fun s1 I1 => ?_
  refine PySem.W.callWith_KW0 (first := []) (h₀ := X.base) I.ok.mod.kin c.kp hall (thn (hkw.run pos pins s1 σ H1 _ I1 q) fun ws s2 ⟨zs, H2, I2, rz, l2, q2⟩ => ⟨I2.kIn, ?_⟩) hpl
  rw [hks]
  exact run_fnN (us := []) (vs := []) F hr b hx I2 .nil rz rfl l2 q2
/-! ### // and % by any int but 0 -/
def CDivX (_ j : Int) : Prop := j ≠ 0 ∧ j.natAbs.log2 < 9000
theorem op_fdivX : OpR X (binaryOp .FloorDiv) (rI CDivX fun i j => .int (i.fdiv j)) := opI fun _ _ _ _ _ _ _ hc q => floordiv_int hc.1 q (.inl (PyProof.noPylong_of_log2 hc.2))
/-! ### lists of unlike lengths -/
def rEqL : R2 := fun x y H Q => ∃ l b xs ys, x = .ref l ∧ y = .ref b ∧ H l = some (.lst xs) ∧ H b = some (.lst ys) ∧ xs.length ≠ ys.length ∧ Q (.bl false) H
theorem op_eqL (hu : X.A.units < cLine) : OpR X (compareOp .Eq) rEqL := by
  intro pins s σ H x y v u Q I rx ry h
  obtain ⟨l, b, xs, ys, rfl, rfl, h1, h2, hn, q⟩ := h
  obtain rfl : v = Value.ref l := rx
  obtain rfl : u = Value.ref b := ry
  obtain ⟨z, its, n, r, hl, e⟩ := I.lstM h1
  obtain ⟨z2, its2, n2, r2, hl2, e2⟩ := I.lstM h2
  have hs : (its.toArray.size != its2.toArray.size) = true := by
    have a1 := r.length
    have a2 := r2.length
    simp only [List.size_toArray, bne_iff_ne, ne_eq]
    omega
  show wpAny (model X.prog X.w) X.A (richCompare .Eq (.ref l) (.ref b)) _ _ s
  refine wpAny_richCompare_same_room (op := .Eq) ⟨_, e, rfl⟩ ⟨_, e2, rfl⟩ PySem.F.slot_list_eq (call_meets PySem.F.slot_list_eq ⟨_, e, rfl⟩ PySem.F.entry_list_eq (PySem.F.args_list_eq_2 _ _) (AutoSeq1.list___eq___list_list_0 l its.toArray n b its2.toArray n2 hs) ⟨e, e2, ?_⟩) hu
  exact ⟨(fun x => nomatch x), .bl false, H, I, rfl, q⟩
end
end My
/-! The order of two pairs of ints; two promises of one def. -/
namespace My
open PySem PySem.Spec PySem.Calls PyProof.Rows L2
def ordP (r : Int → Int → Bool) (z : Bool) (a b c d : Int) : Bool := if a = c then (if b = d then z else r b d) else r a c
def rOrd (K : PySem.W.Frag) (r : Int → Int → Bool) (z : Bool) : R2 := fun x y H Q => ∃ (l m : Addr) (a b c d : Int), x = .ref l ∧ y = .ref m ∧ SqT K H l [.int a, .int b] ∧ SqT K H m [.int c, .int d] ∧ Q (.bl (ordP r z a b c d)) H
theorem int_here {s : Shared} {A : Around} (a c : Int) (t u : Tok) : SeqAt.EqAt A s (.int a t) (.int c u) (decide (a = c)) := by
  have e : (a == c) = decide (a = c) := by
    by_cases q : a = c
    · rw [decide_eq_true q]; exact beq_iff_eq.mpr q
    · rw [decide_eq_false q]; exact beq_eq_false_iff_ne.mpr q
  rw [← e]
  exact SeqAt.EqAt.int_int _ _ _ _
theorem op_ordV {X : Cx} {op : CmpOp} {r : Int → Int → Bool} {z : Bool} (hco : ∀ v u, compareOp op v u = richCompare op v u)
    (tup : ∀ {A : Around} {s : Shared} {l b : Addr} {is js : Array Value} {e r : Nat → Bool}, s.heap.IsTuple l is → s.heap.IsTuple b js → A.units < cLine → is.size = 2 → js.size = 2 → (∀ j (h1 : j < is.size) (h2 : j < js.size), SeqAt.EqAt A.in1 s is[j] js[j] (e j)) →
      (∀ j (h1 : j < is.size) (h2 : j < js.size), e j = false → Ob.RcOp op A.in1 s is[j] js[j] (r j)) → Ob.RcOp op A s (.ref l) (.ref b) (Ob.lexAt e r z 0 2))
    (int : ∀ {A : Around} {s : Shared} (a b : Int) (t u : Tok), Ob.RcOp op A s (.int a t) (.int b u) (r a b)) (hu : X.A.units < cLine) : OpR X (compareOp op) (rOrd X.K r z) := by
  intro pins s σ H x y v u Q I rx ry h
  obtain ⟨l, m, a, b, c, d, rfl, rfl, hl, hm, q⟩ := h
  obtain rfl : v = Value.ref l := rx
  obtain rfl : u = Value.ref m := ry
  obtain ⟨is, r1, p1, _⟩ := I.tuple hl
  obtain ⟨js, r2, p2, _⟩ := I.tuple hm
  cases r1 with
  | cons ra r1 =>
    cases r1 with
    | cons rb r1 =>
      cases r1
      cases r2 with
      | cons rc r2 =>
        cases r2 with
        | cons rd r2 =>
          cases r2
          obtain ⟨ta, rfl⟩ := ra
          obtain ⟨tb, rfl⟩ := rb
          obtain ⟨tc, rfl⟩ := rc
          obtain ⟨td, rfl⟩ := rd
          have R := tup (A := X.A) (s := s) (e := fun j => if j = 0 then decide (a = c) else decide (b = d)) (r := fun j => if j = 0 then r a c else r b d) p1 p2 hu rfl rfl (fun j h1 h2 => by
            match j, h1 with
            | 0, _ => exact int_here a c ta tc
            | 1, _ => exact int_here b d tb td) (fun j h1 h2 _ => by
            match j, h1 with
            | 0, _ => exact int a c ta tc
            | 1, _ => exact int b d tb td)
          rw [hco]
          refine R X.prog X.w X.xe (EP X pins σ Q) ⟨.bl _, H, I, rfl, ?_⟩
          have e : Ob.lexAt (fun j => if j = 0 then decide (a = c) else decide (b = d)) (fun j => if j = 0 then r a c else r b d) z 0 2 = ordP r z a b c d := by
            unfold ordP
            simp only [Ob.lexAt_succ, Ob.lexAt_zero]
            by_cases h1 : a = c
            · by_cases h2 : b = d
              · simp [h1, h2]
              · simp [h1, h2]
            · simp [h1]
          rw [e]
          exact q
section
variable {X : Cx}
theorem op_ltP (hu : X.A.units < cLine) : OpR X (compareOp .Lt) (rOrd X.K (fun i j => decide (i < j)) false) := op_ordV (fun _ _ => rfl) (fun {A s l b is js e r} h1 h2 h3 h4 h5 h6 h7 => by have z := Ob.RcOp.tuples_lt h1 h2 h3 h6 h7; rw [h4, h5] at z; exact z) (fun a b t u => Ob.RcOp.lt_int a b t u) hu
theorem op_leP (hu : X.A.units < cLine) : OpR X (compareOp .LtE) (rOrd X.K (fun i j => decide (i ≤ j)) true) := op_ordV (fun _ _ => rfl) (fun {A s l b is js e r} h1 h2 h3 h4 h5 h6 h7 => by have z := Ob.RcOp.tuples_le h1 h2 h3 h6 h7; rw [h4, h5] at z; exact z) (fun a b t u => Ob.RcOp.le_int a b t u) hu
theorem op_gtP (hu : X.A.units < cLine) : OpR X (compareOp .Gt) (rOrd X.K (fun i j => decide (j < i)) false) := op_ordV (fun _ _ => rfl) (fun {A s l b is js e r} h1 h2 h3 h4 h5 h6 h7 => by have z := Ob.RcOp.tuples_gt h1 h2 h3 h6 h7; rw [h4, h5] at z; exact z) (fun a b t u => Ob.RcOp.gt_int a b t u) hu
theorem op_geP (hu : X.A.units < cLine) : OpR X (compareOp .GtE) (rOrd X.K (fun i j => decide (j ≤ i)) true) := op_ordV (fun _ _ => rfl) (fun {A s l b is js e r} h1 h2 h3 h4 h5 h6 h7 => by have z := Ob.RcOp.tuples_ge h1 h2 h3 h6 h7; rw [h4, h5] at z; exact z) (fun a b t u => Ob.RcOp.ge_int a b t u) hu
end
/-! ### within a comprehension -/
theorem op_cmpB {X : Cx} {K : PySem.W.Frag} {CX : CXT} {k : Nat} {C : Addr} {m : Str} {ps : List Str} {sp : Sp} {E : XK} {op : CmpOp} (hK : X.K = K) (M : CmpAt X.prog X.w X.K X.mg X.base CX k C m ps sp) (hr : Room k X.A) (hx : Passes CX X E) (hop : (cmpInfo op).2.1 = m := by rfl)
    (hco : ∀ v u, compareOp op v u = richCompare op v u := by intro _ _; rfl) : OpR X (compareOp op) (rCmpO K C sp E) := by
  subst hK
  exact op_cmpO M hr hx hop hco
/-! ### a def that keeps two promises -/
def spOr (s1 s2 : Sp) : Sp := fun vs H Q E => s1 vs H Q E ∨ s2 vs H Q E
section
variable {P : Program} {w : World} {K : PySem.W.Frag} {mg : Str → Option Value} {base : Heap} {CX : CXT} {k : Nat} {f : Addr} {fd : FuncData} {ps : List Str} {s1 s2 : Sp}
theorem ok_or (h1 : FnOk P w K mg base CX k f fd ps s1) (h2 : FnOk P w K mg base CX k f fd ps s2) : FnOk P w K mg base CX k f fd ps (spOr s1 s2) :=
  ⟨fun vs H Q E h => h.elim (h1.len vs H Q E) (h2.len vs H Q E), fun A outer s H args us vs Q E hr e0 hb r h => h.elim (h1.run A outer s H args us vs Q E hr e0 hb r) (h2.run A outer s H args us vs Q E hr e0 hb r)⟩
theorem okG_or (h1 : FnG P w K mg base CX k f fd ps s1) (h2 : FnG P w K mg base CX k f fd ps s2) : FnG P w K mg base CX k f fd ps (spOr s1 s2) :=
  ⟨fun vs H Q E h => h.elim (h1.len vs H Q E) (h2.len vs H Q E), fun A outer s H args us vs Q E hg hr e0 hb r h => h.elim (h1.run A outer s H args us vs Q E hg hr e0 hb r) (h2.run A outer s H args us vs Q E hg hr e0 hb r)⟩
end
end My
/-! Signs in place; an instance called by keywords; what a comprehension may hold. -/
namespace My
open PySem PySem.Spec PySem.Calls PyProof.Rows L2
section
open PySem.W
variable {prog : Program} {w : World} {M : Model} {A : Around} {E : Value → Shared → Prop} {s : Shared} {K : Frag} {x C L f : Addr} {h₀ : Heap} {m : Str → Option Value} {ox : Obj} {od : Option Obj} {nm : String}
/-- beside one of its own class -/
theorem bin1_S {b : Value} {Q : Value → Shared → Prop} (X : K.In s.heap) (I : InstAt s.heap x ox C od) (hb : Looks (model prog w) s.heap (typeOf b) (.ref C)) (hc : selfFirst K C = true) (hs : findIn K (.ref C) (PySem.dunder nm) = some (some (.ref f))) (hf : isFn K (.ref f) = true)
    (h : wpAny (model prog w) A (call (.ref f) [.ref x, b]) (PySem.W.CmpBack Q) E s) : wpAny (model prog w) A (binaryOp1 nm (.ref x) b) (fun r s' => ∃ v, r = some v ∧ Q v s') E s := by
  obtain ⟨cd, rest, hcd, hm⟩ := ksp_first hc
  have one := ksp_try X I hs hf h
  obtain ⟨hh, g, d, tt, os⟩ := s
  have L1 : Looks (model prog w) hh (typeOf (.ref x)) (.ref C) := I.type
  have L2 : Looks (model prog w) hh (typeOf b) (.ref C) := hb
  have L3 : Looks (model prog w) hh (fillsNumberSlot (.ref C) nm) true := fills_K X hcd hm hs
  unfold binaryOp1
  refine wpAny_bind (L1.at (wpAny_bind (L2.at (wpAny_bind (L3.at ?_)))))
  simp only [beq_self_eq_true, if_true]
  ksp_lk
  refine wpAny_mono one (fun r s' hr' => ?_) fun _ _ e => e
  obtain ⟨v, rfl, hq⟩ := hr'
  ksp_lk
  exact ⟨v, rfl, hq⟩
/-- beside a value of a built-in type -/
theorem bin1_T {T : String} {b : Value} {fo ro rc : Option Value} {Q : Value → Shared → Prop} (X : K.In s.heap) (I : InstAt s.heap x ox C od) (hb : typeOf b = pure (.type T)) (hc : selfFirst K C = true)
    (hs : findIn K (.ref C) (PySem.dunder nm) = some (some (.ref f))) (hf : isFn K (.ref f) = true) (hr : findIn K (.ref C) (dunderR nm) = some rc) (hp : rc = none ∨ ∃ g : Addr, rc = some (.ref g))
    (h1 : findIn K (.type T) (PySem.dunder nm) = some fo) (h2 : findIn K (.type T) (dunderR nm) = some ro) (hsub : subIn K (.type T) (.ref C) = some false)
    (h : wpAny (model prog w) A (call (.ref f) [.ref x, b]) (PySem.W.CmpBack Q) E s) : wpAny (model prog w) A (binaryOp1 nm (.ref x) b) (fun r s' => ∃ v, r = some v ∧ Q v s') E s := by
  obtain ⟨cd, rest, hcd, hm⟩ := ksp_first hc
  have one := ksp_try X I hs hf h
  obtain ⟨hh, g, d, tt, os⟩ := s
  have L1 : Looks (model prog w) hh (typeOf (.ref x)) (.ref C) := I.type
  have L2 : Looks (model prog w) hh (typeOf b) (.type T) := Looks.of_pure hb
  have L3 : Looks (model prog w) hh (fillsNumberSlot (.ref C) nm) true := fills_K X hcd hm hs
  have L4 : Looks (model prog w) hh (fillsNumberSlot (.type T) nm) ((fo.isSome && !isSeqSlot fo) || (ro.isSome && !isSeqSlot ro)) := ksp_fillsT X h1 h2
  have L5 : Looks (model prog w) hh (isSubtype (.type T) (.ref C)) false := looks_subIn X hsub
  have L6 : Looks (model prog w) hh (numberSlotInPython (.ref C) nm) true := ksp_inPy X hs hr hp
  have L7 : Looks (model prog w) hh (numberSlotInPython (.type T) nm) false := Looks.of_pure rfl
  have L8 : Looks (model prog w) hh (typeLookup (.type T) (dunderR nm)) ro := looks_findIn X h2
  generalize ((fo.isSome && !isSeqSlot fo) || (ro.isSome && !isSeqSlot ro)) = right at L4
  have hne : (Value.ref C == Value.type T) = false := Bool.eq_false_iff.mpr fun q => by cases beq_iff_eq.mp q
  unfold binaryOp1
  refine wpAny_bind (L1.at (wpAny_bind (L2.at (wpAny_bind (L3.at ?_)))))
  simp only [hne, Bool.false_eq_true, if_false]
  cases right with
  | false =>
    ksp_lk
    refine wpAny_mono one (fun r s' hr' => ?_) fun _ _ e => e
    obtain ⟨v, rfl, hq⟩ := hr'
    ksp_lk
    exact ⟨v, rfl, hq⟩
  | true =>
    ksp_lk
    refine wpAny_mono one (fun r s' hr' => ?_) fun _ _ e => e
    obtain ⟨v, rfl, hq⟩ := hr'
    ksp_lk
    exact ⟨v, rfl, hq⟩
/-- the class has no slot in place -/
theorem noInplace {h : Heap} {cd : ClassData} {add : Bool} (X : K.In h) (hc : clsIn K C = some cd) (hm : cd.mro = [.ref C, .type "object"]) (h1 : findIn K (.ref C) (dunderI nm) = some none) (h2 : findIn K (.type "object") (dunderI nm) = some none) : Looks M h (fillsInplaceSlot (.ref C) nm add) false := by
  intro A Q E s k q
  have Lm : Looks M h (mroOf (.ref C)) cd.mro := (looks_clsIn X hc).andThen (f := fun cd => pure cd.mro) .now
  have Lm' := Lm.keeps k
  obtain ⟨hh, g, d, tt, os⟩ := s
  have X' : K.In hh := X.keeps k
  have L1 : Looks M hh (typeLookup (.ref C) (dunderI nm)) none := looks_findIn X' h1
  have L2 : Looks M hh (typeLookup (.type "object") (dunderI nm)) none := looks_findIn X' h2
  unfold fillsInplaceSlot
  refine wpAny_bind (Lm'.at ?_)
  rw [hm, List.anyM_cons]
  refine wpAny_bind ?_
  repeat lk
  exact q
theorem inpl_K {op : Operator} {b : Value} {Q : Value → Shared → Prop} {cd : ClassData} (X : K.In s.heap) (I : InstAt s.heap x ox C od) (hc : clsIn K C = some cd) (hm : cd.mro = [.ref C, .type "object"]) (h1 : findIn K (.ref C) (dunderI op.info.2) = some none) (h2 : findIn K (.type "object") (dunderI op.info.2) = some none)
    (h : wpAny (model prog w) A (binaryOp1 op.info.2 (.ref x) b) (fun r s' => ∃ v, r = some v ∧ Q v s') E s) : wpAny (model prog w) A (inplaceOp op (.ref x) b) Q E s := by
  have L2 : Looks (model prog w) s.heap (fillsInplaceSlot (.ref C) op.info.2 (op == .Add)) false := noInplace X hc hm h1 h2
  unfold inplaceOp
  refine wpAny_holding ?_
  dsimp only
  refine wpAny_bind (I.type.here (wpAny_bind (L2.here ?_)))
  simp only [Bool.false_eq_true, if_false]
  refine wpAny_bind (wpAny_mono h (fun r s' z => ?_) fun _ _ e => e)
  obtain ⟨v, rfl, hq⟩ := z
  exact wpAny_pure hq
end
/-- the class has no slot in place -/
structure InpF (K : PySem.W.Frag) (C : Addr) (nm : String) : Prop where
  mro : ∃ cd, PySem.W.clsIn K C = some cd ∧ cd.mro = [.ref C, .type "object"]
  no1 : PySem.W.findIn K (.ref C) (dunderI nm) = some none
  no2 : PySem.W.findIn K (.type "object") (dunderI nm) = some none
section
variable {X : Cx} {CX : CXT} {k : Nat} {ps ks : List Str} {sp : Sp} {E : XK} {C : Addr} {m : Str}
theorem iop_O {op : Operator} (M : CmpAt X.prog X.w X.K X.mg X.base CX k C m ps sp) (B : BinF X.K C op.info.2) (N : InpF X.K C op.info.2) (hr : Room k X.A) (hx : Passes CX X E) (hm : PySem.dunder op.info.2 = m := by rfl) : OpR X (inplaceOp op) (rBinO C sp E) := by
  intro pins s σ H x y v u Q I rx ry h
  obtain ⟨f, fd, hs, hf, F, hb⟩ := M.ex
  obtain ⟨a, dx, fs, rfl, ha, oi, hsp⟩ := h
  obtain rfl : v = Value.ref a := rx
  obtain ⟨ox, od, J, _⟩ := ins_plain I ha
  obtain ⟨cd, c1, c2⟩ := N.mro
  subst hm
  have go : wpAny (model X.prog X.w) X.A (call (.ref f) [.ref a, u]) (PySem.W.CmpBack (EP X pins σ Q)) X.xe s := wpAny_mono (run_at (vs := [.ref a, y]) F hb hx (Und.here hr) I (.cons rfl (.cons ry .nil)) hsp) (fun _ _ z => ep_back z) fun _ _ z => z
  refine inpl_K I.kIn J c1 c2 N.no1 N.no2 ?_
  rcases oi with ⟨b, dy, gs, rfl, hb'⟩ | ⟨j, rfl⟩
  · obtain rfl : u = Value.ref b := ry
    obtain ⟨oy, od', J', _⟩ := ins_plain I hb'
    exact bin1_S I.kIn J J'.type B.sf hs hf go
  · obtain ⟨t, rfl⟩ := ry
    obtain ⟨rc, r1, r2⟩ := B.rc
    obtain ⟨fo, i1⟩ := B.i1
    obtain ⟨ro, i2⟩ := B.i2
    exact bin1_T I.kIn J rfl B.sf hs hf r1 r2 i1 i2 B.su go
/-! ### an instance called -/
/-- f(e, ..), told without the context -/
def tCallI (C : Addr) (sp : Sp) (E : XK) (tf : TE) (t : TA) : TE := fun σ H Q => tf σ H fun y H1 => ∃ a, y = V.ref a ∧ t σ H1 fun vs H2 => (∃ dx fs, H2 a = some (.ins C dx fs)) ∧ sp (V.ref a :: vs) H2 Q E
theorem pe_clI {fe e : Expr} {es : List Expr} {tf : TE} {t : TA} {pos : Pos} (M : CallAt X.prog X.w X.K X.mg X.base CX k C ps sp) (hr : Room k X.A) (hx : Passes CX X E) (hf : PE X fe tf) (ha : PA X (e :: es) t)
    (ht : eval (.Call fe (e :: es) [] pos) X.env = (do callWith pos (← eval fe X.env) [] (backTo pos (starEach (e :: es) X.env)) (backToKw pos (keywordEach [] X.env))) := by rfl)
    (hs : starEach (e :: es) X.env = (false, eval e X.env) :: starEach es X.env := by rfl) (hpl : (backTo pos (starEach es X.env)).any (·.1) = false := by rfl) : PE X (.Call fe (e :: es) [] pos) (tCallI C sp E tf t) := by
  obtain ⟨f, fd, c, F, b⟩ := M.ex
  refine ⟨fun pins s σ H Q I h => ?_⟩
  refine Call_ (thn (hf.run pins s σ H _ I h) fun u s1 ⟨y, H1, I1, ry, a, ey, q⟩ => ?_) ht
  subst ey
  obtain rfl : u = Value.ref a := ry
  refine StX.callO_with (thn (ha.run pos pins s1 σ H1 _ I1 q) fun us s2 ⟨vs, H2, I2, r, ⟨dx, fs, hi⟩, q2⟩ => ?_) hs hpl
  obtain ⟨ox, od, J, hd⟩ := StX.insC_at (X := X) I2 (.inr ⟨dx, fs, hi⟩)
  refine ⟨⟨C, ox, od, J, hd⟩, ?_⟩
  have hl : (Value.ref a :: us ++ []).length = ps.length := by
    rw [List.append_nil, List.length_cons, ← r.length]
    exact F.len _ _ _ _ q2
  have bd := b s2 (.ref a :: us) I2.kIn hl
  rw [List.append_nil] at bd
  refine wpAny_call (PySem.W.kco_code I2.kIn J hd c.at_ c.fn c.fi (codeAny_mono (F.run X.A X.stack s2 H2 ⟨.ref a :: us, []⟩ (.ref a :: us) (.ref a :: vs) _ E hr I2.env0 bd (.cons rfl r) q2) fun r s' hq => ?_))
  match r, hq with
  | .error e, hq => exact hx pins σ H2 s2 e s' I2 hq
  | .ok (.ret z), hq => exact I2.after hq
  | .ok .next, hq => exact False.elim hq
  | .ok .brk, hq => exact False.elim hq
  | .ok .cont, hq => exact False.elim hq
structure CallK (P : Program) (w : World) (K : PySem.W.Frag) (mg : Str → Option Value) (base : Heap) (CX : CXT) (k : Nat) (C : Addr) (ps ks : List Str) (sp : Sp) (gV : List V → List V → List V) : Prop where
  ex : ∃ f fd g, StX.CallO K C f ∧ FnOk P w K mg base CX k f fd ps sp ∧ KBn K fd ps 1 ks g gV
def tCallK (C : Addr) (j : Nat) (sp : Sp) (gV : List V → List V → List V) (E : XK) (tf : TE) (tk : TA) : TE := fun σ H Q => tf σ H fun y H1 => ∃ a, y = V.ref a ∧ tk σ H1 fun zs H2 => zs.length = j ∧ (∃ dx fs, H2 a = some (.ins C dx fs)) ∧ sp (gV [.ref a] zs) H2 Q E
/-- the call's node where the callee is an instance, keywords alone -/
theorem callO_kw {M : Model} {A : Around} {Er : Value → Shared → Prop} {s : Shared} {a : Addr} {pos : Pos} {Q : Value → Shared → Prop} {args : List (Bool × Sem Value)} {kw : List (Option Str × Sem Value)} (hplain : (args.any (·.1) || kw.any (·.1.isNone)) = false)
    (h : wpAny M A (evalArgs (.ref a) true args kw) (fun z s₁ => (∃ C ox od, PySem.W.InstAt s₁.heap a ox C od ∧ ox.data = .plain) ∧ wpAny M A (call (.ref a) ([] ++ z.pos) z.kw) Q Er s₁) Er s) : wpAny M A (callWith pos (.ref a) [] args kw) Q Er s := by
  unfold callWith
  refine wpAny_bind (wpAny_holding (wpAny_mono h (fun z s₁ h₁ => wpAny_bind (wpAny_standAt ?_)) fun _ _ y => y))
  obtain ⟨⟨C, ox, od, J, hd⟩, h₁⟩ := h₁
  simp only [hplain]
  refine wpAny_bind ((PySem.W.kco_keeper (M := M) J hd).here ?_)
  refine wpAny_bind (wpAny_mono (wpAny_operateT h₁) (fun r s₂ hr => wpAny_bind (wpAny_holding (wpAny_point (wpAny_pure hr)))) fun _ _ y => y)
theorem pe_clK {fe : Expr} {kws : List Keyword} {tf : TE} {tk : TA} {pos : Pos} {gV : List V → List V → List V} (M : CallK X.prog X.w X.K X.mg X.base CX k C ps ks sp gV) (hr : Room k X.A) (hx : Passes CX X E) (hf : PE X fe tf) (hkw : PK X kws tk)
    (ht : eval (.Call fe [] kws pos) X.env = (do callWith pos (← eval fe X.env) [] (backTo pos (starEach [] X.env)) (backToKw pos (keywordEach kws X.env))) := by rfl)
    (hall : (backToKw pos (keywordEach kws X.env)).all (·.1.isSome) = true := by rfl) (hks : (backToKw pos (keywordEach kws X.env)).filterMap (·.1) = ks := by rfl)
    (hpl : ((backTo pos (starEach [] X.env)).any (·.1) || (backToKw pos (keywordEach kws X.env)).any (·.1.isNone)) = false := by rfl) : PE X (.Call fe [] kws pos) (tCallK C ks.length sp gV E tf tk) := by
  obtain ⟨f, fd, g, c, F, b⟩ := M.ex
  refine ⟨fun pins s σ H Q I h => ?_⟩
  rw [ht]
  refine wpAny_bind (thn (hf.run pins s σ H _ I h) fun u s1 ⟨y, H1, I1, ry, a, ey, q⟩ => ?_)
  subst ey
  obtain rfl : u = Value.ref a := ry
  refine callO_kw hpl (evalArgs_kw2_nil hall (thn (hkw.run pos pins s1 σ H1 _ I1 q) fun ws s2 ⟨zs, H2, I2, rz, l2, ⟨dx, fs, hi⟩, q2⟩ => ?_))
  obtain ⟨ox, od, J, hd⟩ := StX.insC_at (X := X) I2 (.inr ⟨dx, fs, hi⟩)
  refine ⟨⟨C, ox, od, J, hd⟩, ?_⟩
  rw [hks]
  have r2 := b.rel (vs := [V.ref a]) (us := [Value.ref a]) (.cons rfl .nil) rz
  refine wpAny_call (PySem.W.kco_code I2.kIn J hd c.at_ c.fn c.fi (codeAny_mono (F.run X.A X.stack s2 H2 ⟨[.ref a], ks.zip ws⟩ (g [.ref a] ws) (gV [.ref a] zs) _ E hr I2.env0 (b.to s2 [.ref a] ws I2.kIn rfl (rz.length.symm.trans l2)) r2 q2) fun r s' hq => ?_))
  match r, hq with
  | .error e, hq => exact hx pins σ H2 s2 e s' I2 hq
  | .ok (.ret z), hq => exact I2.after hq
  | .ok .next, hq => exact False.elim hq
  | .ok .brk, hq => exact False.elim hq
  | .ok .cont, hq => exact False.elim hq
/-- a class of the module made by keywords alone -/
structure MakeK (P : Program) (w : World) (K : PySem.W.Frag) (mg : Str → Option Value) (base : Heap) (CX : CXT) (k : Nat) (x : Str) (C : Addr) (ps ks : List Str) (sp : Sp) (gV : List V → List V → List V) : Prop where
  ex : ∃ f fd g, Mk K C f ∧ FnOk P w K mg base CX k f fd ps sp ∧ mg x = some (.ref C) ∧ KBn K fd ps 1 ks g gV
theorem pe_mkK {x : Str} {p pos : Pos} {kws : List Keyword} {tk : TA} {gV : List V → List V → List V} (M : MakeK X.prog X.w X.K X.mg X.base CX k x C ps ks sp gV) (hr : Room (k + 1) X.A) (hg : Gl X x) (hx : Passes CX X E) (hkw : PK X kws tk)
    (hall : (backToKw pos (keywordEach kws X.env)).all (·.1.isSome) = true := by rfl) (hks : (backToKw pos (keywordEach kws X.env)).filterMap (·.1) = ks := by rfl) (hdb : (x == ("__debug__" : Str)) = false := by decide)
    (hpl : ((backTo pos (starEach [] X.env)).any (·.1) || (backToKw pos (keywordEach kws X.env)).any (·.1.isNone)) = false := by rfl) : PE X (.Call (.Name x p) [] kws pos) (tMakeK C 0 ks.length sp gV E tNil tk) := by
  obtain ⟨f, fd, g, mk, F, hm, b⟩ := M.ex
  exact pe_makeK0 mk F hr hg hm b hx hkw hall hks hdb hpl
end
end My
/-! raise C() of an own error class without own __init__. -/
namespace My
open PySem PySem.Spec PySem.Calls PyProof.Rows L2
section
variable {X : Cx} {C : Addr} {bmB : List Value} {B newId initId : String} {x : Str} {p pos : Pos}
theorem pmk_nil (F : ExcBaseFacts B newId initId bmB) (q : PySem.W.excIn X.K C bmB newId = true) (gC : X.mg x = some (.ref C)) (kC : PySem.W.keepIn X.K (.ref C) = true) (r : Raises X (.ref C)) (hg : Gl X x) (hdb : (x == ("__debug__" : Str)) = false := by decide) :
    PMk X (.Call (.Name x p) [] [] pos) (fun σ H Q => Q (.ref C) none H) := by
  intro pins s σ H Q I h
  refine wpAny_Call_Name_kw (ld_glob I hg gC ?_ hdb)
  refine PySem.W.callWith_K0 (first := []) I.kIn kC ?_
  show wpAny _ _ (call (.ref C) []) _ _ _
  obtain ⟨bm, N, nm, qn, bs, hdct, sn, sub, ab, col, dd, k0, k1, k2, k3, k5, mN, hC, hN, hni, T⟩ := exc_obj I.kIn q
  refine wpAny_call_exc_subT F T hC hN hni (fun h' e hm => ?_) (Nat.zero_le _)
  exact mk_of I hm r h (I.hok.gone hm.new)
end
end My
namespace My
/-! ### fractions in lowest terms -/
def sgcd (t b : Int) : Int := if b < 0 then -(Int.gcd t b : Int) else (Int.gcd t b : Int)
def lowT (t b : Int) : Int := t.fdiv (sgcd t b)
def lowB (t b : Int) : Int := b.fdiv (sgcd t b)
theorem gcd_posI {t b : Int} (h : b ≠ 0) : 0 < (Int.gcd t b : Int) := by
  have : 0 < Int.gcd t b := Int.gcd_pos_of_ne_zero_right t h
  omega
theorem sgcd_ne {t b : Int} (h : b ≠ 0) : sgcd t b ≠ 0 := by
  have := gcd_posI (t := t) h
  unfold sgcd
  split <;> omega
theorem sgcd_dvd_l (t b : Int) : sgcd t b ∣ t := by
  unfold sgcd
  split
  · exact Int.neg_dvd.mpr (Int.gcd_dvd_left ..)
  · exact Int.gcd_dvd_left ..
theorem sgcd_dvd_r (t b : Int) : sgcd t b ∣ b := by
  unfold sgcd
  split
  · exact Int.neg_dvd.mpr (Int.gcd_dvd_right ..)
  · exact Int.gcd_dvd_right ..
theorem fdiv_mul_of {a c : Int} (h : c ∣ a) : c * a.fdiv c = a := Int.mul_fdiv_cancel' h
theorem low_t (t b : Int) : sgcd t b * lowT t b = t := fdiv_mul_of (sgcd_dvd_l t b)
theorem low_b (t b : Int) : sgcd t b * lowB t b = b := fdiv_mul_of (sgcd_dvd_r t b)
theorem lowB_pos {t b : Int} (h : b ≠ 0) : 0 < lowB t b := by
  have e := low_b t b
  have g := gcd_posI (t := t) h
  by_cases hb : b < 0
  · have s : sgcd t b = -(Int.gcd t b : Int) := if_pos hb
    rw [s] at e
    rcases Int.lt_trichotomy (lowB t b) 0 with q | q | q
    · exfalso
      have := Int.mul_pos (a := (Int.gcd t b : Int)) (b := -lowB t b) g (by omega)
      rw [Int.mul_neg] at this
      rw [Int.neg_mul] at e
      omega
    · rw [q] at e; omega
    · exact q
  · have s : sgcd t b = (Int.gcd t b : Int) := if_neg hb
    rw [s] at e
    rcases Int.lt_trichotomy (lowB t b) 0 with q | q | q
    · exfalso
      have := Int.mul_pos (a := (Int.gcd t b : Int)) (b := -lowB t b) g (by omega)
      rw [Int.mul_neg] at this
      omega
    · rw [q] at e; omega
    · exact q
theorem sgcd_abs (t b : Int) : (sgcd t b).natAbs = Int.gcd t b := by
  unfold sgcd
  split <;> simp
theorem low_cop {t b : Int} (h : b ≠ 0) : Int.gcd (lowT t b) (lowB t b) = 1 := by
  have e1 := low_t t b
  have e2 := low_b t b
  have e3 : Int.gcd (sgcd t b * lowT t b) (sgcd t b * lowB t b) = (sgcd t b).natAbs * Int.gcd (lowT t b) (lowB t b) := Int.gcd_mul_left ..
  rw [e1, e2, sgcd_abs] at e3
  have g := gcd_posI (t := t) h
  have g' : 0 < Int.gcd t b := by omega
  exact Nat.eq_of_mul_eq_mul_left g' (by rw [Nat.mul_one]; exact e3.symm)
/-- the law's own way: by the sign and the divisor -/
theorem sgnT {t b : Int} (h : b ≠ 0) : ((if b > 0 then 1 else -1) * t).fdiv (Int.gcd t b : Int) = lowT t b := by
  have g := gcd_posI (t := t) h
  have e := low_t t b
  have key : ((if b > 0 then 1 else -1) * t) = (Int.gcd t b : Int) * lowT t b := by
    conv => lhs; rw [← e]
    unfold sgcd
    by_cases hb : b < 0
    · rw [if_pos hb, if_neg (show ¬ b > 0 by omega), Int.neg_mul, Int.neg_mul, Int.mul_neg, Int.neg_neg, Int.one_mul]
    · rw [if_neg hb, if_pos (show b > 0 by omega), Int.one_mul]
  rw [key, Int.mul_fdiv_cancel_left _ (by omega)]
theorem sgnB {t b : Int} (h : b ≠ 0) : ((if b > 0 then 1 else -1) * b).fdiv (Int.gcd t b : Int) = lowB t b := by
  have g := gcd_posI (t := t) h
  have e := low_b t b
  have key : ((if b > 0 then 1 else -1) * b) = (Int.gcd t b : Int) * lowB t b := by
    have e' : sgcd t b = (if b > 0 then 1 else -1) * (Int.gcd t b : Int) := by
      unfold sgcd
      by_cases hb : b < 0
      · rw [if_pos hb, if_neg (show ¬ b > 0 by omega), Int.neg_mul, Int.one_mul]
      · rw [if_neg hb, if_pos (show b > 0 by omega), Int.one_mul]
    rw [e'] at e
    by_cases hb : b < 0
    · rw [if_neg (show ¬ b > 0 by omega)] at e ⊢
      rw [Int.neg_mul, Int.one_mul] at e ⊢
      rw [Int.neg_mul] at e
      omega
    · rw [if_pos (show b > 0 by omega)] at e ⊢
      rw [Int.one_mul] at e ⊢
      omega
  rw [key, Int.mul_fdiv_cancel_left _ (by omega)]
theorem cop_dvd {n d m : Int} (h : Int.gcd n d = 1) (k : d ∣ n * m) : d ∣ m := by
  have h1 : d.natAbs ∣ n.natAbs * m.natAbs := by
    rw [← Int.natAbs_mul]
    exact Int.natAbs_dvd_natAbs.mpr k
  have h2 : Nat.Coprime d.natAbs n.natAbs := by
    show Nat.gcd _ _ = 1
    rw [Nat.gcd_comm]
    exact h
  exact Int.natAbs_dvd_natAbs.mp (h2.dvd_of_dvd_mul_left h1)
theorem low_only {n1 d1 n2 d2 : Int} (p1 : 0 < d1) (p2 : 0 < d2) (c1 : Int.gcd n1 d1 = 1) (c2 : Int.gcd n2 d2 = 1) (h : n1 * d2 = n2 * d1) : n1 = n2 ∧ d1 = d2 := by
  have e1 : d1 ∣ d2 := cop_dvd c1 (by rw [h]; exact Int.dvd_mul_left ..)
  have e2 : d2 ∣ d1 := cop_dvd c2 (by rw [← h]; exact Int.dvd_mul_left ..)
  have e : d1 = d2 := Int.le_antisymm (Int.le_of_dvd p2 e1) (Int.le_of_dvd p1 e2)
  subst e
  exact ⟨Int.eq_of_mul_eq_mul_right (by omega) h, rfl⟩
theorem low_cross {t b : Int} : lowT t b * b = lowB t b * t := by
  have e1 := low_t t b
  have e2 := low_b t b
  calc lowT t b * b = lowT t b * (sgcd t b * lowB t b) := by rw [e2]
    _ = lowB t b * (sgcd t b * lowT t b) := by simp only [Int.mul_comm, Int.mul_left_comm]
    _ = lowB t b * t := by rw [e1]
/-- equal fractions have the same lowest terms -/
theorem low_eq {t1 b1 t2 b2 : Int} (h1 : b1 ≠ 0) (h2 : b2 ≠ 0) (h : t1 * b2 = t2 * b1) : lowT t1 b1 = lowT t2 b2 ∧ lowB t1 b1 = lowB t2 b2 := by
  refine low_only (lowB_pos h1) (lowB_pos h2) (low_cop h1) (low_cop h2) ?_
  have s1 := sgcd_ne (t := t1) h1
  have s2 := sgcd_ne (t := t2) h2
  have a1 := low_t t1 b1
  have a2 := low_b t1 b1
  have a3 := low_t t2 b2
  have a4 := low_b t2 b2
  have q : (sgcd t1 b1 * sgcd t2 b2) * (lowT t1 b1 * lowB t2 b2) = (sgcd t1 b1 * sgcd t2 b2) * (lowT t2 b2 * lowB t1 b1) := by
    calc (sgcd t1 b1 * sgcd t2 b2) * (lowT t1 b1 * lowB t2 b2) = (sgcd t1 b1 * lowT t1 b1) * (sgcd t2 b2 * lowB t2 b2) := by grind
      _ = t1 * b2 := by rw [a1, a4]
      _ = t2 * b1 := h
      _ = (sgcd t2 b2 * lowT t2 b2) * (sgcd t1 b1 * lowB t1 b1) := by rw [a3, a2]
      _ = _ := by grind
  exact Int.eq_of_mul_eq_mul_left (Int.mul_ne_zero s1 s2) q
theorem low_self {n d : Int} (p : 0 < d) (c : Int.gcd n d = 1) : lowT n d = n ∧ lowB n d = d := by
  have h : d ≠ 0 := by omega
  exact low_only (lowB_pos h) p (low_cop h) c (by rw [low_cross, Int.mul_comm])
theorem lowT_abs {t b : Int} (h : b ≠ 0) : (lowT t b).natAbs ≤ t.natAbs := by
  have e := congrArg Int.natAbs (low_t t b)
  rw [Int.natAbs_mul] at e
  have s : 0 < (sgcd t b).natAbs := Int.natAbs_pos.mpr (sgcd_ne h)
  rw [← e]
  exact Nat.le_mul_of_pos_left _ s
theorem lowB_abs {t b : Int} (h : b ≠ 0) : (lowB t b).natAbs ≤ b.natAbs := by
  have e := congrArg Int.natAbs (low_b t b)
  rw [Int.natAbs_mul] at e
  have s : 0 < (sgcd t b).natAbs := Int.natAbs_pos.mpr (sgcd_ne h)
  rw [← e]
  exact Nat.le_mul_of_pos_left _ s
theorem sgcd_le {t b : Int} (h : b ≠ 0) : (sgcd t b).natAbs ≤ b.natAbs := by
  have e := congrArg Int.natAbs (low_b t b)
  rw [Int.natAbs_mul] at e
  have s : 0 < (lowB t b).natAbs := Int.natAbs_pos.mpr (by have := lowB_pos (t := t) h; omega)
  rw [← e]
  exact Nat.le_mul_of_pos_right _ s
theorem gcd_le_r {t b : Int} (h : b ≠ 0) : Int.gcd t b ≤ b.natAbs := by
  rw [← sgcd_abs]
  exact sgcd_le h
theorem lowT_zero {t b : Int} (h : b ≠ 0) : lowT t b = 0 ↔ t = 0 := by
  constructor
  · intro e
    have := low_t t b
    rw [e, Int.mul_zero] at this
    exact this.symm
  · rintro rfl
    have := low_t 0 b
    rcases Int.mul_eq_zero.mp this with q | q
    · exact absurd q (sgcd_ne h)
    · exact q
/-- a fraction turned over that equals itself -/
theorem turned {n d : Int} (p : 0 < d) (c : Int.gcd n d = 1) (hn : n ≠ 0) (e2 : lowB d n = d) : n.natAbs = d.natAbs := by
  have g : Int.gcd d n = 1 := by rw [Int.gcd_comm]; exact c
  have b := low_b d n
  have s : (sgcd d n).natAbs = 1 := by rw [sgcd_abs, g]
  have := congrArg Int.natAbs b
  rw [Int.natAbs_mul, s, Nat.one_mul, e2] at this
  exact this.symm
/-- one turn of Euclid's way -/
theorem gcd_turn {a b : Int} (ha : 0 ≤ a) (hb : 0 ≤ b) : Int.gcd b (a.fmod b) = Int.gcd a b := by
  rw [Int.fmod_eq_emod_of_nonneg _ hb]
  unfold Int.gcd
  rw [Int.natAbs_emod_of_nonneg ha, Nat.gcd_comm, Nat.gcd_comm a.natAbs, ← Nat.gcd_rec]
theorem fmod_bd {a b : Int} (hb : 0 < b) : 0 ≤ a.fmod b ∧ a.fmod b < b := by
  rw [Int.fmod_eq_emod_of_nonneg _ (by omega)]
  exact ⟨Int.emod_nonneg _ (by omega), Int.emod_lt_of_pos _ hb⟩
theorem gcd_absI (a b : Int) : Int.gcd (if a < 0 then -a else a) (if b < 0 then -b else b) = Int.gcd a b := by
  unfold Int.gcd
  congr 1 <;> split <;> simp
end My
/-! Values of other kinds, ints shown, what stays where the pen and the tables change. -/
namespace My
open PySem PySem.Spec PyProof.Rows L2
/-! ### values of other kinds -/
/-- the built-in kind of a value -/
inductive Ty0 (H : Hp) : V → String → Prop where
  | non : Ty0 H .non "NoneType"
  | bl (b : Bool) : Ty0 H (.bl b) "bool"
  | int (i : Int) : Ty0 H (.int i) "int"
  | str (x : Str) : Ty0 H (.str x) "str"
  | lst {a : Addr} {xs : List V} (e : H a = some (.lst xs)) : Ty0 H (.ref a) "list"
  | tup {a : Addr} {xs : List V} (e : H a = some (.tup xs)) : Ty0 H (.ref a) "tuple"
  | dK {a : Addr} {kvs : List (Key × V)} (e : H a = some (.dK kvs)) : Ty0 H (.ref a) "dict"
theorem Ty0.tyx {K : PySem.W.Frag} {H : Hp} {v : V} {t : String} (h : Ty0 H v t) : TyX K H v (.type t) := by
  cases h with
  | non => exact .base .non
  | bl b => exact .base (.bl b)
  | int i => exact .base (.int i)
  | str x => exact .base (.str x)
  | lst e => exact .base (.lst e)
  | tup e => exact .base (.tup e)
  | dK e => exact .base (.dK e)
def isI : V → Bool
  | .int _ => true
  | _ => false
theorem isI_int {v : V} (h : isI v = true) : ∃ i, v = .int i := by
  cases v with
  | int i => exact ⟨i, rfl⟩
  | _ => cases h
def isT (t : String) : Bool := t == "int"
theorem Ty0.isI {H : Hp} {v : V} {t : String} (h : Ty0 H v t) : My.isI v = isT t := by cases h <;> rfl
theorem Ty0.kint {K : PySem.W.Frag} {H : Hp} {v : V} {t : String} (h : Ty0 H v t) : ∃ b, PySem.W.kitOne K (.type t) (.type "int") = some b ∧ (b = true → ∃ c, PySem.W.kitOne K (.type t) (.type "bool") = some c ∧ My.isI v = !c) ∧ (b = false → My.isI v = false) := by
  cases h with
  | non => exact ⟨false, kit_ty (by decide +kernel), (fun z => Bool.noConfusion z), fun _ => rfl⟩
  | bl b => exact ⟨true, kit_ty (by decide +kernel), fun _ => ⟨true, kit_ty (by decide +kernel), rfl⟩, (fun z => Bool.noConfusion z)⟩
  | int i => exact ⟨true, kit_ty (by decide +kernel), fun _ => ⟨false, kit_ty (by decide +kernel), rfl⟩, (fun z => Bool.noConfusion z)⟩
  | str x => exact ⟨false, kit_ty (by decide +kernel), (fun z => Bool.noConfusion z), fun _ => rfl⟩
  | lst e => exact ⟨false, kit_ty (by decide +kernel), (fun z => Bool.noConfusion z), fun _ => rfl⟩
  | tup e => exact ⟨false, kit_ty (by decide +kernel), (fun z => Bool.noConfusion z), fun _ => rfl⟩
  | dK e => exact ⟨false, kit_ty (by decide +kernel), (fun z => Bool.noConfusion z), fun _ => rfl⟩
theorem Ty0.keep {H H' : Hp} {v : V} {t : String} (h : Ty0 H v t) (k : ∀ b o, H b = some o → (∀ p, v = .ref p → p = b → H' b = some o)) : Ty0 H' v t := by
  cases h with
  | non => exact .non
  | bl b => exact .bl b
  | int i => exact .int i
  | str x => exact .str x
  | lst e => exact .lst (k _ _ e _ rfl rfl)
  | tup e => exact .tup (k _ _ e _ rfl rfl)
  | dK e => exact .dK (k _ _ e _ rfl rfl)
theorem Ty0.same {H H' : Hp} {v : V} {t : String} (h : Ty0 H v t) (k : Same H H') : Ty0 H' v t := h.keep fun b o e _ _ _ => k b o e
theorem same_new {H : Hp} {p : Addr} {o : HO} (h : H p = none) : Same H (upd H p o) := fun b u e => by rw [upd_ne (ne_of_none e h)]; exact e
/-- a value of a built-in kind, or an instance of the class at C -/
def TyL (C : Addr) (H : Hp) (v : V) : Prop := (∃ t, Ty0 H v t) ∨ ∃ a dx fs, v = .ref a ∧ H a = some (.ins C dx fs)
theorem TyL.same {C : Addr} {H H' : Hp} {v : V} (h : TyL C H v) (k : Same H H') : TyL C H' v := by
  rcases h with ⟨t, h⟩ | ⟨a, dx, fs, e, h⟩
  · exact .inl ⟨t, h.same k⟩
  · exact .inr ⟨a, dx, fs, e, k _ _ h⟩
theorem TyL.int (C : Addr) (H : Hp) (i : Int) : TyL C H (.int i) := .inl ⟨_, .int i⟩
theorem pen_ne {H : Hp} {pn l : Addr} {n : Nat} (hp : PenAt H pn n) (hl : H l = none) : l ≠ pn := by
  obtain ⟨cl, ns, a, r, g1, _⟩ := hp
  exact (ne_of_none g1 hl).symm
theorem but_same {pn : Addr} {H H' : Hp} (s : Same H H') : But pn H H' := fun b o e _ => s b o e
theorem pen_same {pn : Addr} {H H' : Hp} {n : Nat} (hp : PenAt H pn n) (k : Same H H') : PenAt H' pn n := by
  obtain ⟨cl, ns, a, r, g1, g2, g3⟩ := hp
  exact ⟨cl, ns, a, r, k _ _ g1, k _ _ g2, g3⟩
theorem mem_ints {v : V} {zs : List Int} (h : v ∈ zs.map V.int) : ∃ z, v = .int z ∧ z ∈ zs := by
  obtain ⟨z, hz, e⟩ := List.mem_map.mp h
  exact ⟨z, e.symm, hz⟩
theorem num_len {i : Int} (h : i.natAbs.log2 < 1920) : ((toString i : String) : Str).length ≤ 1921 := by
  have e := int_text_length_le (k := 1920) (by decide) h
  show (Str.ofString (toString i)).length ≤ 1921
  rw [PySem.ofString_length]
  exact e
theorem app_len (x y : Str) : (x ++ y).length = x.length + y.length := PySem.Str.length_append x y
/-- an int of less than 300 bits -/
def Sm (z : Int) : Prop := z.natAbs < 2 ^ 300
theorem Sm.mul {a b : Int} {i j : Nat} (ha : a.natAbs < 2 ^ i) (hb : b.natAbs < 2 ^ j) (h0 : 0 < i := by decide) (h1 : 0 < j := by decide) (h : i + j ≤ 1000000 := by decide) : CMulW a b := wide_mul ha hb h0 h1 h
theorem Sm.log {z : Int} (h : Sm z) : z.natAbs.log2 < 1920 := Nat.lt_of_lt_of_le (PySem.Flt.log2_lt_of (k := 300) (by decide) h) (by decide)
theorem shown_sum : ∀ (ns : List Int), (∀ z ∈ ns, z.natAbs.log2 < 1920) → ((PyData.shownAll (ns.map PyData.int)).map (·.length)).sum ≤ 1921 * ns.length ∧ (PyData.shownAll (ns.map PyData.int)).length = ns.length
  | [], _ => ⟨Nat.le_refl _, rfl⟩
  | n :: ns, h => by
    obtain ⟨h1, h2⟩ := shown_sum ns fun z hz => h z (List.mem_cons_of_mem _ hz)
    have e2 := num_len (h n List.mem_cons_self)
    refine ⟨?_, ?_⟩
    · show ((toString n : String) : Str).length + ((PyData.shownAll (ns.map PyData.int)).map (·.length)).sum ≤ 1921 * (ns.length + 1)
      omega
    · show (PyData.shownAll (ns.map PyData.int)).length + 1 = ns.length + 1
      omega
theorem showable_ints : ∀ (ns : List Int), (∀ z ∈ ns, z.natAbs.log2 < 1920) → PyData.showableAll (ns.map PyData.int) = true
  | [], _ => rfl
  | n :: ns, h => by
    show (decide (n.natAbs.log2 < 1920) && PyData.showableAll (ns.map PyData.int)) = true
    rw [showable_ints ns fun z hz => h z (List.mem_cons_of_mem _ hz), decide_eq_true (h n List.mem_cons_self)]
    rfl
/-- a list of ints shown -/
theorem ints_show {K : PySem.W.Frag} {H : Hp} {l : Addr} (ns : List Int) (hz : ∀ z ∈ ns, z.natAbs.log2 < 1920) (hl : ns.length ≤ 1000) (h : H l = some (.lst (ns.map V.int))) : Dr K H (.ref l) (.list (ns.map PyData.int)) ∧ (PyData.list (ns.map PyData.int)).showable = true ∧ (PyData.list (ns.map PyData.int)).depth ≤ 60 ∧ (PyData.list (ns.map PyData.int)).shown.length ≤ sizeLine := by
  refine ⟨.inl (.lst (SqL.of h) (dp_ints ns)), showable_ints ns hz, ?_, ?_⟩
  · show PyData.depthAll (ns.map PyData.int) + 1 ≤ 60
    rw [dep_ints]
    decide
  · have h1 := listText_len_le (PyData.shownAll (ns.map PyData.int))
    obtain ⟨h2, h3⟩ := shown_sum ns hz
    show (listText (PyData.shownAll (ns.map PyData.int))).length ≤ sizeLine
    rw [sizeLine_eq]
    omega
theorem yes_go {σ : L2.St} {H : Hp} {A B : Hp → Prop} (h : A H) : tYes σ H (fun b H3 => if b = true then A H3 else B H3) := by
  show (if true = true then A H else B H)
  rw [if_pos rfl]
  exact h
theorem take1 {α : Type} {ls : List α} {i : Nat} {y : α} (h : ls[i]? = some y) : ls.take (i + 1) = ls.take i ++ [y] := by rw [List.take_add_one, h]; rfl
theorem at_int {ls : List Int} {i : Nat} {v : V} (h : (ls.map V.int)[i]? = some v) : ∃ y, ls[i]? = some y ∧ v = .int y := by
  rw [List.getElem?_map] at h
  cases e : ls[i]? with
  | none => rw [e] at h; cases h
  | some y => rw [e] at h; cases h; exact ⟨y, rfl, rfl⟩
/-! ### tables of code objects, the pen, and all else -/
/-- all but the pen and the tables stays, the tables are tables -/
structure Kp (pn : Addr) (TS : List (Addr × Str)) (H H' : Hp) : Prop where
  keep : ∀ b o, H b = some o → b ≠ pn → (∀ ps, o ≠ .tbl ps) → H' b = some o
  tabs : LamX.Tabs TS H'
theorem Kp.trans {pn : Addr} {TS : List (Addr × Str)} {H H1 H2 : Hp} (a : Kp pn TS H H1) (b : Kp pn TS H1 H2) : Kp pn TS H H2 := ⟨fun c o h n m => b.keep c o (a.keep c o h n m) n m, b.tabs⟩
theorem tabs_but {pn : Addr} {TS : List (Addr × Str)} {H H' : Hp} {n : Nat} (t : LamX.Tabs TS H) (hp : PenAt H pn n) (k : But pn H H') : LamX.Tabs TS H' := fun p hp' => by
  obtain ⟨ps, h1, h2, h3⟩ := t p hp'
  obtain ⟨cl, ns, a, r, g1, _⟩ := hp
  refine ⟨ps, k _ _ h1 (ne_of h1 g1 (by intro z; cases z)), h2, fun pos cv hc => ?_⟩
  obtain ⟨c, e1, e2⟩ := h3 pos cv hc
  exact ⟨c, e1, k _ _ e2 (ne_of e2 g1 (by intro z; unfold LamX.CodeO at z; cases z))⟩
theorem Kp.but {pn : Addr} {TS : List (Addr × Str)} {H H' : Hp} {n : Nat} (t : LamX.Tabs TS H) (hp : PenAt H pn n) (k : But pn H H') : Kp pn TS H H' := ⟨fun b o h nb _ => k b o h nb, tabs_but t hp k⟩
theorem Kp.same {pn : Addr} {TS : List (Addr × Str)} {H H' : Hp} (t : LamX.Tabs TS H) (k : Same H H') : Kp pn TS H H' := ⟨fun b o h _ _ => k b o h, t.ext k⟩
theorem Kp.ext {pn : Addr} {TS : List (Addr × Str)} {H H' : Hp} (t : LamX.Tabs TS H') (k : LamX.ExtN H H') : Kp pn TS H H' := ⟨fun b o h _ m => k b o h m, t⟩
theorem pen_ext {pn : Addr} {H H' : Hp} {n : Nat} (hp : PenAt H pn n) (k : LamX.ExtN H H') : PenAt H' pn n := by
  obtain ⟨cl, ns, a, r, g1, g2, g3⟩ := hp
  exact ⟨cl, ns, a, r, k _ _ g1 (by intro ps z; cases z), k _ _ g2 (by intro ps z; cases z), g3⟩
/-- a def whose code object stands at c -/
structure FunC (K : PySem.W.Frag) (x qual : Str) (st : Stmt) (f : Addr) (fd : FuncData) (c : Addr) : Prop where
  ex : ∃ (oc : Value) (od : Option Addr) (kV doc pm : Value) (an : Option Addr) (ct : Value) (osl : Array (Option Value)),
    fd = PySem.W.fnOf x qual (defArgs st) (defBody st) (defScope st) .none kV doc pm an (.ref c) ct ∧ K.lookup f = some ⟨oc, od, .func fd, osl⟩ ∧ PySem.W.codeIn K (.ref c) qual = true
  kp : PySem.W.keepIn K (.ref f) = true
theorem okGc {P : Program} {w : World} {K : PySem.W.Frag} {mg : Str → Option Value} {base : Heap} {x qual : Str} {st : Stmt} {f c : Addr} {fd : FuncData} {N ps : List Str} {k : Nat} {sp : Sp} (F : FunC K x qual st f fd c) (S : FnScope N ps (defScope st)) (len : ∀ vs H Q E, sp vs H Q E → vs.length = ps.length)
    (hbody : ∀ (A : Around) (outer : List Env) (s : Shared) (H : Hp) (vs : List V) (Q : VK) (E : XK), A.guards = some [] → Room k (A.deeper (envOfC qual (defScope st) s.heap.objs.size f (.ref c))) → sp vs H Q E →
      ∃ t, PSs (cxOf CX0 P w K mg base N qual (defScope st) f (.ref c) A outer s H E).nox (defBody st) t ∧ t { nx := fun _ H' => Q .non H', rt := Q } (start N vs) H) : FnG P w K mg base CX0 (k + 1) f fd ps sp := by
  obtain ⟨oc, od, kV, doc, pm, an, ct, osl, rfl, lk, hcd⟩ := F.ex
  refine ⟨len, fun A outer s H args us vs Q E hg hr e0 hb r hsp => LamX.run_ofS lk hcd S hr e0 hb r (len _ _ _ _ hsp) fun hr' => ?_⟩
  obtain ⟨t, h, q⟩ := hbody A outer s H vs Q E hg hr' hsp
  exact ⟨t, h.nox, q⟩
theorem ty_ext {H H' : Hp} {v : V} {t : String} (h : Ty0 H v t) (k : LamX.ExtN H H') : Ty0 H' v t := by
  cases h with
  | non => exact .non
  | bl b => exact .bl b
  | int i => exact .int i
  | str x => exact .str x
  | lst e => exact .lst (k _ _ e (by intro ps z; cases z))
  | tup e => exact .tup (k _ _ e (by intro ps z; cases z))
  | dK e => exact .dK (k _ _ e (by intro ps z; cases z))
theorem ext_same {H H' : Hp} (s : Same H H') : LamX.ExtN H H' := fun b o h _ => s b o h
theorem ext_put {Ha Hx : Hp} {lh : Addr} {o : HO} (n : Ha lh = none) (x : LamX.ExtN Ha Hx) : LamX.ExtN Ha (upd Hx lh o) := fun b u e m => by
  rw [upd_ne (ne_of_none e n)]
  exact x b u e m
theorem tabs_put {TS : List (Addr × Str)} {H : Hp} {lh : Addr} {xs : List V} {o : HO} (t : LamX.Tabs TS H) (h : H lh = some (.lst xs)) : LamX.Tabs TS (upd H lh o) := fun p hp => by
  obtain ⟨ps, h1, h2, h3⟩ := t p hp
  refine ⟨ps, by rw [upd_ne (ne_of h1 h (by intro z; cases z))]; exact h1, h2, fun pos cv hc => ?_⟩
  obtain ⟨c, e1, e2⟩ := h3 pos cv hc
  exact ⟨c, e1, by rw [upd_ne (ne_of e2 h (by intro z; unfold LamX.CodeO at z; cases z))]; exact e2⟩
theorem TyL.ext {C : Addr} {H H' : Hp} {v : V} (h : TyL C H v) (k : LamX.ExtN H H') : TyL C H' v := by
  rcases h with ⟨t, h⟩ | ⟨a, dx, fs, e, h⟩
  · exact .inl ⟨t, ty_ext h k⟩
  · exact .inr ⟨a, dx, fs, e, k _ _ h (by intro ps z; cases z)⟩
end My
/-! int == an instance; bool(x), abs(x) of an instance; // and % of an int by an instance. -/
namespace My
open PySem PySem.Spec PySem.Calls PyProof.Rows L2
theorem is_fdv {K : PySem.W.Frag} : IntSlot K (Operator.info .FloorDiv).2 "int.__floordiv__" Builtin.«int.__floordiv__» := ⟨PySem.F.slot_int_floordiv, PySem.F.entry_int_floordiv, PySem.F.args_int_floordiv_2, dec_floordiv⟩
theorem is_mod {K : PySem.W.Frag} : IntSlot K (Operator.info .Mod).2 "int.__mod__" Builtin.«int.__mod__» := ⟨PySem.F.slot_int_mod, PySem.F.entry_int_mod, PySem.F.args_int_mod_2, dec_mod⟩
section
open PySem.W
variable {prog : Program} {w : World} {A : Around} {E : Value → Shared → Prop} {s : Shared} {K : Frag} {x C L f : Addr} {h₀ : Heap} {m : Str → Option Value} {ox : Obj} {od : Option Obj}
theorem bool_call {Q : Value → Shared → Prop} (F : Fr h₀ L s.heap m) (X₀ : K.In h₀) (I : InstAt s.heap x ox C od) (hs : findIn K (.ref C) "__bool__" = some (some (.ref f))) (hf : isFn K (.ref f) = true)
    (h : wpAny (model prog w) A.in1.in1 (call (.ref f) [.ref x]) (PySem.W.BoolBack fun b s' => Q (.bool b) s') E s) : wpAny (model prog w) A (call (.type "bool") [.ref x]) Q E s := by
  refine callType_codes (T := "bool") (Bi := Builtin.«object.__init__») (Q₁ := fun r s' => ∃ b, r = .bool b ∧ Q r s') PySem.F.called_bool (PySem.F.typeCall_bool_1 _) PySem.F.entry_object_init ?_ ?_
  · refine codeAny_of_tree ?_
    show wpAny _ A.in1.in1 (do checkBuiltinCall "bool.__new__" ⟨[.type "bool", .ref x], []⟩; again (.builtin "bool.__new__" ⟨[.type "bool", .ref x], []⟩)) _ _ s
    refine wpAny_bind (wpAny_of_eq (PySem.F.newCall_bool_1 _) (wpAny_pure ⟨plainId_quiet (by decide +kernel) _, codeAny_builtin PySem.F.entry_bool_new ?_⟩))
    rw [Around.under_plainId (by decide +kernel) _]
    unfold Builtin.«bool.__new__»
    have f1 := PySem.F.conv_sub_bool
    have go : wpAny (model prog w) A.in1.in1 (truthy (.ref x)) (fun b s' => Q (.bool b) s') E s := truthy_K F X₀ I hs hf h
    refine wpAny_bind (m := isType (.type "bool")) (wpAny_pure ?_)
    refine wpAny_bind (m := isSubtype (.type "bool") (.type "bool")) (wpAny_of_eq f1 ?_)
    refine wpAny_bind (wpAny_pure ?_)
    refine wpAny_bind (m := truthy (.ref x)) (wpAny_mono go (fun b s' hq => ?_) fun _ _ y => y)
    exact wpAny_pure ⟨b, rfl, hq⟩
  · rintro obj s' ⟨b, rfl, hq⟩
    exact ⟨PySem.typeIs_bool _ _, PySem.F.args_object_init_2 _ _, object_init_meets PySem.F.called_bool.init.lookup PySem.F.called_bool.made (by decide) prog w A.in1 _ s' ⟨PySem.typeIs_bool _ _, rfl, hq⟩⟩
theorem abs_call {Q : Value → Shared → Prop} (X : K.In s.heap) (I : InstAt s.heap x ox C od) (hs : findIn K (.ref C) "__abs__" = some (some (.ref f))) (hf : isFn K (.ref f) = true)
    (h : wpAny (model prog w) A.in1 (call (.ref f) [.ref x]) Q E s) : wpAny (model prog w) A (call (.builtin "abs") [.ref x]) Q E s := by
  refine call_function_entry kind_abs plain_abs entry_abs (args_abs _) ?_
  unfold Builtin.«abs»
  refine wpAny_bind (m := oneArg "abs" _) (wpAny_pure ?_)
  refine wpAny_bind (m := callSpecial? (.ref x) (Str.ofString "__abs__")) (special_fn X I hs (beq_iff_eq.mp hf) (wpAny_mono h (fun r s' hr => ?_) fun _ _ y => y))
  exact wpAny_pure ⟨_, rfl, hr⟩
end
section
variable {X : Cx} {CX : CXT} {k : Nat} {C : Addr} {ps : List Str} {sp : Sp} {E : XK}
theorem op_eqR (M : CmpAt X.prog X.w X.K X.mg X.base CX k C "__eq__" ps sp) (su : PySem.W.subIn X.K (.ref C) (.type "int") = some false) (hr : Room k X.A) (hx : Passes CX X E) : OpR X (compareOp .Eq) (rCmpR C sp E) := op_cmpRv M su hr hx rfl (fun _ _ => rfl) (fun _ _ _ => rfl) PySem.F.slot_int_eq PySem.F.entry_int_eq PySem.F.args_int_eq_2 dec_eq
/-- bool(x) of an instance with its own __bool__ -/
def rBoolO (C : Addr) (sp : Sp) (E : XK) : List V → Hp → VK → Prop := fun xs H Q => ∃ a dx fs, xs = [.ref a] ∧ H a = some (.ins C dx fs) ∧ sp [.ref a] H (fun v H' => ∃ b, v = .bl b ∧ Q v H') E
theorem call_boolO (M : CmpAt X.prog X.w X.K X.mg X.base CX k C "__bool__" ps sp) (hr : Room (k + 2) X.A) (hx : Passes CX X E) : CallR X (.type "bool") (rBoolO C sp E) := by
  intro pins s σ H xs us Q I r h
  obtain ⟨f, fd, hs, hf, F, hb⟩ := M.ex
  obtain ⟨a, dx, fs, rfl, ha, hsp⟩ := h
  obtain ⟨u, rfl, r1⟩ := vals1 r
  obtain rfl : u = Value.ref a := r1
  obtain ⟨ox, od, J, _⟩ := ins_plain I ha
  obtain ⟨m', hF⟩ := I.fr
  have U : Und X k X.A.in1.in1 := (Und.here hr).in1.in1
  refine bool_call hF I.ok.mod.kin J hs hf (wpAny_mono (run_at (vs := [.ref a]) F hb hx U I (.cons rfl .nil) hsp) (fun v s' z => ?_) fun _ _ z => z)
  obtain ⟨z, H', I', rz, b, rfl, q⟩ := z
  cases (show v = Value.bool b from rz)
  exact ⟨.bl b, H', I', rfl, q⟩
/-- abs(x) of an instance with its own __abs__ -/
def rAbsO (C : Addr) (sp : Sp) (E : XK) : List V → Hp → VK → Prop := fun xs H Q => ∃ a dx fs, xs = [.ref a] ∧ H a = some (.ins C dx fs) ∧ sp [.ref a] H Q E
theorem call_absO (M : CmpAt X.prog X.w X.K X.mg X.base CX k C "__abs__" ps sp) (hr : Room (k + 1) X.A) (hx : Passes CX X E) : CallR X (.builtin "abs") (rAbsO C sp E) := by
  intro pins s σ H xs us Q I r h
  obtain ⟨f, fd, hs, hf, F, hb⟩ := M.ex
  obtain ⟨a, dx, fs, rfl, ha, hsp⟩ := h
  obtain ⟨u, rfl, r1⟩ := vals1 r
  obtain rfl : u = Value.ref a := r1
  obtain ⟨ox, od, J, _⟩ := ins_plain I ha
  have U : Und X k X.A.in1 := (Und.here hr).in1
  exact abs_call I.kIn J hs hf (run_at (vs := [.ref a]) F hb hx U I (.cons rfl .nil) hsp)
end
end My
/-! try with several except clauses, some of them «as n». -/
namespace My
open PySem PySem.Spec PyProof.Rows L2
/-- one clause: its class, what its suite is read as, the slot of its name -/
structure Cls1 where
  c : Value
  i : Option Nat
  ts : Addr → Value → Option Addr → TS
def behind (i : Option Nat) (D : Ends) : Ends := match i with
  | none => D
  | some i => { nx := fun σ H => D.nx (σ.set i none) H, rt := D.rt, bk := fun σ H => D.bk (σ.set i none) H, ct := fun σ H => D.ct (σ.set i none) H }
def within (i : Option Nat) (a : Addr) (σ : L2.St) : L2.St := match i with
  | none => σ
  | some i => σ.set i (some (.ref a))
/-- what the clauses wish of an error of the body -/
def wMix (K : PySem.W.Frag) (n : Nat) (Wout : WX) (D : Ends) : List Cls1 → WX
  | [] => Wout
  | q :: r => fun cls d σ H => ∃ b, PySem.W.exmOne K cls q.c = some b ∧ (b = true → ∀ a, H a = none → σ.length = n → q.ts a cls d (behind q.i D) (within q.i a σ) H) ∧ (b = false → wMix K n Wout D r cls d σ H)
inductive Mixed (X : Cx) : List ExceptHandler → List Cls1 → Prop
  | nil : Mixed X [] []
  | bare {x : Str} {c : Value} {ts : Addr → Value → Option Addr → TS} {st : Stmt} {suite : List Stmt} {np pos : Pos} {hds : List ExceptHandler} {l : List Cls1} (hc : Names X x c)
      (hsu : ∀ (a : Addr) (oe : Obj) (cls : Value) (d : Option Addr) (pn : List (Addr × Obj)), Zc cls d oe → (∃ vs, oe.data = .fields vs) → PSs (X.suite a ((a, oe) :: pn)) (st :: suite) (ts a cls d)) (r : Mixed X hds l) :
      Mixed X (.ExceptHandler (some (.Name x np)) none (st :: suite) pos :: hds) (⟨c, none, ts⟩ :: l)
  | named {x n : Str} {c : Value} {i : Nat} {ts : Addr → Value → Option Addr → TS} {st : Stmt} {suite : List Stmt} {np pos : Pos} {hds : List ExceptHandler} {l : List Cls1} (hc : Names X x c) (hi : X.N[i]? = some n) (hl : X.env.kindOf n = some .local)
      (hsu : ∀ (a : Addr) (oe : Obj) (cls : Value) (d : Option Addr) (pn : List (Addr × Obj)), Zc cls d oe → (∃ vs, oe.data = .fields vs) → PSs (X.suite a ((a, oe) :: pn)) (st :: suite) (ts a cls d)) (r : Mixed X hds l) :
      Mixed X (.ExceptHandler (some (.Name x np)) (some n) (st :: suite) pos :: hds) (⟨c, some i, ts⟩ :: l)
section
variable {X : Cx} {body : List Stmt} {hd1 : ExceptHandler} {hds : List ExceptHandler} {l : List Cls1} {pos : Pos} {tb : WX → TS} {Wout : WX}
theorem ps_try_mix (hs : X.stack = X.env :: X.outer) (hf : X.env.frame = some X.env.locals) (hN : X.N.Nodup) (tk : Takes X Wout)
    (hb : ∀ (W : WX) (pn : List (Addr × Obj)) (xe : Value → Shared → Prop), Takes (X.tr pn xe) W → PassesOwn (model X.prog X.w) X.A X.env xe → PSs (X.tr pn xe) body (tb W)) (hh : Mixed X (hd1 :: hds) l) :
    PS X (.Try body (hd1 :: hds) [] [] pos) (fun D σ H => tb (wMix X.K X.N.length Wout D l) D σ H) := by
  refine ⟨fun pins s σ H D I h => ?_⟩
  have ok := I.ok
  have hfr : X.A.frames = some (X.env :: X.outer) := by rw [ok.frames, hs]
  refine wpAny_Try_except ?_
  refine wpAny_mono ((hb (wMix X.K X.N.length Wout D l) (X.pn ++ pins) (fun e t1 => wpAny (model X.prog X.w) X.A (noteFrame e X.env) (fun _ t2 => wpAny (model X.prog X.w) X.A (setFlight e none) (fun _ t3 =>
    wpAny (model X.prog X.w) X.A (handleBy e X.env (hd1 :: hds)) (SP X pins D) X.xe t3) X.xe t2) X.xe t1) (fun u s' xx => ?_) PassesOwn.looking).run [] s σ H D (I.toTry _) h) (fun fl t1 hsp => ?_) (fun _ _ he => he)
  · obtain ⟨a, B, sI, pins', σ1, H1, cls, d, rfl, J0, nb, up, sky, na, os, ag, wish⟩ := xx
    have J : Inv X pins σ1 H1 sI := J0.ofTry ok
    have sky1 : Sky B (X.env :: X.outer) a (Zc cls d) X.env.locals s'.heap := by rw [← hs]; exact sky
    show wpAny (model X.prog X.w) X.A (noteFrame (.ref a) X.env) _ _ _
    refine Sky.land Zc.steady hfr hf sky1 fun h3 fl3 up3 => ?_
    have J3 : Inv X pins σ1 H1 { s' with heap := h3 } := J.landed nb fl3.1 (up.trans up3) os ag
    obtain ⟨oe3, vs3, he3, hz3, hd3⟩ := fl3.there
    have nfr : a ∉ frs (X.env :: X.outer) := fun hm => by
      obtain ⟨_, o', e', hnf⟩ := fl3.2.2.1.mem hm
      rw [he3] at e'
      cases e'
      exact hnf _ hd3
    have nL : a ≠ X.env.locals := fun z => nfr (List.mem_filterMap.mpr ⟨X.env, List.mem_cons_self, by rw [hf, z]⟩)
    have nF : a ∉ X.fs := fun hm => by
      obtain ⟨e1, he1, q1⟩ := List.mem_filterMap.mp hm
      exact nfr (List.mem_filterMap.mpr ⟨e1, List.mem_cons_of_mem _ he1, q1⟩)
    have S3 := J3.suite he3 hd3 na nL nF
    have LT : PySem.W.Looks (model X.prog X.w) h3 (typeOf (.ref a)) cls := fun A Q E s k q => wpAny_typeOf_ref (k _ _ he3) (by rw [hz3.1]; exact q)
    have test : ∀ {x : Str} {c : Value} {np : Pos} {Q : Value → Shared → Prop} {E : Value → Shared → Prop}, Names X x c → Q c { s' with heap := h3 } → wpAny (model X.prog X.w) (X.A.mark (some (.ref a))) (eval (.Name x np) X.env) Q E { s' with heap := h3 } := fun {x c np Q E} hc q => by
      obtain ⟨hg, hdbg, hm | ⟨hm, hv, hnn⟩⟩ := hc
      · exact ld_glob (X := X.suite a ((a, oe3) :: (X.pn ++ pins))) S3 hg hm q hdbg
      · exact ld_blt (X := X.suite a ((a, oe3) :: (X.pn ++ pins))) S3 hg hm hv q hnn hdbg
    have all : ∀ {hs' : List ExceptHandler} {l' : List Cls1}, Mixed X hs' l' → wMix X.K X.N.length Wout D l' cls d σ1 H1 → wpAny (model X.prog X.w) X.A (handleBy (.ref a) X.env hs') (SP X pins D) X.xe { s' with heap := h3 } := by
      intro hs' l' M
      induction M with
      | nil =>
        intro wq
        refine wpAny_handleBy_nil ?_
        obtain ⟨w1, w2, w3, oe, vs, T, oT, ts', he, hz, hdd, h1, hr⟩ := id fl3
        unfold PySem.passOn
        refine wpAny_bind (wpAny_field he hdd h1 ?_)
        rw [if_neg (show ¬ ((Value.ref T == Value.none) = true) from by simp)]
        have fin : wpAny (model X.prog X.w) X.A (setFlight (.ref a) X.env.frame) (fun _ t4 => wpAny (model X.prog X.w) X.A (throw (.ref a) : Sem Flow) (SP X pins D) X.xe t4) X.xe { s' with heap := h3 } := by
          rw [hf]
          refine HandSPX.setFlight_upZ fl3 fun h4 hh4 up4 => wpAny_throw (tk _ _ ?_)
          exact ⟨a, B, sI, pins, σ1, H1, cls, d, rfl, J, nb, (up.trans up3).trans up4, .inr (.inr (by rw [hs]; exact hh4)), na, os, ag, wq⟩
        first
          | exact wpAny_bind (wpAny_pure (wpAny_bind fin))
          | exact wpAny_bind fin
      | @bare x c ts st suite np pos' hds2 l2 hc hsu r ih =>
        rintro ⟨b, hb1, hyes, hno⟩
        refine wpAny_handleBy_cons (codeAny_handlers_test ?_) (by intro q; cases q)
        refine test hc ((PySem.W.exm_one (M := model X.prog X.w) (J3.kIn) LT hb1).here ?_)
        cases b with
        | true =>
          refine codeAny_handlers_suite (HandSPX.lands_againZ fl3 fun h4 fl4 up4 => ?_)
          have J4 : Inv X pins σ1 H1 { s' with heap := h4 } := J.landed nb fl4.1 ((up.trans up3).trans up4) os ag
          obtain ⟨oe4, vs4, he4, hz4, hd4⟩ := fl4.there
          have S4 := J4.suite he4 hd4 na nL nF
          refine wpAny_mono ((hsu a oe4 cls d (X.pn ++ pins) hz4 ⟨_, hd4⟩).run [] _ _ H1 _ S4 (hyes rfl a na J.len)) (fun fl t6 hsp => ?_) (fun _ _ z => False.elim z)
          cases fl with
          | next => obtain ⟨σ6, H6, S6, q6⟩ := hsp; exact ⟨_, _, S6.unsuite ok, q6⟩
          | brk => obtain ⟨σ6, H6, S6, q6⟩ := hsp; exact ⟨_, _, S6.unsuite ok, q6⟩
          | cont => obtain ⟨σ6, H6, S6, q6⟩ := hsp; exact ⟨_, _, S6.unsuite ok, q6⟩
          | ret u => obtain ⟨v6, σ6, H6, S6, r6, q6⟩ := hsp; exact ⟨_, _, _, S6.unsuite ok, r6, q6⟩
        | false =>
          show wpAny _ X.A (handleBy (.ref a) X.env hds2) _ _ _
          exact ih (hno rfl)
      | @named x n c i ts st suite np pos' hds2 l2 hc hi hln hsu r ih =>
        rintro ⟨b, hb1, hyes, hno⟩
        refine wpAny_handleBy_cons (codeAny_handlers_test ?_) (by intro q; cases q)
        refine test hc ((PySem.W.exm_one (M := model X.prog X.w) (J3.kIn) LT hb1).here ?_)
        cases b with
        | true =>
          refine codeAny_handlers_suite_as (HandSPX.lands_againZ fl3 fun h4 fl4 up4 => ?_)
          have J4 : Inv X pins σ1 H1 { s' with heap := h4 } := J.landed nb fl4.1 ((up.trans up3).trans up4) os ag
          obtain ⟨oe4, vs4, he4, hz4, hd4⟩ := fl4.there
          have S4 := J4.suite he4 hd4 na nL nF
          refine store_ok (X := X.suite a ((a, oe4) :: (X.pn ++ pins))) (v := .ref a) S4 hN hi (.inl hln) rfl (fun s5 S5 => ?_) (.inr hln)
          refine wpAny_mono ((hsu a oe4 cls d (X.pn ++ pins) hz4 ⟨_, hd4⟩).run [] s5 _ H1 _ S5 (hyes rfl a na J.len)) (fun fl t6 hsp => ?_) (fun _ _ z => False.elim z)
          have off : ∀ {σ6 : L2.St} {H6 : Hp} {Q : Shared → Prop}, Inv (X.suite a ((a, oe4) :: (X.pn ++ pins))) [] σ6 H6 t6 → (∀ t7, Inv X pins (σ6.set i none) H6 t7 → Q t7) →
              wpAny (model X.prog X.w) X.A (do bindName X.env n .none; unbindBehindTheSuite X.env n pos') (fun _ t7 => Q t7) X.xe t6 := fun {σ6 H6 Q} S6 hq => gone_ok (S6.unsuite ok) hN hi hln hq
          cases fl with
          | next => obtain ⟨σ6, H6, S6, q6⟩ := hsp; exact off S6 fun t7 J7 => ⟨_, _, J7, q6⟩
          | brk => obtain ⟨σ6, H6, S6, q6⟩ := hsp; exact off S6 fun t7 J7 => ⟨_, _, J7, q6⟩
          | cont => obtain ⟨σ6, H6, S6, q6⟩ := hsp; exact off S6 fun t7 J7 => ⟨_, _, J7, q6⟩
          | ret u => obtain ⟨v6, σ6, H6, S6, r6, q6⟩ := hsp; exact off S6 fun t7 J7 => ⟨_, _, _, J7, r6, q6⟩
        | false =>
          show wpAny _ X.A (handleBy (.ref a) X.env hds2) _ _ _
          exact ih (hno rfl)
    exact all hh wish
  · cases fl with
    | next => obtain ⟨σ', H', J', q⟩ := hsp; exact wpAny_execs_nil ⟨σ', H', J'.ofTry ok, q⟩
    | brk => obtain ⟨σ', H', J', q⟩ := hsp; exact ⟨σ', H', J'.ofTry ok, q⟩
    | cont => obtain ⟨σ', H', J', q⟩ := hsp; exact ⟨σ', H', J'.ofTry ok, q⟩
    | ret u => obtain ⟨v, σ', H', J', r, q⟩ := hsp; exact ⟨v, σ', H', J'.ofTry ok, r, q⟩
end
end My
/-! Texts whose signs are code points; lists of texts and of truths as data. -/
namespace My
open PySem PySem.Spec PyProof.Rows L2
theorem strOk_app (x y : Str) : PyData.strOk (x ++ y) = (PyData.strOk x && PyData.strOk y) := by
  unfold PyData.strOk
  rw [PySem.Str.cps_append, Array.all_append]
theorem strOk_of (s : String) : PyData.strOk (Str.ofString s) = true := by
  unfold PyData.strOk
  rw [PySem.Str.ofString_eq_toList]
  rw [Array.all_eq_true]
  intro i hi
  simp only [List.getElem_toArray, List.getElem_map, decide_eq_true_eq]
  have := (s.toList[i]'(by simpa using hi)).valid
  rcases this with h | ⟨_, h⟩
  · exact Nat.lt_trans h (by decide)
  · exact h
/-- a list of texts as data -/
theorem dp_strs {K : PySem.W.Frag} {H : Hp} : ∀ zs : List Str, DpAll K H (zs.map V.str) (zs.map PyData.str)
  | [] => .nil
  | z :: zs => .cons (.str z) (dp_strs zs)
theorem lay_strs : ∀ zs : List Str, (∀ z ∈ zs, PyData.strOk z = true) → PyData.canLayAll0 (zs.map PyData.str) = true
  | [], _ => rfl
  | z :: zs, h => by
    show (PyData.strOk z && PyData.canLayAll0 (zs.map PyData.str)) = true
    rw [lay_strs zs fun x hx => h x (List.mem_cons_of_mem _ hx), h z List.mem_cons_self]
    rfl
theorem dep_strs : ∀ zs : List Str, PyData.depthAll (zs.map PyData.str) = 0
  | [] => rfl
  | z :: zs => by
    show max 0 (PyData.depthAll (zs.map PyData.str)) = 0
    rw [dep_strs zs]
    rfl
theorem shaped_strs (zs : List Str) (h : ∀ z ∈ zs, PyData.strOk z = true) : SeqAt.shaped (.list (zs.map PyData.str)) = true := by
  show (PyData.canLayAll0 (zs.map PyData.str) && decide (PyData.depthAll (zs.map PyData.str) + 1 ≤ 64)) = true
  rw [lay_strs zs h, dep_strs]
  rfl
/-- a list of truths as data, shown -/
theorem dp_bls {K : PySem.W.Frag} {H : Hp} : ∀ zs : List Bool, DpAll K H (zs.map V.bl) (zs.map PyData.bool)
  | [] => .nil
  | z :: zs => .cons (.bl z) (dp_bls zs)
theorem dep_bls : ∀ zs : List Bool, PyData.depthAll (zs.map PyData.bool) = 0
  | [] => rfl
  | z :: zs => by
    show max 0 (PyData.depthAll (zs.map PyData.bool)) = 0
    rw [dep_bls zs]
    rfl
theorem showable_bls : ∀ zs : List Bool, PyData.showableAll (zs.map PyData.bool) = true
  | [] => rfl
  | z :: zs => by
    show (true && PyData.showableAll (zs.map PyData.bool)) = true
    rw [showable_bls zs]
    rfl
theorem bls_sum : ∀ zs : List Bool, ((PyData.shownAll (zs.map PyData.bool)).map (·.length)).sum ≤ 5 * zs.length ∧ (PyData.shownAll (zs.map PyData.bool)).length = zs.length
  | [] => ⟨Nat.le_refl _, rfl⟩
  | z :: zs => by
    obtain ⟨h1, h2⟩ := bls_sum zs
    refine ⟨?_, ?_⟩
    · show (PyData.bool z).shown.length + ((PyData.shownAll (zs.map PyData.bool)).map (·.length)).sum ≤ 5 * (zs.length + 1)
      have e : (PyData.bool z).shown.length ≤ 5 := by cases z <;> decide +kernel
      omega
    · show (PyData.shownAll (zs.map PyData.bool)).length + 1 = zs.length + 1
      omega
theorem bls_show {K : PySem.W.Frag} {H : Hp} {l : Addr} (zs : List Bool) (hl : zs.length ≤ 1000) (h : H l = some (.lst (zs.map V.bl))) : Dr K H (.ref l) (.list (zs.map PyData.bool)) ∧ (PyData.list (zs.map PyData.bool)).showable = true ∧ (PyData.list (zs.map PyData.bool)).depth ≤ 60 ∧ (PyData.list (zs.map PyData.bool)).shown.length ≤ sizeLine := by
  refine ⟨.inl (.lst (SqL.of h) (dp_bls zs)), showable_bls zs, ?_, ?_⟩
  · show PyData.depthAll (zs.map PyData.bool) + 1 ≤ 60
    rw [dep_bls]
    decide
  · have h1 := listText_len_le (PyData.shownAll (zs.map PyData.bool))
    obtain ⟨h2, h3⟩ := bls_sum zs
    show (listText (PyData.shownAll (zs.map PyData.bool))).length ≤ sizeLine
    rw [sizeLine_eq]
    omega
theorem bl_show {K : PySem.W.Frag} {H : Hp} (b : Bool) : Dr K H (.bl b) (.bool b) ∧ (PyData.bool b).showable = true ∧ (PyData.bool b).depth ≤ 60 ∧ (PyData.bool b).shown.length ≤ sizeLine := by
  refine ⟨.inl (.bl b), rfl, Nat.zero_le _, ?_⟩
  cases b <;> decide +kernel
end My
/-! A list of what was heard: tuples of texts, grown by append while lambdas are made. -/
namespace My
open PySem PySem.Spec PyProof.Rows L2
inductive Tups (H : Hp) : List Addr → List (List Str) → Prop where
  | nil : Tups H [] []
  | cons {a : Addr} {zs : List Str} {as : List Addr} {ws : List (List Str)} (h : H a = some (.tup (zs.map V.str))) (t : Tups H as ws) : Tups H (a :: as) (zs :: ws)
theorem Tups.mono {H H' : Hp} {as : List Addr} {ws : List (List Str)} (h : Tups H as ws) (k : ∀ a xs, H a = some (.tup xs) → H' a = some (.tup xs)) : Tups H' as ws := by
  induction h with
  | nil => exact .nil
  | cons e _ ih => exact .cons (k _ _ e) ih
theorem Tups.snoc {H : Hp} {as : List Addr} {ws : List (List Str)} {a : Addr} {zs : List Str} (h : Tups H as ws) (e : H a = some (.tup (zs.map V.str))) : Tups H (as ++ [a]) (ws ++ [zs]) := by
  induction h with
  | nil => exact .cons e .nil
  | cons e' _ ih => exact .cons e' ih
theorem dp_strs' {K : PySem.W.Frag} {H : Hp} : ∀ zs : List Str, DpAll K H (zs.map V.str) (zs.map PyData.str)
  | [] => .nil
  | z :: zs => .cons (.str z) (dp_strs' zs)
def tupsD (ws : List (List Str)) : List PyData := ws.map fun zs => .tuple (zs.map PyData.str)
theorem Tups.data {K : PySem.W.Frag} {H : Hp} {as : List Addr} {ws : List (List Str)} (h : Tups H as ws) : DpAll K H (as.map V.ref) (tupsD ws) := by
  induction h with
  | nil => exact .nil
  | cons e _ ih => exact .cons (.tup (SqT.of e) (dp_strs' _)) ih
/-- from the heap H0 on, the list at lh holds what was heard -/
structure Giv (TS : List (Addr × Str)) (H0 : Hp) (lh : Addr) (as : List Addr) (ws : List (List Str)) (H : Hp) : Prop where
  new : H0 lh = none
  x : LamX.ExtN H0 H
  t : LamX.Tabs TS H
  l : H lh = some (.lst (as.map V.ref))
  w : Tups H as ws
/-- given = [heard(..)] -/
theorem Giv.first {TS : List (Addr × Str)} {G : Hp} {lh a : Addr} {zs : List Str} (t : LamX.Tabs TS G) (e : G a = some (.tup (zs.map V.str))) (hl : G lh = none) : Giv TS G lh [a] [zs] (upd G lh (.lst [.ref a])) :=
  ⟨hl, ext_same (same_new hl), t.ext (same_new hl), upd_same, .cons (same_new hl _ _ e) .nil⟩
theorem Giv.at {TS : List (Addr × Str)} {H0 H G G' : Hp} {lh : Addr} {as : List Addr} {ws : List (List Str)} (g : Giv TS H0 lh as ws H) (x : LamX.ExtN H G) (s : Same G G') : G' lh = some (.lst (as.map V.ref)) := s _ _ (x _ _ g.l (by intro ps z; cases z))
/-- given.append(heard(..)) -/
theorem Giv.step {TS : List (Addr × Str)} {H0 H G G' : Hp} {lh a : Addr} {zs : List Str} {as : List Addr} {ws : List (List Str)} (g : Giv TS H0 lh as ws H) (x : LamX.ExtN H G) (tb : LamX.Tabs TS G) (s : Same G G') (e : G' a = some (.tup (zs.map V.str))) :
    Giv TS H0 lh (as ++ [a]) (ws ++ [zs]) (upd G' lh (.lst (as.map V.ref ++ [.ref a]))) := by
  have l := g.at x s
  have nt : ∀ b xs, G' b = some (.tup xs) → (upd G' lh (.lst (as.map V.ref ++ [.ref a]))) b = some (.tup xs) := fun b xs q => by
    rw [upd_ne (ne_of q l (by intro z; cases z))]
    exact q
  refine ⟨g.new, ext_put g.new ((g.x.trans x).trans (ext_same s)), tabs_put (tb.ext s) l, ?_, ((g.w.mono fun b xs q => s _ _ (x _ _ q (by intro ps z; cases z))).mono nt).snoc (nt _ _ e)⟩
  rw [upd_same, List.map_append]
  rfl
theorem Giv.data {K : PySem.W.Frag} {TS : List (Addr × Str)} {H0 H H' : Hp} {lh : Addr} {as : List Addr} {ws : List (List Str)} (g : Giv TS H0 lh as ws H) (s : Same H H') : Dp K H' (.ref lh) (.list (tupsD ws)) := .lst (SqL.of (s _ _ g.l)) (g.w.mono fun _ _ q => s _ _ q).data
end My
/-! For the end: static methods, makers with defaults, calls by keywords. -/
namespace My
open PySem PySem.Spec PyProof.Rows L2
def gApp (vs zs : List V) : List V := vs ++ zs
def gSw (vs zs : List V) : List V := vs ++ zs.reverse
theorem nm_part : Sup.Nm "part" := ⟨by decide, by decide, by decide, by decide, fun _ _ _ _ _ _ _ _ _ _ _ _ => rfl⟩
theorem app_rel {vs : List V} {us : List Value} {zs : List V} {ws : List Value} (h1 : Vals vs us) (h2 : Vals zs ws) : Vals (gApp vs zs) (us ++ ws) := h1.append h2
/-- the class has the static method -/
structure HasS (K : PySem.W.Frag) (C : Addr) (m qual : Str) (st : Stmt) : Prop where
  ex : ∃ f fd, Stat K C m f ∧ Fun K m qual st f fd
section
variable {P : Program} {w : World} {K : PySem.W.Frag} {mg : Str → Option Value} {base : Heap} {CX : CXT} {k : Nat} {m qual : Str} {st : Stmt} {ps ks : List Str} {sp : Sp} {C : Addr}
theorem stat_at (A : HasS K C m qual st) (ok : ∀ f fd, Fun K m qual st f fd → FnOk P w K mg base CX k f fd ps sp) (b : BindW m qual st ps) : StatAt P w K mg base CX k C m ps sp := by
  obtain ⟨f, fd, h1, F⟩ := A.ex
  exact ⟨f, fd, h1, ok f fd F, F.binds b⟩
theorem statK_at {gV : List V → List V → List V} {g : List Value → List Value → List Value} (A : HasS K C m qual st) (ok : ∀ f fd, Fun K m qual st f fd → FnOk P w K mg base CX k f fd ps sp)
    (b : ∀ (kV doc pm : Value) (an : Option Addr) (cdv ct : Value) (us ws : List Value), us.length = 0 → ws.length = ks.length → bindArgs (PySem.W.fnOf m qual (defArgs st) (defBody st) (defScope st) .none kV doc pm an cdv ct) ⟨us, ks.zip ws⟩ = pure (ps.zip (g us ws)))
    (r : ∀ {vs : List V} {us : List Value} {zs : List V} {ws : List Value}, Vals vs us → Vals zs ws → Vals (gV vs zs) (g us ws)) : StatK P w K mg base CX k C m ps ks sp gV := by
  obtain ⟨f, fd, h1, F⟩ := A.ex
  obtain ⟨oc, od, kV, doc, pm, an, cdv, ct, osl, rfl, _⟩ := id F.ex
  exact ⟨f, _, g, h1, ok f _ F, ⟨fun s us ws _ l1 l2 => .of_eq (b kV doc pm an cdv ct us ws l1 l2), r⟩⟩
end
theorem sw_rel {vs : List V} {us : List Value} {zs : List V} {ws : List Value} (h1 : Vals vs us) (h2 : Vals zs ws) : Vals (gSw vs zs) (us ++ ws.reverse) := h1.append h2.reverse
theorem kinds7 {K : PySem.W.Frag} {C : Addr} (a0 : PySem.W.kitOne K (.type "int") (.ref C) = some false) (b0 : PySem.W.notFirst K C (.type "int") = true) (a1 : PySem.W.kitOne K (.type "tuple") (.ref C) = some false) (b1 : PySem.W.notFirst K C (.type "tuple") = true) (a2 : PySem.W.kitOne K (.type "NoneType") (.ref C) = some false) (b2 : PySem.W.notFirst K C (.type "NoneType") = true) (a3 : PySem.W.kitOne K (.type "str") (.ref C) = some false) (b3 : PySem.W.notFirst K C (.type "str") = true) (a4 : PySem.W.kitOne K (.type "list") (.ref C) = some false) (b4 : PySem.W.notFirst K C (.type "list") = true) (a5 : PySem.W.kitOne K (.type "bool") (.ref C) = some false) (b5 : PySem.W.notFirst K C (.type "bool") = true) (a6 : PySem.W.kitOne K (.type "dict") (.ref C) = some false) (b6 : PySem.W.notFirst K C (.type "dict") = true) : ∀ t ∈ ["int", "tuple", "NoneType", "str", "list", "bool", "dict"], PySem.W.kitOne K (.type t) (.ref C) = some false ∧ PySem.W.notFirst K C (.type t) = true := fun t ht => by
  simp only [List.mem_cons, List.mem_nil_iff, or_false] at ht
  rcases ht with rfl | rfl | rfl | rfl | rfl | rfl | rfl
  · exact ⟨a0, b0⟩
  · exact ⟨a1, b1⟩
  · exact ⟨a2, b2⟩
  · exact ⟨a3, b3⟩
  · exact ⟨a4, b4⟩
  · exact ⟨a5, b5⟩
  · exact ⟨a6, b6⟩
section
variable {P : Program} {w : World} {K : PySem.W.Frag} {mg : Str → Option Value} {base : Heap} {CX : CXT} {k : Nat} {x qual : Str} {st : Stmt} {ps ks : List Str} {sp : Sp} {C : Addr} {dvs : List V}
/-- the class is made with its defaults left out -/
theorem make_dfl {n : Nat} (A : HasD K C "__init__" qual st dvs []) (hx : mg x = some (.ref C)) (mk : PySem.W.makesIn K C = true) (kp : PySem.W.keepIn K (.ref C) = true) (ok : ∀ f fd, FunD K "__init__" qual (defArgs st) (defBody st) (defScope st) dvs [] f fd → FnOk P w K mg base CX k f fd ps sp) (hd : dvs ≠ []) (hn : n + (dvs.length - 0) = ps.length)
    (b : ∀ (T : Addr) (kV doc pm : Value) (an : Option Addr) (cdv ct : Value) (us its : List Value), us.length = n → its.length = dvs.length →
      ∃ k, bindArgs (PySem.W.fnOf "__init__" qual (defArgs st) (defBody st) (defScope st) (.ref T) kV doc pm an cdv ct) ⟨us, []⟩ = seqItems? (.ref T) >>= k ∧ k (some its.toArray) = pure (ps.zip (us ++ its.drop 0))) : MakeAt P w K mg base CX k x C ps sp dvs := by
  obtain ⟨f, fd, h1, h2, F⟩ := A.ex
  obtain ⟨ds, r, bs⟩ := F.binds1 n 0 hd hn b
  rw [List.drop_zero] at r
  exact ⟨f, fd, ds, ⟨mk, h1, h2, kp⟩, ok f fd F, hx, bs, r⟩
theorem make_sw (A : HasD K C "__init__" qual st dvs []) (hx : mg x = some (.ref C)) (mk : PySem.W.makesIn K C = true) (kp : PySem.W.keepIn K (.ref C) = true) (ok : ∀ f fd, FunD K "__init__" qual (defArgs st) (defBody st) (defScope st) dvs [] f fd → FnOk P w K mg base CX k f fd ps sp) (hd : dvs ≠ [])
    (b : ∀ (T : Addr) (kV doc pm : Value) (an : Option Addr) (cdv ct : Value) (us its ws : List Value), us.length = 1 → its.length = dvs.length → ws.length = ks.length →
      ∃ k, bindArgs (PySem.W.fnOf "__init__" qual (defArgs st) (defBody st) (defScope st) (.ref T) kV doc pm an cdv ct) ⟨us, ks.zip ws⟩ = seqItems? (.ref T) >>= k ∧ k (some its.toArray) = pure (ps.zip (us ++ ws.reverse))) : MakeK P w K mg base CX k x C ps ks sp gSw := by
  obtain ⟨f, fd, h1, h2, F⟩ := A.ex
  obtain ⟨its, kb⟩ := F.kbindsD (ps := ps) 1 ks (fun us _ ws => us ++ ws.reverse) hd (fun h1 _ h3 => h1.append h3.reverse) b
  exact ⟨f, fd, _, ⟨mk, h1, h2, kp⟩, ok f fd F, hx, kb⟩
theorem callK_at {g : List Value → List Value → List Value} (A : HasM K C "__call__" qual st) (ok : ∀ f fd, Fun K "__call__" qual st f fd → FnOk P w K mg base CX k f fd ps sp)
    (b : ∀ (kV doc pm : Value) (an : Option Addr) (cdv ct : Value) (us ws : List Value), us.length = 1 → ws.length = ks.length → bindArgs (PySem.W.fnOf "__call__" qual (defArgs st) (defBody st) (defScope st) .none kV doc pm an cdv ct) ⟨us, ks.zip ws⟩ = pure (ps.zip (us ++ ws))) : CallK P w K mg base CX k C ps ks sp gApp := by
  obtain ⟨f, fd, h1, h2, F⟩ := A.ex
  obtain ⟨oc, od, kV, doc, pm, an, cdv, ct, osl, rfl, lk, _⟩ := id F.ex
  refine ⟨f, _, _, ⟨h1, h2, ?_⟩, ok f _ F, ⟨fun s us ws _ l1 l2 => .of_eq (b kV doc pm an cdv ct us ws l1 l2), app_rel⟩⟩
  unfold PySem.W.fnIn
  rw [lk]
end
end My
namespace My
open PySem PySem.Spec PyProof.Rows L2
def topS (i : Nat) : Stmt := PySem.Challenge.pw_clipfades_k03_ratios_reckoned.main.body.getD i (.Pass ⟨0, 0, 0, 0⟩)
abbrev s_pen : Stmt := topS 15
abbrev s_draw : Stmt := topS 16
abbrev s_pick : Stmt := topS 17
theorem sc_pen : FnScope ["_law_script"] ["_law_script"] (defScope s_pen) := ⟨rfl, rfl, rfl, by decide +kernel, rfl, by decide +kernel, by decide +kernel⟩
theorem sc_draw : FnScope ["_law_pen_here", "_law_many", "_law_digit", "_law_begun", "_law_cell", "_law_great", "_law_mixed"] ["_law_pen_here", "_law_many"] (defScope s_draw) := ⟨rfl, rfl, rfl, by decide +kernel, rfl, by decide +kernel, by decide +kernel⟩
theorem sc_pick : FnScope ["_law_pen_here", "_law_some"] ["_law_pen_here", "_law_some"] (defScope s_pick) := ⟨rfl, rfl, rfl, by decide +kernel, rfl, by decide +kernel, by decide +kernel⟩
/-- the pen, its cells at cl -/
def PenC (H : Hp) (pn cl : Addr) (n : Nat) : Prop := ∃ (ns : List Int) (at_ rest : Int), H pn = some (.lst [.ref cl, .int at_, .int rest]) ∧ H cl = some (.lst (ns.map V.int)) ∧ ns.length ≤ 63 ∧ 0 ≤ at_ ∧ at_ ≤ n
theorem PenC.pen {H : Hp} {pn cl : Addr} {n : Nat} (h : PenC H pn cl n) : PenAt H pn n := by
  obtain ⟨ns, a, r, h⟩ := h
  exact ⟨cl, ns, a, r, h⟩
theorem PenAt.cells {H : Hp} {pn : Addr} {n : Nat} (h : PenAt H pn n) : ∃ cl, PenC H pn cl n := by
  obtain ⟨cl, ns, a, r, h⟩ := h
  exact ⟨cl, ns, a, r, h⟩
theorem PenC.put {H : Hp} {pn cl p : Addr} {n : Nat} {o : HO} (h : PenC H pn cl n) (h1 : pn ≠ p) (h2 : cl ≠ p) : PenC (upd H p o) pn cl n := by
  obtain ⟨ns, a, r, e1, e2, h3⟩ := h
  exact ⟨ns, a, r, by rw [upd_ne h1]; exact e1, by rw [upd_ne h2]; exact e2, h3⟩
theorem PenC.same {H H' : Hp} {pn cl : Addr} {n : Nat} (h : PenC H pn cl n) (s : Same H H') : PenC H' pn cl n := by
  obtain ⟨ns, a, r, e1, e2, h3⟩ := h
  exact ⟨ns, a, r, s _ _ e1, s _ _ e2, h3⟩
def spDrawC : Sp := fun vs H Q _ => ∃ (pn cl : Addr) (m : Int) (n : Nat), vs = [.ref pn, .int m] ∧ 0 < m ∧ m.natAbs.log2 < 9000 ∧ PenC H pn cl n ∧ n < 100000 ∧
  ∀ (d : Int) (H' : Hp), 0 ≤ d → d < m → PenC H' pn cl (n + 1) → But pn H H' → Q (.int d) H'
section
variable {P : Program} {w : World} {K : PySem.W.Frag} {mg : Str → Option Value} {base : Heap}
theorem ok_pen {f : Addr} {fd : FuncData} (F : Fun K "_law_pen" "_law_pen" s_pen f fd) (T : BI mg) : FnOk P w K mg base CX0 1 f fd ["_law_script"] (spPen K) := by
  refine F.ok sc_pen (fun vs H Q E h => ?_) (fun cdv A outer s H vs Q E hr h => ?_)
  · obtain ⟨a, ns, rfl, _⟩ := h
    rfl
  · obtain ⟨a, ns, rfl, hS, k⟩ := h
    refine ⟨_, (pss_one (ps_ret (pe_lst (pa_cons (pe_callTy call_list_of (by rfl) T.z_list boot_list (pa_cons (pe_slice sl_list (pv 0) po_none (po_some pe_int)) pa_nil)) (pa_cons pe_int (pa_cons pe_int pa_nil)))))), ?_⟩
    refine ⟨_, rfl, 63, rfl, a, _, rfl, hS, fun p hp => ?_⟩
    refine ⟨p, _, rfl, .inl (SqL.of upd_same), fun l hl => ?_⟩
    refine ⟨(by show 3 ≤ sizeLine; decide), fun pn hpn => ?_⟩
    have npl : p ≠ l := ne_of_none upd_same hl
    have hlp : l ≠ pn := ne_of_none upd_same hpn
    have e1 : cutV (ns.map V.int) none (some 63) = (ns.take 63).map V.int := cut_ints ns 63
    have s0 : Same H (upd (upd (upd H p (.lst (cutV (ns.map V.int) none (some 63)))) l (.lst (cutV (ns.map V.int) none (some 63)))) pn (.lst [.ref l, .int 0, .int 0])) := fun b o z => by
      have z1 : (upd H p (.lst (cutV (ns.map V.int) none (some 63)))) b = some o := by rw [upd_ne (ne_of_none z hp)]; exact z
      have z2 : (upd (upd H p (.lst (cutV (ns.map V.int) none (some 63)))) l (.lst (cutV (ns.map V.int) none (some 63)))) b = some o := by rw [upd_ne (ne_of_none z1 hl)]; exact z1
      rw [upd_ne (ne_of_none z2 hpn)]
      exact z2
    have n1 : H pn = none := by
      cases z : H pn with
      | none => rfl
      | some o =>
        rw [upd_ne (Ne.symm hlp)] at hpn
        by_cases y : pn = p
        · rw [y, hp] at z
          cases z
        · rw [upd_ne y, z] at hpn
          cases hpn
    refine k pn _ n1 ⟨l, ns.take 63, 0, 0, upd_same, ?_, ?_, Int.le_refl _, Int.le_refl _⟩ s0
    · rw [upd_ne hlp, upd_same, e1]
    · rw [List.length_take]
      omega
theorem ok_drawC {f : Addr} {fd : FuncData} (F : Fun K "_law_draw" "_law_draw" s_draw f fd) (T : BI mg) : FnOk P w K mg base CX0 1 f fd ["_law_pen_here", "_law_many"] spDrawC := by
  refine F.ok sc_draw (fun vs H Q E h => ?_) (fun cdv A outer s H vs Q E hr h => ?_)
  · obtain ⟨pn, cl, m, n, rfl, _⟩ := h
    rfl
  · obtain ⟨pn, cl, m, n, rfl, hm, hml, ⟨ns, at_, rest, h1, h2, h3, h4, h5⟩, hn, k⟩ := h
    refine ⟨_, (pss_cons (ps_if (pt_cmpR op_gt (pe_ix ix_list (pv 0) pe_int (fun _ _ => rfl)) pe_int (nomark _)) (pss_cons (ps_set (i := 2) sc_draw.nd rfl (Or.inl rfl) (pe_op op_mod (pe_callTy call_int1 (by rfl) T.z_int boot_int (pa_cons (pe_ix ix_list (pv 0) pe_int (fun _ _ => rfl)) pa_nil)) (pv 1)))
      (pss_cons (ps_asg (pe_op op_fdivW (pe_ix ix_list (pv 0) pe_int (fun _ _ => rfl)) (pv 1)) (pg_sub (pv 0) pe_int set_list))
      (pss_one (ps_ret (pv 2))))) pss_nil)
      (pss_cons (ps_set (i := 3) sc_draw.nd rfl (Or.inl rfl) (pe_ix ix_list (pv 0) pe_int (fun _ _ => rfl)))
      (pss_cons (ps_asg (pe_op op_add (pv 3) pe_int) (pg_sub (pv 0) pe_int set_list))
      (pss_cons (ps_set (i := 4) sc_draw.nd rfl (Or.inl rfl) (pe_op op_add (pe_op op_mul pe_int (pv 3)) pe_int))
      (C8.pss_cut (ps_if (pt_cmpR (op_neD hr.units) (pe_ix ix_list (pv 0) pe_int (fun _ _ => rfl)) (pe_lst pa_nil) (nomark _)) (pss_one (ps_set (i := 4) sc_draw.nd rfl (Or.inl rfl) (pe_ix ix_list (pe_ix ix_list (pv 0) pe_int (fun _ _ => rfl)) (pe_op op_mod (pe_callTy call_int1 (by rfl) T.z_int boot_int (pa_cons (pv 3) pa_nil)) (pe_callB call_len (by rfl) T.z_len PySem.boot_len (pa_cons (pe_ix ix_list (pv 0) pe_int (fun _ _ => rfl)) pa_nil))) (fun _ _ => rfl)))) pss_nil)
      (C8.pss_cut (ps_if (PW.pt (pw_and (pt_cmpR op_lt (pv 3) (pe_callB call_len (by rfl) T.z_len PySem.boot_len (pa_cons (pe_ix ix_list (pv 0) pe_int (fun _ _ => rfl)) pa_nil)) (nomark _)) (pw_and1 (pt_cmpR op_ge (pe_callB call_abs (by rfl) T.z_abs boot_abs (pa_cons (pv 4) pa_nil)) (pe_op op_pow pe_int pe_int) (nomark _))))) (pss_cons (ps_set (i := 5) sc_draw.nd rfl (Or.inl rfl) (pe_op op_add (pe_op op_mul pe_int (pe_op op_sub (pe_callB call_abs (by rfl) T.z_abs boot_abs (pa_cons (pv 4) pa_nil)) (pe_op op_pow pe_int pe_int))) (pe_callTy call_int1 (by rfl) T.z_int boot_int (pa_cons (pe_cmpR op_lt (pv 4) pe_int (nomark _)) pa_nil))))
      (pss_cons (ps_asg (pe_op op_fdivW (pv 5) (pv 1)) (pg_sub (pv 0) pe_int set_list))
      (pss_one (ps_ret (pe_op op_mod (pe_callTy call_int1 (by rfl) T.z_int boot_int (pa_cons (pv 5) pa_nil)) (pv 1)))))) pss_nil)
      (pss_cons (ps_set (i := 6) sc_draw.nd rfl (Or.inl rfl) (pe_op op_mod (pe_callTy call_int1 (by rfl) T.z_int boot_int (pa_cons (pe_op op_pow (pe_op op_add (pe_op op_add (pe_op op_mod (pe_callTy call_int1 (by rfl) T.z_int boot_int (pa_cons (pv 4) pa_nil)) pe_int) (pe_op op_mul pe_int (pv 3))) pe_int) pe_int) pa_nil)) pe_int))
      (pss_cons (ps_set (i := 6) sc_draw.nd rfl (Or.inl rfl) (pe_op op_mod (pe_callTy call_int1 (by rfl) T.z_int boot_int (pa_cons (pe_op op_pow (pe_op op_add (pe_op op_add (pe_op op_mul (pv 6) (pe_op op_add (pe_op op_mul pe_int (pv 3)) pe_int)) (pe_op op_mul (pe_op op_mul pe_int (pv 3)) (pv 3))) pe_int) pe_int) pa_nil)) pe_int))
      (pss_one (ps_ret (pe_op op_mod (pe_callTy call_int1 (by rfl) T.z_int boot_int (pa_cons (pe_op op_fdivW (pv 6) pe_int) pa_nil)) (pv 1)))))))))))), ?_⟩
    have i2 : atI [V.ref cl, V.int at_, V.int rest] 2 = some (V.int rest) := rfl
    have i1 : atI [V.ref cl, V.int at_, V.int rest] 1 = some (V.int at_) := rfl
    have i0 : atI [V.ref cl, V.int at_, V.int rest] 0 = some (V.ref cl) := rfl
    refine ⟨_, rfl, pn, _, _, _, rfl, rfl, SqL.of h1, i2, _, _, rfl, rfl, _, rfl, ?_⟩
    have npc : cl ≠ pn := ne_of h2 h1 (by
      intro z
      injection z with z
      cases ns with
      | nil => cases z
      | cons a l => cases z)
    refine ite2 (fun c => ?_) (fun c => ?_)
    · refine ⟨_, rfl, pn, _, _, _, rfl, rfl, SqL.of h1, i2, .inl ⟨rest, rfl, _, rfl, _, _, rfl, rfl, hm, ?_⟩⟩
      first
        | refine ⟨_, rfl, pn, _, _, _, rfl, rfl, SqL.of h1, i2, .inl ⟨rest, rfl, _, rfl, _, _, rfl, rfl, ⟨hm, hml⟩, _, rfl, pn, _, _, 2, rfl, rfl, h1, rfl, ?_⟩⟩
        | refine ⟨_, rfl, pn, _, _, _, rfl, rfl, SqL.of h1, i2, _, rfl, _, _, rfl, rfl, ⟨hm, hml⟩, _, rfl, pn, _, _, 2, rfl, rfl, h1, rfl, ?_⟩
      refine ⟨_, rfl, k _ _ (Int.emod_nonneg _ (by omega)) (Int.emod_lt_of_pos _ hm) ?_ But.put⟩
      exact ⟨ns, at_, rest / m, upd_same, by rw [upd_ne npc]; exact h2, h3, h4, by omega⟩
    · refine ⟨_, rfl, pn, _, _, _, rfl, rfl, SqL.of h1, i1, ?_⟩
      refine ⟨_, rfl, _, _, rfl, rfl, _, rfl, pn, _, _, 1, rfl, rfl, h1, rfl, ?_⟩
      refine ⟨_, rfl, _, _, rfl, rfl, .inl ⟨by decide, by decide⟩, _, _, rfl, rfl, ?_⟩
      have i0' : atI [V.ref cl, V.int (at_ + 1), V.int rest] 0 = some (V.ref cl) := rfl
      refine ⟨fun σ H2 => ∃ (cell : Int) (v5 v6 : Option V), σ = [some (.ref pn), some (.int m), none, some (.int at_), some (.int cell), v5, v6] ∧ H2 pn = some (.lst [.ref cl, .int (at_ + 1), .int rest]) ∧ H2 cl = some (.lst (ns.map V.int)) ∧ But pn H H2, ?_, ?_⟩
      · refine ⟨_, rfl, pn, _, _, _, rfl, rfl, SqL.of upd_same, i0', (by show 0 ≤ sizeLine; decide), fun l hl => ?_⟩
        have nlp : pn ≠ l := ne_of_none (upd_same (H := H) (a := pn)) hl
        have nlc : cl ≠ l := ne_of_none (by rw [upd_ne npc]; exact h2) hl
        have w1 : (upd (upd H pn (.lst [.ref cl, .int (at_ + 1), .int rest])) l (.lst [])) pn = some (.lst [.ref cl, .int (at_ + 1), .int rest]) := by rw [upd_ne nlp, upd_same]
        have w2 : (upd (upd H pn (.lst [.ref cl, .int (at_ + 1), .int rest])) l (.lst [])) cl = some (.lst (ns.map V.int)) := by rw [upd_ne nlc, upd_ne npc]; exact h2
        have wb : But pn H (upd (upd H pn (.lst [.ref cl, .int (at_ + 1), .int rest])) l (.lst [])) := But.put.trans (But.new hl)
        refine ⟨.list (ns.map PyData.int), .list [], .lst (SqL.of w2) (dp_ints ns), .lst (SqL.of upd_same) .nil, shaped_ints ns, rfl, _, rfl, ?_⟩
        cases ns with
        | nil =>
          refine iteF ?_
          exact ⟨_, _, _, rfl, w1, w2, wb⟩
        | cons z zs =>
          refine iteT ?_
          have hl0 : (0 : Int) < (((z :: zs).map V.int).length : Int) := by
            rw [List.length_map, List.length_cons]
            omega
          obtain ⟨v, hv⟩ : ∃ v, ((z :: zs))[(at_ % (((z :: zs).map V.int).length : Int)).toNat]? = some v := by
            have g := Int.emod_lt_of_pos at_ hl0
            have g0 := Int.emod_nonneg at_ (show (((z :: zs).map V.int).length : Int) ≠ 0 by omega)
            refine ⟨_, List.getElem?_eq_getElem ?_⟩
            rw [List.length_map] at g g0 ⊢
            omega
          refine ⟨_, rfl, pn, _, _, _, rfl, rfl, SqL.of w1, i0', _, rfl, .inl ⟨at_, rfl, _, rfl, pn, _, _, _, rfl, rfl, SqL.of w1, i0', _, _, rfl, .inl ⟨_, SqL.of w2, rfl⟩, _, _, rfl, rfl, hl0, cl, _, _, .int v, rfl, rfl, SqL.of w2, ?_, ?_⟩⟩
          · have g0 := Int.emod_nonneg at_ (show (((z :: zs).map V.int).length : Int) ≠ 0 by omega)
            refine at_of (j := (at_ % (((z :: zs).map V.int).length : Int)).toNat) (by omega) ?_
            rw [List.getElem?_map, hv]
            rfl
          · exact ⟨_, _, _, rfl, w1, w2, wb⟩
      · rintro σ H2 ⟨cell, v5, v6, rfl, g1, g2, hb⟩
        have pen2 : ∀ r : Int, PenC (upd H2 pn (.lst [.ref cl, .int (at_ + 1), .int r])) pn cl (n + 1) := fun r =>
          ⟨ns, at_ + 1, r, upd_same, by rw [upd_ne npc]; exact g2, h3, by omega, by omega⟩
        refine ⟨fun σ H3 => ∃ (v5 v6 : Option V), σ = [some (.ref pn), some (.int m), none, some (.int at_), some (.int cell), v5, v6] ∧ H3 = H2, ?_, ?_⟩
        · refine ⟨_, rfl, _, rfl, pn, _, _, _, rfl, rfl, SqL.of g1, i0', _, _, rfl, .inl ⟨_, SqL.of g2, rfl⟩, _, _, rfl, rfl, _, rfl, ?_⟩
          refine ite2 (fun c1 => ?_) (fun c1 => iteF ⟨_, _, rfl, rfl⟩)
          refine ⟨_, rfl, _, rfl, _, _, rfl, rfl, ⟨by decide, by decide, by decide⟩, _, _, rfl, rfl, _, rfl, ?_⟩
          refine ite2 (fun c2 => ?_) (fun c2 => ⟨_, _, rfl, rfl⟩)
          refine ⟨_, rfl, _, rfl, _, _, rfl, rfl, ⟨by decide, by decide, by decide⟩, _, _, rfl, rfl, _, _, rfl, rfl, .inl ⟨by decide, by decide⟩, _, rfl, _, _, rfl, rfl, .inr ⟨_, rfl, _, _, rfl, rfl, ?_⟩⟩
          first
            | refine ⟨_, rfl, .inl ⟨_, rfl, _, rfl, _, _, rfl, rfl, ⟨hm, hml⟩, _, rfl, pn, _, _, 2, rfl, rfl, g1, rfl, ?_⟩⟩
            | refine ⟨_, rfl, _, rfl, _, _, rfl, rfl, ⟨hm, hml⟩, _, rfl, pn, _, _, 2, rfl, rfl, g1, rfl, ?_⟩
          refine ⟨_, rfl, .inl ⟨_, rfl, _, rfl, _, _, rfl, rfl, hm, ?_⟩⟩
          exact k _ _ (Int.emod_nonneg _ (by omega)) (Int.emod_lt_of_pos _ hm) (pen2 _) (hb.trans But.put)
        · rintro σ H3 ⟨v5, v6, rfl, rfl⟩
          have ea : at_ < 100000 := by omega
          refine ⟨_, rfl, .inl ⟨_, rfl, _, _, rfl, rfl, (by show (0 : Int) < _; decide), _, rfl, _, _, rfl, rfl, .inl ⟨by decide, by decide⟩, _, _, rfl, rfl, _, _, rfl, rfl, _, _, rfl, rfl, ⟨by decide, by decide, ?_⟩, .inl ⟨_, rfl, _, _, rfl, rfl, (by show (0 : Int) < _; decide), ?_⟩⟩⟩
          · have e1 := Int.emod_nonneg cell (show (2147483563 : Int) ≠ 0 by decide)
            have e2 := Int.emod_lt_of_pos cell (show (0 : Int) < 2147483563 by decide)
            refine pow_lt (by omega) (by omega)
          have x0 := Int.emod_nonneg ((cell % 2147483563 + 39157 * at_ + 253) ^ Int.toNat 3) (show (2147483629 : Int) ≠ 0 by decide)
          have x1 := Int.emod_lt_of_pos ((cell % 2147483563 + 39157 * at_ + 253) ^ Int.toNat 3) (show (0 : Int) < 2147483629 by decide)
          refine ⟨_, rfl, _, rfl, _, _, rfl, rfl, .inl ⟨by decide, by decide⟩, _, _, rfl, rfl, _, _, rfl, rfl, .inl ⟨Int.lt_of_lt_of_le (by decide) x0, Int.lt_trans x1 (by decide)⟩, _, rfl, _, _, rfl, rfl, .inl ⟨by decide, by decide⟩, _, rfl, _, _, rfl, rfl, .inr ⟨by omega, by omega⟩, _, _, rfl, rfl, _, _, rfl, rfl, _, _, rfl, rfl, ⟨by decide, by decide, ?_⟩, .inl ⟨_, rfl, _, _, rfl, rfl, (by show (0 : Int) < _; decide), ?_⟩⟩
          · exact mix_lt x0 (Int.lt_trans x1 (by decide)) h4 ea (by decide) (by decide) (by decide) (by decide) (by decide) (by decide)
          refine ⟨_, rfl, _, _, rfl, rfl, ⟨by decide, by decide⟩, .inl ⟨_, rfl, _, rfl, _, _, rfl, rfl, hm, ?_⟩⟩
          exact k _ _ (Int.emod_nonneg _ (by omega)) (Int.emod_lt_of_pos _ hm) ⟨ns, at_ + 1, rest, g1, g2, h3, by omega, by omega⟩ hb
theorem ok_draw {f : Addr} {fd : FuncData} (F : Fun K "_law_draw" "_law_draw" s_draw f fd) (T : BI mg) : FnOk P w K mg base CX0 1 f fd ["_law_pen_here", "_law_many"] spDraw := by
  have G := ok_drawC (P := P) (w := w) (base := base) F T
  have to : ∀ vs H Q E, spDraw vs H Q E → spDrawC vs H Q E := fun vs H Q E h => by
    obtain ⟨pn, m, n, e, hm, hml, hp, hn, k⟩ := h
    obtain ⟨cl, hc⟩ := hp.cells
    exact ⟨pn, cl, m, n, e, hm, hml, hc, hn, fun d H' a b c u => k d H' a b c.pen u⟩
  exact ⟨fun vs H Q E h => G.len vs H Q E (to _ _ _ _ h), fun A outer s H args us vs Q E hr e0 hb r h => G.run A outer s H args us vs Q E hr e0 hb r (to _ _ _ _ h)⟩
theorem ok_pick {f : Addr} {fd : FuncData} (F : Fun K "_law_pick" "_law_pick" s_pick f fd) (T : BI mg) (D_draw : DefAt P w K mg base CX0 1 "_law_draw" ["_law_pen_here", "_law_many"] spDraw) : FnOk P w K mg base CX0 2 f fd ["_law_pen_here", "_law_some"] spPick := by
  refine F.ok sc_pick (fun vs H Q E h => ?_) (fun cdv A outer s H vs Q E hr h => ?_)
  · obtain ⟨pn, l, n, xs, rfl, _⟩ := h
    rfl
  · obtain ⟨pn, l, n, xs, rfl, hl, nl, h0, h1, hp, hn, k⟩ := h
    refine ⟨_, (pss_one (ps_ret (pe_ix ix_list (pv 1) (My.pe_d D_draw (hr.mono (by decide)) (by rfl) pass0 (pa_cons (pv 0) (pa_cons (pe_callB call_len (by rfl) T.z_len PySem.boot_len (pa_cons (pv 1) pa_nil)) pa_nil))) (fun _ _ => rfl)))), ?_⟩
    refine ⟨_, rfl, _, rfl, _, rfl, _, _, rfl, .inl ⟨_, SqL.of hl, rfl⟩, pn, _, n, rfl, by omega, ?_, hp, hn, fun d H' d0 d1 hp' hb => ?_⟩
    · refine Nat.lt_of_lt_of_le (PySem.Flt.log2_lt_of (k := 10) (by decide) ?_) (by decide)
      show xs.length < 1024
      omega
    · obtain ⟨v, hv⟩ : ∃ v, xs[d.toNat]? = some v := ⟨_, List.getElem?_eq_getElem (by omega)⟩
      refine ⟨l, _, _, v, rfl, rfl, SqL.of (hb l _ hl nl), at_of (j := d.toNat) (by omega) hv, ?_⟩
      exact k v H' (List.mem_of_getElem? hv) hp' hb
end
end My
namespace My
open PySem PySem.Spec PyProof.Rows L2
/-! ### fractions -/
abbrev s_whole0 : Stmt := topS 8
theorem sc_whole0 : FnScope ["value"] ["value"] (defScope s_whole0) := ⟨rfl, rfl, rfl, by decide +kernel, rfl, by decide +kernel, by decide +kernel⟩
abbrev s_cd : Stmt := topS 9
theorem sc_cd : FnScope ["one", "other"] ["one", "other"] (defScope s_cd) := ⟨rfl, rfl, rfl, by decide +kernel, rfl, by decide +kernel, by decide +kernel⟩
abbrev s_partsof : Stmt := topS 11
theorem sc_partsof : FnScope ["number"] ["number"] (defScope s_partsof) := ⟨rfl, rfl, rfl, by decide +kernel, rfl, by decide +kernel, by decide +kernel⟩
abbrev s_init : Stmt := inClass (topS 13) 0
theorem sc_init : FnScope ["self", "top", "bottom", "shared"] ["self", "top", "bottom"] (defScope s_init) := ⟨rfl, rfl, rfl, by decide +kernel, rfl, by decide +kernel, by decide +kernel⟩
abbrev s_isnum : Stmt := inClass (topS 13) 1
theorem sc_isnum : FnScope ["thing"] ["thing"] (defScope s_isnum) := ⟨rfl, rfl, rfl, by decide +kernel, rfl, by decide +kernel, by decide +kernel⟩
abbrev s_of : Stmt := inClass (topS 13) 2
theorem sc_of : FnScope ["number", "top", "bottom"] ["number"] (defScope s_of) := ⟨rfl, rfl, rfl, by decide +kernel, rfl, by decide +kernel, by decide +kernel⟩
def rfs (a b : Int) : List (Str × V) := putF "bottom" (.int b) (putF "top" (.int a) [])
theorem rsm : ¬ (("top" : Str) = "bottom") := by decide +kernel
theorem rfs_top (a b : Int) : (rfs a b).lookup ("top" : Str) = some (.int a) := by
  unfold rfs
  rw [lookup_putF, if_neg rsm, lookup_putF, if_pos rfl]
theorem rfs_bot (a b : Int) : (rfs a b).lookup ("bottom" : Str) = some (.int b) := by
  unfold rfs
  rw [lookup_putF, if_pos rfl]
theorem rfs_no (a b : Int) {m : Str} (h1 : ¬ m = "bottom") (h2 : ¬ m = "top") : (rfs a b).lookup m = none := by
  unfold rfs
  rw [lookup_putF, if_neg h1, lookup_putF, if_neg h2]
  rfl
/-- at p: a Ratio with this top and this bottom -/
def RatAt (C : Addr) (H : Hp) (p : Addr) (a b : Int) : Prop := ∃ dx, H p = some (.ins C dx (rfs a b))
theorem RatAt.same {C : Addr} {H H' : Hp} {p : Addr} {a b : Int} (h : RatAt C H p a b) (k : Same H H') : RatAt C H' p a b := by
  obtain ⟨dx, e⟩ := h
  exact ⟨dx, k _ _ e⟩
theorem RatAt.ext {C : Addr} {H H' : Hp} {p : Addr} {a b : Int} (h : RatAt C H p a b) (k : LamX.ExtN H H') : RatAt C H' p a b := by
  obtain ⟨dx, e⟩ := h
  exact ⟨dx, k _ _ e (by intro ps z; cases z)⟩
theorem RatAt.kp {C : Addr} {TS : List (Addr × Str)} {H H' : Hp} {p pn : Addr} {n : Nat} {a b : Int} (h : RatAt C H p a b) (hp : PenAt H pn n) (k : Kp pn TS H H') : RatAt C H' p a b := by
  obtain ⟨dx, e⟩ := h
  obtain ⟨cl, ns, a', r, g1, _⟩ := hp
  exact ⟨dx, k.keep _ _ e (ne_of e g1 (by intro z; cases z)) (by intro ps z; cases z)⟩
theorem RatAt.but {C : Addr} {H H' : Hp} {p pn : Addr} {n : Nat} {a b : Int} (h : RatAt C H p a b) (hp : PenAt H pn n) (k : But pn H H') : RatAt C H' p a b := by
  obtain ⟨dx, e⟩ := h
  obtain ⟨cl, ns, a', r, g1, _⟩ := hp
  exact ⟨dx, k _ _ e (ne_of e g1 (by intro z; cases z))⟩
theorem RatAt.tyl {C : Addr} {H : Hp} {p : Addr} {a b : Int} (h : RatAt C H p a b) : TyL C H (.ref p) := by
  obtain ⟨dx, e⟩ := h
  exact .inr ⟨p, dx, _, rfl, e⟩
/-- an error of the class C with the field f = v -/
def Errs (E : XK) (C : Addr) (f : Str) (v : V) (H : Hp) : Prop := ∀ (d : Addr) (H' : Hp), H d = none → H' d = some (.xd [(f, v)]) → Same H H' → E (.ref C) (some d) H'
theorem Errs.go {E : XK} {C : Addr} {f : Str} {v : V} {H : Hp} (h : Errs E C f v H) {d : Addr} (hd : H d = none) : E (.ref C) (some d) (upd H d (.xd [(f, v)])) := h d _ hd upd_same (same_new hd)
theorem Errs.up {E : XK} {C : Addr} {f : Str} {v : V} {H H1 : Hp} (h : Errs E C f v H) (s : Same H H1) : Errs E C f v H1 := fun d H' hd hx s' => h d H' (s.free hd) hx (s.trans s')
/-- an error of the class C without fields -/
def Err0 (E : XK) (C : Addr) (H : Hp) : Prop := ∀ H', Same H H' → E (.ref C) none H'
theorem Err0.go {E : XK} {C : Addr} {H : Hp} (h : Err0 E C H) : E (.ref C) none H := h H fun _ _ e => e
theorem Err0.up {E : XK} {C : Addr} {H H1 : Hp} (h : Err0 E C H) (s : Same H H1) : Err0 E C H1 := fun H' s' => h H' (s.trans s')
/-- an own error class without own __init__ -/
structure Nil0 (K : PySem.W.Frag) (mg : Str → Option Value) (x : Str) (C : Addr) : Prop where
  g : mg x = some (.ref C)
  x : PySem.W.excIn K C [.type "ValueError", .type "Exception", .type "BaseException", .type "object"] "ValueError.__new__" = true
  k : PySem.W.keepIn K (.ref C) = true
  b : PySem.W.subIn K (.ref C) (.type "BaseException") = some true
  t : PySem.W.typeIn K (.ref C) = some (.type "type")
/-- what the top has written of Ratio and its errors -/
structure RTx (P : Program) (K : PySem.W.Frag) (mg : Str → Option Value) (C CB fB CN : Addr) : Prop extends BI mg where
  cl : Cls K C
  nT : NoAttr K C "top"
  nB : NoAttr K C "bottom"
  gR : mg "Ratio" = some (.ref C)
  ha : PySem.W.findIn K (.ref C) "__class__" = some (some (.builtin "object.__class__"))
  hn : PySem.W.specialIn K (.builtin "object.__class__") "__get__" = some (some (.builtin "getset_descriptor.__get__"))
  ht : PySem.W.takesIn K (.builtin "object.__class__") = some true
  hm : PySem.W.mroIn K C (.type "object") = some true
  me : PySem.W.kitOne K (.ref C) (.ref C) = some true
  e_BadRatio : Sup.Err1 P K mg "BadRatio" "part" CB fB
  e_NoDivisor : Nil0 K mg "NoDivisor" CN
  z_str : mg "str" = none
  z_tuple : mg "tuple" = none
  z_all : mg "all" = none
  noInt : PySem.W.kitOne K (.ref C) (.type "int") = some false
  kn : ∀ t ∈ ["int", "tuple", "NoneType", "str", "list", "bool", "dict"], PySem.W.kitOne K (.type t) (.ref C) = some false ∧ PySem.W.notFirst K C (.type t) = true
  sf : PySem.W.notFirst K C (.ref C) = true
theorem Ty0.mem {H : Hp} {v : V} {t : String} (h : Ty0 H v t) : t ∈ ["int", "tuple", "NoneType", "str", "list", "bool", "dict"] := by cases h <;> decide
theorem RTx.ty {P : Program} {K : PySem.W.Frag} {mg : Str → Option Value} {C CB fB CN : Addr} (T : RTx P K mg C CB fB CN) {H : Hp} {p : Addr} {a b : Int} (h : RatAt C H p a b) : TyX K H (.ref p) (.ref C) := by
  obtain ⟨dx, e⟩ := h
  exact .base (.ins e T.cl T.ha T.hn T.ht T.hm)
/-- a number: a Ratio, or an int -/
def NumAt (C : Addr) (H : Hp) (v : V) (a b : Int) : Prop := (∃ p, v = .ref p ∧ RatAt C H p a b) ∨ (v = .int a ∧ b = 1)
theorem NumAt.same {C : Addr} {H H' : Hp} {v : V} {c d : Int} (h : NumAt C H v c d) (s : Same H H') : NumAt C H' v c d := by
  rcases h with ⟨p, e, l⟩ | h
  · exact .inl ⟨p, e, l.same s⟩
  · exact .inr h
theorem NumAt.ext {C : Addr} {H H' : Hp} {v : V} {c d : Int} (h : NumAt C H v c d) (s : LamX.ExtN H H') : NumAt C H' v c d := by
  rcases h with ⟨p, e, l⟩ | h
  · exact .inl ⟨p, e, l.ext s⟩
  · exact .inr h
theorem NumAt.kp {C : Addr} {TS : List (Addr × Str)} {H H' : Hp} {v : V} {pn : Addr} {n : Nat} {a b : Int} (h : NumAt C H v a b) (hp : PenAt H pn n) (k : Kp pn TS H H') : NumAt C H' v a b := by
  rcases h with ⟨p, e, l⟩ | h
  · exact .inl ⟨p, e, l.kp hp k⟩
  · exact .inr h
theorem NumAt.orInt {C : Addr} {H : Hp} {v : V} {c d : Int} (h : NumAt C H v c d) : OrInt H C v := by
  rcases h with ⟨p, e, dx, l⟩ | ⟨h, _⟩
  · exact .inl ⟨p, dx, _, e, l⟩
  · exact .inr ⟨c, h⟩
theorem RTx.nty {P : Program} {K : PySem.W.Frag} {mg : Str → Option Value} {C CB fB CN : Addr} (T : RTx P K mg C CB fB CN) {H : Hp} {v : V} {a b : Int} (h : NumAt C H v a b) : ∃ t, TyX K H v t ∧ PySem.W.notFirst K C t = true := by
  rcases h with ⟨p, rfl, l⟩ | ⟨rfl, _⟩
  · exact ⟨_, T.ty l, T.sf⟩
  · exact ⟨_, (Ty0.int (H := H) a).tyx, (T.kn _ (.head _)).2⟩
def spWhole0 (C : Addr) : Sp := fun vs H Q _ => ∃ (v : V), vs = [v] ∧ TyL C H v ∧ Q (.bl (isI v)) H
def spCd : Sp := fun vs H Q _ => ∃ (a b : Int), vs = [.int a, .int b] ∧ Q (.int (Int.gcd a b : Int)) H
def spParts0 (C : Addr) : Sp := fun vs H Q _ => ∃ (v : V) (a b : Int), vs = [v] ∧ NumAt C H v a b ∧ ∀ t, H t = none → Q (.ref t) (upd H t (.tup [.int a, .int b]))
/-- Ratio.__init__(self, top, bottom) -/
def spInit (C CB CN : Addr) : Sp := fun vs H Q E => ∃ (p dx : Addr) (tv bv : V), vs = [.ref p, tv, bv] ∧ H p = some (.ins C dx []) ∧ TyL C H tv ∧ TyL C H bv ∧
  (∀ t b, tv = .int t → bv = .int b → b ≠ 0 → b.natAbs.log2 < 9000 ∧ ∀ H', H' p = some (.ins C dx (rfs (lowT t b) (lowB t b))) → (∀ c o, H c = some o → c ≠ p → H' c = some o) → Q .non H') ∧
  (isI tv = false → Errs E CB "part" (.str "top") H) ∧ (isI tv = true → isI bv = false → Errs E CB "part" (.str "bottom") H) ∧ (isI tv = true → bv = .int 0 → Err0 E CN H)
/-- Ratio.is_number(v): of these kinds alone -/
def spIsnum (C : Addr) : Sp := fun vs H Q _ => ∃ (v : V) (b : Bool), vs = [v] ∧ ((b = true ∧ ∃ n d, NumAt C H v n d) ∨ (b = false ∧ (∃ t, Ty0 H v t) ∧ isI v = false)) ∧ Q (.bl b) H
def spOf (C CB : Addr) : Sp := fun vs H Q E => ∃ (v : V), vs = [v] ∧
  ((∃ a b, NumAt C H v a b ∧ b ≠ 0 ∧ b.natAbs.log2 < 9000 ∧ ∀ (q : Addr) (H' : Hp), RatAt C H' q (lowT a b) (lowB a b) → Same H H' → Q (.ref q) H') ∨ ((∃ t, Ty0 H v t) ∧ isI v = false ∧ Errs E CB "part" (.str "top") H))
theorem log_le {x y : Nat} (h : x ≤ y) (k : y.log2 < 9000) (hx : x ≠ 0) : x.log2 < 9000 := by
  have h1 : y < 2 ^ 9000 := (Nat.log2_lt (by omega)).mp k
  exact (Nat.log2_lt hx).mpr (Nat.lt_of_le_of_lt h h1)
/-- a new Ratio -/
theorem init_at {C CB CN : Addr} {H : Hp} {x dx : Addr} {a b : Int} {R : Hp → Prop} {E : XK} (hb : b ≠ 0) (lb : b.natAbs.log2 < 9000) (hx : H x = none) (hd : H dx = none) (ne : dx ≠ x) (k : ∀ H', RatAt C H' x (lowT a b) (lowB a b) → Same H H' → R H') :
    spInit C CB CN (.ref x :: ([.int a, .int b] ++ [])) (upd (upd H dx (.own x)) x (.ins C dx [])) (fun v H2 => v = .non ∧ R H2) E := by
  refine ⟨x, dx, _, _, rfl, upd_same, TyL.int _ _ a, TyL.int _ _ b, fun a' b' ea eb _ => ?_, fun z => Bool.noConfusion z, fun _ z => Bool.noConfusion z, fun _ z => ?_⟩
  · cases ea
    cases eb
    refine ⟨lb, fun H' h1 h2 => ⟨rfl, k H' ⟨dx, h1⟩ fun c o e => ?_⟩⟩
    refine h2 c o ?_ (ne_of_none e hx)
    rw [upd_ne (ne_of_none e hx), upd_ne (ne_of_none e hd)]
    exact e
  · cases z
    exact absurd rfl hb
section
variable {P : Program} {w : World} {K : PySem.W.Frag} {mg : Str → Option Value} {base : Heap} {C CB fB CN : Addr}
theorem ok_whole0 {f : Addr} {fd : FuncData} (F : Fun K "is_whole" "is_whole" s_whole0 f fd) (T : RTx P K mg C CB fB CN) : FnOk P w K mg base CX0 1 f fd ["value"] (spWhole0 C) := by
  refine F.ok sc_whole0 (fun vs H Q E h => ?_) (fun cdv A outer s H vs Q E hr h => ?_)
  · obtain ⟨v, rfl, _⟩ := h
    rfl
  · obtain ⟨v, rfl, ty, q⟩ := h
    refine ⟨_, (pss_one (ps_ret (pe_and (pe_callB call_isi (by rfl) T.z_isinstance boot_isinstance (pa_cons (pv 0) (pa_cons (pe_bltn (v := .ty "int") (by rfl) T.z_int boot_int rfl) pa_nil))) (pe_one (pe_not (pe_callB call_isi (by rfl) T.z_isinstance boot_isinstance (pa_cons (pv 0) (pa_cons (pe_bltn (v := .ty "bool") (by rfl) T.z_bool boot_bool rfl) pa_nil)))))))), ?_⟩
    rcases ty with ⟨t, ty⟩ | ⟨a, dx, fs, rfl, ea⟩
    case inr => exact ⟨_, rfl, _, _, _, _, false, rfl, .ty _, .base (.ins ea T.cl T.ha T.hn T.ht T.hm), T.noInt, _, rfl, iteF q⟩
    obtain ⟨b, e1, e2, e3⟩ := ty.kint (K := K)
    refine ⟨_, rfl, v, _, _, _, b, rfl, .ty _, ty.tyx, e1, _, rfl, ?_⟩
    cases b with
    | false =>
      refine iteF ?_
      rw [e3 rfl] at q
      exact q
    | true =>
      refine iteT ?_
      obtain ⟨c, e4, e5⟩ := e2 rfl
      refine ⟨_, rfl, v, _, _, _, c, rfl, .ty _, ty.tyx, e4, _, rfl, ?_⟩
      rw [e5] at q
      exact q
theorem ok_cd {f : Addr} {fd : FuncData} (F : Fun K "common_divisor" "common_divisor" s_cd f fd) (T : BI mg) : FnOk P w K mg base CX0 1 f fd ["one", "other"] spCd := by
  refine F.ok sc_cd (fun vs H Q E h => ?_) (fun cdv A outer s H vs Q E hr h => ?_)
  · obtain ⟨a, b, rfl, _⟩ := h
    rfl
  · obtain ⟨a, b, rfl, q⟩ := h
    refine ⟨_, (pss_cons (ps_par (i := 0) (j := 1) (by rfl) sc_cd.nd rfl rfl (by decide) rfl rfl (pa_cons (pe_callB call_abs (by rfl) T.z_abs boot_abs (pa_cons (pv 0) pa_nil)) (pa_cons (pe_callB call_abs (by rfl) T.z_abs boot_abs (pa_cons (pv 1) pa_nil)) pa_nil)) (by rfl))
      (pss_cons (ps_while PassesOwn.never (pt_cmpR op_ne (pv 1) pe_int (nomark _)) (pss_one (ps_par (i := 0) (j := 1) (by rfl) sc_cd.nd rfl rfl (by decide) rfl rfl (pa_cons (pv 1) (pa_cons (pe_op op_modN (pv 0) (pv 1)) pa_nil)) (by rfl))))
      (pss_one (ps_ret (pv 0))))), ?_⟩
    refine ⟨_, rfl, a, rfl, _, rfl, b, rfl, _, _, rfl, ?_⟩
    refine while_by (fun σ Hz => Hz = H ∧ ∃ x y : Int, σ = [some (.int x), some (.int y)] ∧ 0 ≤ x ∧ 0 ≤ y ∧ Int.gcd x y = Int.gcd a b) (fun σ _ => match σ with | [_, some (.int y)] => y.toNat | _ => 0) ?_ ?_ ?_
    · exact ⟨rfl, _, _, rfl, by split <;> omega, by split <;> omega, gcd_absI a b⟩
    · rintro σ Hz ⟨rfl, x, y, rfl, hx, hy, hg⟩
      refine ⟨_, rfl, rfl, _, rfl, ?_⟩
      refine ite2 (fun c => ?_) (fun c => ?_)
      · have y0 : y ≠ 0 := by
          rintro rfl
          simp at c
        obtain ⟨m1, m2⟩ := fmod_bd (a := x) (b := y) (by omega)
        refine ⟨_, rfl, _, rfl, _, rfl, _, _, rfl, rfl, y0, _, _, rfl, ⟨rfl, y, x.fmod y, rfl, hy, m1, ?_⟩, ?_⟩
        · rw [gcd_turn hx hy]
          exact hg
        · show (x.fmod y).toNat < y.toNat
          omega
      · have y0 : y = 0 := by
          by_cases z : y = 0
          · exact z
          · exfalso
            apply c
            simp [z]
        subst y0
        have e : x = (Int.gcd a b : Int) := by
          rw [← hg]
          show x = ((Nat.gcd x.natAbs 0 : Nat) : Int)
          rw [Nat.gcd_zero_right]
          omega
        rw [← e] at q
        exact ⟨_, rfl, q⟩
    · rintro σ Hz Q1 Q2 hm ⟨v, e, h1, h2⟩
      exact ⟨v, e, h1, by obtain ⟨b, e2, h3⟩ := h2; exact ⟨b, e2, hm _ _ h3⟩⟩
theorem ok_partsof {f : Addr} {fd : FuncData} (F : Fun K "parts_of" "parts_of" s_partsof f fd) (T : RTx P K mg C CB fB CN) : FnOk P w K mg base CX0 1 f fd ["number"] (spParts0 C) := by
  refine F.ok sc_partsof (fun vs H Q E h => ?_) (fun cdv A outer s H vs Q E hr h => ?_)
  · obtain ⟨v, a, b, rfl, _⟩ := h
    rfl
  · obtain ⟨v, a, b, rfl, hv, q⟩ := h
    refine ⟨_, (pss_one (ps_ret (pe_ifExp (pt_val (pe_callB call_isi (by rfl) T.z_isinstance boot_isinstance (pa_cons (pv 0) (pa_cons (pe_glob (v := .ref C) (by rfl) T.gR rfl) pa_nil)))) (pe_tup (pa_cons (pe_fld (pv 0) rfl) (pa_cons (pe_fld (pv 0) rfl) pa_nil))) (pe_tup (pa_cons (pv 0) (pa_cons pe_int pa_nil)))))), ?_⟩
    rcases hv with ⟨p, rfl, hl⟩ | ⟨rfl, rfl⟩
    · obtain ⟨dx, e⟩ := id hl
      refine ⟨_, rfl, _, _, _, _, true, rfl, .own _, T.ty hl, T.me, _, rfl, iteT ?_⟩
      exact ⟨_, rfl, p, C, dx, _, _, rfl, e, T.cl, T.nT, rfs_top _ _, _, rfl, p, C, dx, _, _, rfl, e, T.cl, T.nB, rfs_bot _ _, (by show 2 ≤ sizeLine; decide), fun t ht => q t ht⟩
    · refine ⟨_, rfl, _, _, _, _, false, rfl, .own _, (Ty0.int a).tyx, (T.kn _ (.head _)).1, _, rfl, iteF ?_⟩
      exact ⟨_, rfl, (by show 2 ≤ sizeLine; decide), fun t ht => q t ht⟩
theorem ok_init {f : Addr} {fd : FuncData} (F : FunD K "__init__" "Ratio.__init__" (defArgs s_init) (defBody s_init) (defScope s_init) [.int 1] [] f fd) (T : RTx P K mg C CB fB CN)
    (D_whole0 : DefAt P w K mg base CX0 1 "is_whole" ["value"] (spWhole0 C)) (D_cd : DefAt P w K mg base CX0 1 "common_divisor" ["one", "other"] spCd) : FnOk P w K mg base (L2.CX P w) 3 f fd ["self", "top", "bottom"] (spInit C CB CN) := by
  refine F.ok sc_init (fun vs H Q E h => ?_) (fun cdv A outer s H vs Q E hr h => ?_)
  · obtain ⟨p, dx, tv, bv, rfl, _⟩ := h
    rfl
  · obtain ⟨p, dx, tv, bv, rfl, hp, tyt, tyb, kQ, kT, kB, kN⟩ := h
    refine ⟨_, (pss_cons (ps_if (pt_not (pt_val (My.pe_d D_whole0 (hr.mono (by decide)) (by rfl) pass0 (pa_cons (pv 1) pa_nil)))) (pss_one (ps_raise1 rfl T.e_BadRatio (hr.mono (by decide) : Room 0 _) (takes_of rfl rfl rfl rfl) (pa_cons pe_str pa_nil))) pss_nil)
      (pss_cons (ps_if (pt_not (pt_val (My.pe_d D_whole0 (hr.mono (by decide)) (by rfl) pass0 (pa_cons (pv 2) pa_nil)))) (pss_one (ps_raise1 rfl T.e_BadRatio (hr.mono (by decide) : Room 0 _) (takes_of rfl rfl rfl rfl) (pa_cons pe_str pa_nil))) pss_nil)
      (pss_cons (ps_if (pt_cmpR op_eq (pv 2) pe_int (nomark _)) (pss_one (ps_raise rfl (takes_of rfl rfl rfl rfl) (My.pmk_nil PySem.F.excBase_ValueError T.e_NoDivisor.x T.e_NoDivisor.g T.e_NoDivisor.k (raises_own T.e_NoDivisor.b T.e_NoDivisor.t) (by rfl)))) pss_nil)
      (pss_cons (ps_set (i := 3) sc_init.nd rfl (Or.inl rfl) (My.pe_d D_cd (hr.mono (by decide)) (by rfl) pass0 (pa_cons (pv 1) (pa_cons (pv 2) pa_nil))))
      (C8.pss_cut (ps_if (pt_cmpR op_lt (pv 2) pe_int (nomark _)) (pss_one (ps_set (i := 3) sc_init.nd rfl (Or.inl rfl) (pe_un un_neg (pv 3)))) pss_nil)
      (pss_cons (ps_fld (pv 0) (pe_op My.op_fdivX (pv 1) (pv 3)) rfl)
      (pss_one (ps_fld (pv 0) (pe_op My.op_fdivX (pv 2) (pv 3)) rfl)))))))), ?_⟩
    refine ⟨_, rfl, tv, rfl, tyt, _, rfl, ?_⟩
    cases e : isI tv with
    | false =>
      refine iteT ?_
      exact ⟨_, rfl, fun d hd => (kT e).go hd⟩
    | true =>
      refine iteF ?_
      refine ⟨_, rfl, bv, rfl, tyb, _, rfl, ?_⟩
      cases eb : isI bv with
      | false =>
        refine iteT ?_
        exact ⟨_, rfl, fun d hd => (kB e eb).go hd⟩
      | true =>
        refine iteF ?_
        obtain ⟨t, rfl⟩ := isI_int e
        obtain ⟨b, rfl⟩ := isI_int eb
        refine ⟨_, rfl, rfl, _, rfl, ?_⟩
        refine ite2 (fun c => ?_) (fun c => ?_)
        · have b0 : b = 0 := V.int.inj (of_decide_eq_true c)
          subst b0
          exact (kN rfl rfl).go
        · have b0 : b ≠ 0 := fun z => c (decide_eq_true (by rw [z]))
          obtain ⟨lb, kQ⟩ := kQ t b rfl rfl b0
          refine ⟨_, rfl, _, rfl, t, b, rfl, ?_⟩
          refine ⟨fun σ Hz => Hz = H ∧ σ = [some (.ref p), some (.int t), some (.int b), some (.int (sgcd t b))], ?_, ?_⟩
          · refine ⟨_, rfl, _, _, rfl, rfl, _, rfl, ?_⟩
            refine ite2 (fun c => ?_) (fun c => ?_)
            · have c' : b < 0 := of_decide_eq_true c
              refine ⟨_, rfl, _, rfl, rfl, ?_⟩
              unfold sgcd
              rw [if_pos c']
              rfl
            · have c' : ¬ b < 0 := fun z => c (decide_eq_true z)
              refine ⟨rfl, ?_⟩
              unfold sgcd
              rw [if_neg c']
              rfl
          · rintro σ Hz ⟨rfl, rfl⟩
            have sn := sgcd_ne (t := t) b0
            have sl : (sgcd t b).natAbs.log2 < 9000 := log_le (sgcd_le b0) lb (Int.natAbs_ne_zero.mpr sn)
            refine ⟨_, rfl, _, rfl, _, _, rfl, rfl, ⟨sn, sl⟩, _, rfl, p, C, dx, _, rfl, hp, T.cl, T.nT, (by show 0 < 1000; decide), ?_⟩
            refine ⟨_, rfl, _, rfl, _, _, rfl, rfl, ⟨sn, sl⟩, _, rfl, p, C, dx, _, rfl, upd_same, T.cl, T.nB, (by show 1 < 1000; decide), ?_⟩
            refine kQ _ upd_same fun c o z nc => ?_
            rw [upd_ne nc, upd_ne nc]
            exact z
theorem ok_isnum {f : Addr} {fd : FuncData} (F : Fun K "is_number" "Ratio.is_number" s_isnum f fd) (T : RTx P K mg C CB fB CN) (D_whole0 : DefAt P w K mg base CX0 1 "is_whole" ["value"] (spWhole0 C)) : FnOk P w K mg base CX0 2 f fd ["thing"] (spIsnum C) := by
  refine F.ok sc_isnum (fun vs H Q E h => ?_) (fun cdv A outer s H vs Q E hr h => ?_)
  · obtain ⟨v, b, rfl, _⟩ := h
    rfl
  · obtain ⟨v, b, rfl, hv, q⟩ := h
    refine ⟨_, (pss_one (ps_ret (pe_or (pe_callB call_isi (by rfl) T.z_isinstance boot_isinstance (pa_cons (pv 0) (pa_cons (pe_glob (v := .ref C) (by rfl) T.gR rfl) pa_nil))) (pe_one (My.pe_d D_whole0 (hr.mono (by decide)) (by rfl) pass0 (pa_cons (pv 0) pa_nil)))))), ?_⟩
    rcases hv with ⟨rfl, n, d, hv⟩ | ⟨rfl, ⟨t, ty⟩, ni⟩
    · rcases hv with ⟨p, rfl, hl⟩ | ⟨rfl, _⟩
      · exact ⟨_, rfl, _, _, _, _, true, rfl, .own _, T.ty hl, T.me, _, rfl, iteT q⟩
      · exact ⟨_, rfl, _, _, _, _, false, rfl, .own _, (Ty0.int n).tyx, (T.kn _ (.head _)).1, _, rfl, iteF ⟨_, rfl, _, rfl, TyL.int _ _ _, q⟩⟩
    · refine ⟨_, rfl, _, _, _, _, false, rfl, .own _, ty.tyx, (T.kn _ ty.mem).1, _, rfl, iteF ⟨_, rfl, _, rfl, .inl ⟨t, ty⟩, ?_⟩⟩
      rw [ni]
      exact q
theorem ok_of {f : Addr} {fd : FuncData} (F : Fun K "of" "Ratio.of" s_of f fd) (T : RTx P K mg C CB fB CN) (S_is_number : StatAt P w K mg base CX0 2 C "is_number" ["thing"] (spIsnum C)) (D_partsof : DefAt P w K mg base CX0 1 "parts_of" ["number"] (spParts0 C))
    (M_Ratio : MakeAt P w K mg base (L2.CX P w) 3 "Ratio" C ["self", "top", "bottom"] (spInit C CB CN) []) : FnOk P w K mg base (L2.CX P w) 5 f fd ["number"] (spOf C CB) := by
  refine F.okX sc_of (fun vs H Q E h => ?_) (fun cdv A outer s H vs Q E hr h => ?_)
  · obtain ⟨v, rfl, _⟩ := h
    rfl
  · obtain ⟨v, rfl, h⟩ := h
    refine ⟨_, (pss_cons (ps_if (pt_not (pt_val (My.pe_st S_is_number (hr.mono (by decide)) pass0 (pe_glob (v := .ref C) (by rfl) T.gR rfl) (pa_cons (pv 0) pa_nil)))) (pss_one (ps_raise1 rfl T.e_BadRatio (hr.mono (by decide) : Room 0 _) (takes_of rfl rfl rfl rfl) (pa_cons pe_str pa_nil))) pss_nil)
      (pss_cons (ps_asg (My.pe_d D_partsof (hr.mono (by decide)) (by rfl) pass0 (pa_cons (pv 0) pa_nil)) (pg_tup rfl (pgs_cons (pg_name (i := 1) sc_of.nd rfl (Or.inl rfl)) (pgs_cons (pg_name (i := 2) sc_of.nd rfl (Or.inl rfl)) pgs_nil))))
      (pss_one (ps_ret (My.pe_mk M_Ratio (hr.mono (by decide)) (by rfl) passL (pa_cons (pv 1) (pa_cons (pv 2) pa_nil))))))), ?_⟩
    rcases h with ⟨a, b, hv, b0, lb, q⟩ | ⟨⟨t, ty⟩, ni, q⟩
    · refine ⟨rfl, _, rfl, v, true, rfl, .inl ⟨rfl, a, b, hv⟩, _, rfl, iteF ?_⟩
      refine ⟨_, rfl, v, a, b, rfl, hv, fun t ht => ?_⟩
      refine ⟨t, _, rfl, SqT.of upd_same, rfl, _, _, rfl, _, _, rfl, rfl, ?_⟩
      refine ⟨_, rfl, _, rfl, fun x dx hx hd ne => init_at b0 lb hx hd ne fun H' l s => q x H' l ((same_new ht).trans s)⟩
    · refine ⟨rfl, _, rfl, v, false, rfl, .inr ⟨rfl, ⟨t, ty⟩, ni⟩, _, rfl, iteT ?_⟩
      exact ⟨_, rfl, fun d hd => q.go hd⟩
end
end My
namespace My
open PySem PySem.Spec PyProof.Rows L2
abbrev s_eq : Stmt := inClass (topS 13) 20
theorem sc_eq : FnScope ["self", "other"] ["self", "other"] (defScope s_eq) := ⟨rfl, rfl, rfl, by decide +kernel, rfl, by decide +kernel, by decide +kernel⟩
abbrev s_bool : Stmt := inClass (topS 13) 19
theorem sc_bool : FnScope ["self"] ["self"] (defScope s_bool) := ⟨rfl, rfl, rfl, by decide +kernel, rfl, by decide +kernel, by decide +kernel⟩
abbrev s_str : Stmt := inClass (topS 13) 25
theorem sc_str : FnScope ["self"] ["self"] (defScope s_str) := ⟨rfl, rfl, rfl, by decide +kernel, rfl, by decide +kernel, by decide +kernel⟩
theorem eqv_two (a b c d : Int) : PyData.eqv (.tuple [.int a, .int b]) (.tuple [.int c, .int d]) = decide (a = c ∧ b = d) := by
  show (a == c && (b == d && true)) = decide (a = c ∧ b = d)
  rw [Bool.and_true, Bool.decide_and]
  rfl
/-- a tuple of ints shown -/
theorem tup_show {K : PySem.W.Frag} {H : Hp} {l : Addr} (ns : List Int) (hz : ∀ z ∈ ns, z.natAbs.log2 < 1920) (hl : ns.length ≤ 1000) (h : H l = some (.tup (ns.map V.int))) : Dr K H (.ref l) (.tuple (ns.map PyData.int)) ∧ (PyData.tuple (ns.map PyData.int)).showable = true ∧ (PyData.tuple (ns.map PyData.int)).depth ≤ 60 ∧ (PyData.tuple (ns.map PyData.int)).shown.length ≤ sizeLine := by
  refine ⟨.inl (.tup (SqT.of h) (dp_ints ns)), showable_ints ns hz, ?_, ?_⟩
  · show PyData.depthAll (ns.map PyData.int) + 1 ≤ 60
    rw [dep_ints]
    decide
  · have h1 := tupleText_len_le (PyData.shownAll (ns.map PyData.int))
    obtain ⟨h2, h3⟩ := shown_sum ns hz
    show (tupleText (PyData.shownAll (ns.map PyData.int))).length ≤ sizeLine
    rw [sizeLine_eq]
    omega
theorem two_show {K : PySem.W.Frag} {H : Hp} {l : Addr} {a b : Int} (ha : a.natAbs.log2 < 1920) (hb : b.natAbs.log2 < 1920) (h : H l = some (.tup [.int a, .int b])) : Dr K H (.ref l) (.tuple [.int a, .int b]) ∧ (PyData.tuple [.int a, .int b]).showable = true ∧ (PyData.tuple [.int a, .int b]).depth ≤ 60 ∧ (PyData.tuple [.int a, .int b]).shown.length ≤ sizeLine :=
  tup_show [a, b] (fun z hz => by
    simp only [List.mem_cons, List.mem_nil_iff, or_false] at hz
    rcases hz with rfl | rfl
    · exact ha
    · exact hb) (by show 2 ≤ 1000; decide) h
def spEqR (C : Addr) : Sp := fun vs H Q _ => ∃ (p : Addr) (a b : Int) (v : V), vs = [.ref p, v] ∧ RatAt C H p a b ∧
  ((∃ c d, NumAt C H v c d ∧ ∀ H', Same H H' → Q (.bl (decide (a = c ∧ b = d))) H') ∨ ((∃ t, Ty0 H v t) ∧ isI v = false ∧ Q (.bl false) H))
def spBoolR (C : Addr) : Sp := fun vs H Q _ => ∃ (p : Addr) (a b : Int), vs = [.ref p] ∧ RatAt C H p a b ∧ Q (.bl (a != 0)) H
def ratT (a b : Int) : Str := if b = 1 then ((toString a : String) : Str) else ((Str.empty ++ ((toString a : String) : Str)) ++ "/") ++ ((toString b : String) : Str)
def spStrR (C : Addr) : Sp := fun vs H Q _ => ∃ (p : Addr) (a b : Int), vs = [.ref p] ∧ RatAt C H p a b ∧ a.natAbs.log2 < 1920 ∧ b.natAbs.log2 < 1920 ∧ Q (.str (ratT a b)) H
section
variable {P : Program} {w : World} {K : PySem.W.Frag} {mg : Str → Option Value} {base : Heap} {C CB fB CN : Addr}
theorem ok_eq {f : Addr} {fd : FuncData} (F : Fun K "__eq__" "Ratio.__eq__" s_eq f fd) (T : RTx P K mg C CB fB CN) (S_is_number : StatAt P w K mg base CX0 2 C "is_number" ["thing"] (spIsnum C)) (D_partsof : DefAt P w K mg base CX0 1 "parts_of" ["number"] (spParts0 C)) : FnOk P w K mg base CX0 3 f fd ["self", "other"] (spEqR C) := by
  refine F.ok sc_eq (fun vs H Q E h => ?_) (fun cdv A outer s H vs Q E hr h => ?_)
  · obtain ⟨p, a, b, v, rfl, _⟩ := h
    rfl
  · obtain ⟨p, a, b, v, rfl, hp, h⟩ := h
    refine ⟨_, (pss_one (ps_ret (pe_and (My.pe_st S_is_number (hr.mono (by decide)) pass0 (pe_glob (v := .ref C) (by rfl) T.gR rfl) (pa_cons (pv 1) pa_nil)) (pe_one (pe_cmpR (op_eqD hr.units) (pe_tup (pa_cons (pe_fld (pv 0) rfl) (pa_cons (pe_fld (pv 0) rfl) pa_nil))) (My.pe_d D_partsof (hr.mono (by decide)) (by rfl) pass0 (pa_cons (pv 1) pa_nil)) (nomark _)))))), ?_⟩
    obtain ⟨dx, e⟩ := id hp
    rcases h with ⟨c, d, hv, k⟩ | ⟨ty, ni, k⟩
    · refine ⟨rfl, _, rfl, v, true, rfl, .inl ⟨rfl, c, d, hv⟩, _, rfl, iteT ?_⟩
      refine ⟨_, rfl, p, C, dx, _, _, rfl, e, T.cl, T.nT, rfs_top _ _, _, rfl, p, C, dx, _, _, rfl, e, T.cl, T.nB, rfs_bot _ _, (by show 2 ≤ sizeLine; decide), fun t1 h1 => ?_⟩
      refine ⟨_, rfl, v, c, d, rfl, hv.same (same_new h1), fun t2 h2 => ?_⟩
      have w1 := same_new (o := .tup [.int c, .int d]) h2 _ _ (upd_same (H := H) (a := t1) (o := .tup [.int a, .int b]))
      refine ⟨.tuple [.int a, .int b], .tuple [.int c, .int d], .tup (SqT.of w1) (.cons (.int a) (.cons (.int b) .nil)), .tup (SqT.of upd_same) (.cons (.int c) (.cons (.int d) .nil)), rfl, rfl, ?_⟩
      rw [eqv_two]
      exact k _ ((same_new h1).trans (same_new h2))
    · exact ⟨rfl, _, rfl, v, false, rfl, .inr ⟨rfl, ty, ni⟩, _, rfl, iteF k⟩
theorem ok_bool {f : Addr} {fd : FuncData} (F : Fun K "__bool__" "Ratio.__bool__" s_bool f fd) (T : RTx P K mg C CB fB CN) : FnOk P w K mg base CX0 1 f fd ["self"] (spBoolR C) := by
  refine F.ok sc_bool (fun vs H Q E h => ?_) (fun cdv A outer s H vs Q E hr h => ?_)
  · obtain ⟨p, a, b, rfl, _⟩ := h
    rfl
  · obtain ⟨p, a, b, rfl, ⟨dx, e⟩, k⟩ := h
    refine ⟨_, (pss_one (ps_ret (pe_callTy call_bool1 (by rfl) T.z_bool boot_bool (pa_cons (pe_fld (pv 0) rfl) pa_nil)))), ?_⟩
    exact ⟨_, rfl, p, C, dx, _, _, rfl, e, T.cl, T.nT, rfs_top _ _, .inl ⟨_, rfl, k⟩⟩
theorem ok_str {f : Addr} {fd : FuncData} (F : Fun K "__str__" "Ratio.__str__" s_str f fd) (T : RTx P K mg C CB fB CN) : FnOk P w K mg base CX0 1 f fd ["self"] (spStrR C) := by
  refine F.ok sc_str (fun vs H Q E h => ?_) (fun cdv A outer s H vs Q E hr h => ?_)
  · obtain ⟨p, a, b, rfl, _⟩ := h
    rfl
  · obtain ⟨p, a, b, rfl, ⟨dx, e⟩, ha, hb, k⟩ := h
    refine ⟨_, (pss_cons (ps_if (pt_cmpR op_eq (pe_fld (pv 0) rfl) pe_int (nomark _)) (pss_one (ps_ret (pe_callTy call_str_int (by rfl) T.z_str boot_str (pa_cons (pe_fld (pv 0) rfl) pa_nil)))) pss_nil)
      (pss_one (ps_ret (pe_joined (PJ.cons (pe_fmt (pe_fld (pv 0) rfl)) (PJ.cons pe_str (PJ.cons (pe_fmt (pe_fld (pv 0) rfl)) PJ.nil))))))), ?_⟩
    refine ⟨_, rfl, p, C, dx, _, _, rfl, e, T.cl, T.nB, rfs_bot _ _, rfl, _, rfl, ?_⟩
    refine ite2 (fun c => ?_) (fun c => ?_)
    · have c' : b = 1 := V.int.inj (of_decide_eq_true c)
      unfold ratT at k
      rw [if_pos c'] at k
      exact ⟨_, rfl, p, C, dx, _, _, rfl, e, T.cl, T.nT, rfs_top _ _, a, rfl, ha, k⟩
    · have c' : ¬ b = 1 := fun z => c (decide_eq_true (by rw [z]))
      unfold ratT at k
      rw [if_neg c'] at k
      have la := num_len ha
      have lb := num_len hb
      have e1 : (Str.empty).length = 0 := rfl
      have e2 : (("/" : Str)).length = 1 := rfl
      exact ⟨_, rfl, p, C, dx, _, _, rfl, e, T.cl, T.nT, rfs_top _ _, .inr ⟨a, rfl, ha, _, rfl, by rw [app_len, sizeLine_eq]; omega, _, rfl, by rw [app_len, app_len, sizeLine_eq]; omega, _, rfl, p, C, dx, _, _, rfl, e, T.cl, T.nB, rfs_bot _ _, .inr ⟨b, rfl, hb, _, rfl, by rw [app_len, app_len, app_len, sizeLine_eq]; omega, k⟩⟩⟩
end
end My
namespace My
open PySem PySem.Spec PyProof.Rows L2
/-! ### the operators of Ratio -/
abbrev s_add : Stmt := inClass (topS 13) 7
theorem sc_add : FnScope ["self", "other", "top", "bottom"] ["self", "other"] (defScope s_add) := ⟨rfl, rfl, rfl, by decide +kernel, rfl, by decide +kernel, by decide +kernel⟩
abbrev s_radd : Stmt := inClass (topS 13) 8
theorem sc_radd : FnScope ["self", "other"] ["self", "other"] (defScope s_radd) := ⟨rfl, rfl, rfl, by decide +kernel, rfl, by decide +kernel, by decide +kernel⟩
abbrev s_sub : Stmt := inClass (topS 13) 9
theorem sc_sub : FnScope ["self", "other", "top", "bottom"] ["self", "other"] (defScope s_sub) := ⟨rfl, rfl, rfl, by decide +kernel, rfl, by decide +kernel, by decide +kernel⟩
abbrev s_rsub : Stmt := inClass (topS 13) 10
theorem sc_rsub : FnScope ["self", "other"] ["self", "other"] (defScope s_rsub) := ⟨rfl, rfl, rfl, by decide +kernel, rfl, by decide +kernel, by decide +kernel⟩
abbrev s_mul : Stmt := inClass (topS 13) 11
theorem sc_mul : FnScope ["self", "other", "top", "bottom"] ["self", "other"] (defScope s_mul) := ⟨rfl, rfl, rfl, by decide +kernel, rfl, by decide +kernel, by decide +kernel⟩
abbrev s_rmul : Stmt := inClass (topS 13) 12
theorem sc_rmul : FnScope ["self", "other"] ["self", "other"] (defScope s_rmul) := ⟨rfl, rfl, rfl, by decide +kernel, rfl, by decide +kernel, by decide +kernel⟩
abbrev s_fdv : Stmt := inClass (topS 13) 13
theorem sc_fdv : FnScope ["self", "other", "top", "bottom"] ["self", "other"] (defScope s_fdv) := ⟨rfl, rfl, rfl, by decide +kernel, rfl, by decide +kernel, by decide +kernel⟩
abbrev s_rfdv : Stmt := inClass (topS 13) 14
theorem sc_rfdv : FnScope ["self", "other", "top", "bottom"] ["self", "other"] (defScope s_rfdv) := ⟨rfl, rfl, rfl, by decide +kernel, rfl, by decide +kernel, by decide +kernel⟩
abbrev s_mod : Stmt := inClass (topS 13) 15
theorem sc_mod : FnScope ["self", "other"] ["self", "other"] (defScope s_mod) := ⟨rfl, rfl, rfl, by decide +kernel, rfl, by decide +kernel, by decide +kernel⟩
abbrev s_rmod : Stmt := inClass (topS 13) 16
theorem sc_rmod : FnScope ["self", "other"] ["self", "other"] (defScope s_rmod) := ⟨rfl, rfl, rfl, by decide +kernel, rfl, by decide +kernel, by decide +kernel⟩
abbrev s_neg : Stmt := inClass (topS 13) 17
theorem sc_neg : FnScope ["self"] ["self"] (defScope s_neg) := ⟨rfl, rfl, rfl, by decide +kernel, rfl, by decide +kernel, by decide +kernel⟩
abbrev s_abs : Stmt := inClass (topS 13) 18
theorem sc_abs : FnScope ["self"] ["self"] (defScope s_abs) := ⟨rfl, rfl, rfl, by decide +kernel, rfl, by decide +kernel, by decide +kernel⟩
abbrev s_over : Stmt := inClass (topS 13) 6
theorem sc_over : FnScope ["self", "number", "top", "bottom"] ["self", "number"] (defScope s_over) := ⟨rfl, rfl, rfl, by decide +kernel, rfl, by decide +kernel, by decide +kernel⟩
abbrev s_floorof : Stmt := topS 12
theorem sc_floorof : FnScope ["top", "bottom"] ["top", "bottom"] (defScope s_floorof) := ⟨rfl, rfl, rfl, by decide +kernel, rfl, by decide +kernel, by decide +kernel⟩
/-- an int of less than 2000 bits, of less than 300 -/
def B2 (z : Int) : Prop := z.natAbs < 2 ^ 2000
def B1 (z : Int) : Prop := z.natAbs < 2 ^ 300
theorem pow_le {i j : Nat} (h : i ≤ j) : 2 ^ i ≤ 2 ^ j := Nat.pow_le_pow_right (by decide) h
theorem bd_le {z : Int} {i j : Nat} (h : z.natAbs < 2 ^ i) (k : i ≤ j) : z.natAbs < 2 ^ j := Nat.lt_of_lt_of_le h (pow_le k)
theorem bd_mul {x y : Int} {i j : Nat} (h : x.natAbs < 2 ^ i) (k : y.natAbs < 2 ^ j) : (x * y).natAbs < 2 ^ (i + j) := by
  rw [Int.natAbs_mul, Nat.pow_add]
  exact Nat.mul_lt_mul_of_lt_of_lt h k
theorem bd_add {x y : Int} {i : Nat} (h : x.natAbs < 2 ^ i) (k : y.natAbs < 2 ^ i) : (x + y).natAbs < 2 ^ (i + 1) := by
  have := Int.natAbs_add_le x y
  rw [Nat.pow_succ]
  omega
theorem bd_sub {x y : Int} {i : Nat} (h : x.natAbs < 2 ^ i) (k : y.natAbs < 2 ^ i) : (x - y).natAbs < 2 ^ (i + 1) := by
  have := Int.natAbs_sub_le x y
  rw [Nat.pow_succ]
  omega
theorem B1.b2 {z : Int} (h : B1 z) : B2 z := bd_le h (by decide)
theorem B2.mul {x y : Int} (h : B2 x) (k : B2 y) : CMulW x y := Sm.mul h k
theorem B2.one : B2 1 := Nat.one_lt_two_pow (by decide)
theorem log_2 {z : Int} {i : Nat} (h : z.natAbs < 2 ^ i) (hi : 0 < i := by decide) (k : i ≤ 8999 := by decide) : z.natAbs.log2 < 9000 := Nat.lt_of_lt_of_le (PySem.Flt.log2_lt_of hi h) (by omega)
theorem B2.prod {x y : Int} (h : B2 x) (k : B2 y) : (x * y).natAbs.log2 < 9000 := log_2 (bd_mul h k)
theorem pos_ne {x y : Int} (h : 0 < x) (k : 0 < y) : x * y ≠ 0 := Int.mul_ne_zero (by omega) (by omega)
theorem fdiv_bd0 {x y : Int} {i : Nat} (h : x.natAbs < 2 ^ i) (g : 0 < y) : (x.fdiv y).natAbs < 2 ^ (i + 1) := by
  have e := Int.mul_fdiv_add_fmod x y
  rw [Nat.pow_succ]
  have f1 : 0 ≤ x.fmod y := (fmod_bd g).1
  have f2 : x.fmod y < y := (fmod_bd g).2
  have hq : (x.fdiv y).natAbs ≤ x.natAbs + 1 := by
    have h3 : (y * x.fdiv y).natAbs ≤ x.natAbs + y.natAbs - 1 := by omega
    rw [Int.natAbs_mul] at h3
    have hy1 : 1 ≤ y.natAbs := by omega
    rcases Nat.lt_or_ge (x.natAbs + 1) (x.fdiv y).natAbs with c | c
    · exfalso
      have c2 : y.natAbs * (x.natAbs + 2) ≤ y.natAbs * (x.fdiv y).natAbs := Nat.mul_le_mul_left _ c
      have c3 : y.natAbs * (x.natAbs + 2) = y.natAbs * x.natAbs + 2 * y.natAbs := by grind
      have c4 : x.natAbs ≤ y.natAbs * x.natAbs := Nat.le_mul_of_pos_left _ hy1
      omega
    · exact c
  omega
theorem fdiv_bd {x y : Int} {i : Nat} (h : x.natAbs < 2 ^ i) (hy : y ≠ 0) : (x.fdiv y).natAbs < 2 ^ (i + 1) := by
  rcases Int.lt_or_gt_of_ne hy with g | g
  · have e : x.fdiv y = (-x).fdiv (-y) := (Int.neg_fdiv_neg ..).symm
    rw [e]
    exact fdiv_bd0 (by rw [Int.natAbs_neg]; exact h) (by omega)
  · exact fdiv_bd0 h g
/-- what an operator of two numbers makes: a new Ratio of this top and this bottom -/
def spBin (C : Addr) (f : Int → Int → Int → Int → Int) : Sp := fun vs H Q _ => ∃ (p : Addr) (a b : Int) (v : V) (c d : Int), vs = [.ref p, v] ∧ RatAt C H p a b ∧ 0 < b ∧ NumAt C H v c d ∧ 0 < d ∧ B2 a ∧ B2 b ∧ B2 c ∧ B2 d ∧
  ∀ (q : Addr) (H' : Hp), RatAt C H' q (lowT (f a b c d) (b * d)) (lowB (f a b c d) (b * d)) → Same H H' → Q (.ref q) H'
def fAdd (a b c d : Int) : Int := a * d + c * b
def fSub (a b c d : Int) : Int := a * d - c * b
def fMul (a b c d : Int) : Int := a * c
/-- other - self, self in lowest terms -/
def spRsub (C : Addr) : Sp := fun vs H Q _ => ∃ (p : Addr) (a b : Int) (v : V) (c d : Int), vs = [.ref p, v] ∧ RatAt C H p a b ∧ 0 < b ∧ Int.gcd a b = 1 ∧ NumAt C H v c d ∧ 0 < d ∧ B2 a ∧ B2 b ∧ B2 c ∧ B2 d ∧
  ∀ (q : Addr) (H' : Hp), RatAt C H' q (lowT (c * b - a * d) (b * d)) (lowB (c * b - a * d) (b * d)) → Same H H' → Q (.ref q) H'
def spNeg (C : Addr) : Sp := fun vs H Q _ => ∃ (p : Addr) (a b : Int), vs = [.ref p] ∧ RatAt C H p a b ∧ 0 < b ∧ Int.gcd a b = 1 ∧ B2 b ∧ ∀ (q : Addr) (H' : Hp), RatAt C H' q (-a) b → Same H H' → Q (.ref q) H'
def spAbs (C : Addr) : Sp := fun vs H Q _ => ∃ (p : Addr) (a b : Int), vs = [.ref p] ∧ RatAt C H p a b ∧ 0 < b ∧ Int.gcd a b = 1 ∧ B2 b ∧ ∀ (q : Addr) (H' : Hp), RatAt C H' q (if a < 0 then -a else a) b → Same H H' → Q (.ref q) H'
def spFloor (CN : Addr) : Sp := fun vs H Q E => ∃ (t b : Int), vs = [.int t, .int b] ∧ (b ≠ 0 → b.natAbs.log2 < 9000 ∧ Q (.int (t.fdiv b)) H) ∧ (b = 0 → Err0 E CN H)
def spFdv (C CN : Addr) : Sp := fun vs H Q E => ∃ (p : Addr) (a b : Int) (v : V) (c d : Int), vs = [.ref p, v] ∧ RatAt C H p a b ∧ 0 < b ∧ NumAt C H v c d ∧ 0 < d ∧ B2 a ∧ B2 b ∧ B2 c ∧ B2 d ∧
  (c ≠ 0 → ∀ H', Same H H' → Q (.int ((a * d).fdiv (b * c))) H') ∧ (c = 0 → Err0 E CN H)
def spRfdv (C CN : Addr) : Sp := fun vs H Q E => ∃ (p : Addr) (a b : Int) (v : V) (c d : Int), vs = [.ref p, v] ∧ RatAt C H p a b ∧ 0 < b ∧ NumAt C H v c d ∧ 0 < d ∧ B2 a ∧ B2 b ∧ B2 c ∧ B2 d ∧
  (a ≠ 0 → ∀ H', Same H H' → Q (.int ((c * b).fdiv (d * a))) H') ∧ (a = 0 → Err0 E CN H)
def spOver (C CN : Addr) : Sp := fun vs H Q E => ∃ (p : Addr) (a b : Int) (v : V) (c d : Int), vs = [.ref p, v] ∧ RatAt C H p a b ∧ 0 < b ∧ NumAt C H v c d ∧ 0 < d ∧ B2 a ∧ B2 b ∧ B2 c ∧ B2 d ∧
  (c ≠ 0 → ∀ (q : Addr) (H' : Hp), RatAt C H' q (lowT (a * d) (b * c)) (lowB (a * d) (b * c)) → Same H H' → Q (.ref q) H') ∧ (c = 0 → Err0 E CN H)
/-- self % other -/
def spMod (C CN : Addr) : Sp := fun vs H Q E => ∃ (p : Addr) (a b : Int) (v : V) (c d : Int), vs = [.ref p, v] ∧ RatAt C H p a b ∧ 0 < b ∧ NumAt C H v c d ∧ 0 < d ∧ B1 a ∧ B1 b ∧ B1 c ∧ B1 d ∧
  (c ≠ 0 → ∀ (q : Addr) (H' : Hp), RatAt C H' q (lowT (a * d - (a * d).fdiv (b * c) * c * b) (b * d)) (lowB (a * d - (a * d).fdiv (b * c) * c * b) (b * d)) → Same H H' → Q (.ref q) H') ∧ (c = 0 → Err0 E CN H)
/-- an int % self, self in lowest terms -/
def spRmod (C CN : Addr) : Sp := fun vs H Q E => ∃ (p : Addr) (a b c : Int), vs = [.ref p, .int c] ∧ RatAt C H p a b ∧ 0 < b ∧ Int.gcd a b = 1 ∧ B1 a ∧ B1 b ∧ B1 c ∧
  (a ≠ 0 → ∀ (q : Addr) (H' : Hp), RatAt C H' q (lowT (c * b - (c * b).fdiv a * a) b) (lowB (c * b - (c * b).fdiv a * a) b) → Same H H' → Q (.ref q) H') ∧ (a = 0 → Err0 E CN H)
theorem low_abs {a b : Int} (p : 0 < b) (c : Int.gcd a b = 1) : lowT (if a < 0 then -a else a) b = (if a < 0 then -a else a) ∧ lowB (if a < 0 then -a else a) b = b := by
  refine low_self p ?_
  split
  · rw [Int.neg_gcd]
    exact c
  · exact c
section
variable {P : Program} {w : World} {K : PySem.W.Frag} {mg : Str → Option Value} {base : Heap} {C CB fB CN : Addr}
theorem ok_add {f : Addr} {fd : FuncData} (F : Fun K "__add__" "Ratio.__add__" s_add f fd) (T : RTx P K mg C CB fB CN) (S_is_number : StatAt P w K mg base CX0 2 C "is_number" ["thing"] (spIsnum C)) (D_partsof : DefAt P w K mg base CX0 1 "parts_of" ["number"] (spParts0 C)) (M_Ratio : MakeAt P w K mg base (L2.CX P w) 3 "Ratio" C ["self", "top", "bottom"] (spInit C CB CN) []) : FnOk P w K mg base CX0 5 f fd ["self", "other"] (spBin C fAdd) := by
  refine F.ok sc_add (fun vs H Q E h => ?_) (fun cdv A outer s H vs Q E hr h => ?_)
  · obtain ⟨p, a, b, v, c, d, rfl, _⟩ := h
    rfl
  · obtain ⟨p, a, b, v, c, d, rfl, hp, b0, hv, d0, ba, bb, bc, bd, k⟩ := h
    refine ⟨_, (pss_cons (ps_if (pt_not (pt_val (My.pe_st S_is_number (hr.mono (by decide)) pass0 (pe_glob (v := .ref C) (by rfl) T.gR rfl) (pa_cons (pv 1) pa_nil)))) (pss_one ps_never) pss_nil)
      (pss_cons (ps_asg (My.pe_d D_partsof (hr.mono (by decide)) (by rfl) pass0 (pa_cons (pv 1) pa_nil)) (pg_tup rfl (pgs_cons (pg_name (i := 2) sc_add.nd rfl (Or.inl rfl)) (pgs_cons (pg_name (i := 3) sc_add.nd rfl (Or.inl rfl)) pgs_nil))))
      (pss_one (ps_ret (My.pe_mk M_Ratio (hr.mono (by decide)) (by rfl) passL (pa_cons (pe_op op_add (pe_op op_mulW (pe_fld (pv 0) rfl) (pv 3)) (pe_op op_mulW (pv 2) (pe_fld (pv 0) rfl))) (pa_cons (pe_op op_mulW (pe_fld (pv 0) rfl) (pv 3)) pa_nil))))))), ?_⟩
    refine ⟨rfl, _, rfl, v, true, rfl, .inl ⟨rfl, c, d, hv⟩, _, rfl, iteF ?_⟩
    refine ⟨_, rfl, v, c, d, rfl, hv, fun t ht => ⟨t, _, rfl, SqT.of upd_same, rfl, _, _, rfl, _, _, rfl, rfl, ?_⟩⟩
    have st := same_new (o := .tup [.int c, .int d]) ht
    obtain ⟨dx, e0⟩ := hp
    have e1 := st _ _ e0
    refine ⟨_, rfl, p, C, dx, _, _, rfl, e1, T.cl, T.nT, rfs_top _ _, _, rfl, _, _, rfl, rfl, B2.mul ba bd, _, rfl, _, rfl, p, C, dx, _, _, rfl, e1, T.cl, T.nB, rfs_bot _ _, _, _, rfl, rfl, B2.mul bc bb, _, _, rfl, rfl, _, rfl, p, C, dx, _, _, rfl, e1, T.cl, T.nB, rfs_bot _ _, _, rfl, _, _, rfl, rfl, B2.mul bb bd, fun x dx' hx hd ne => init_at (pos_ne b0 d0) (B2.prod bb bd) hx hd ne fun H' l s => k x H' l (st.trans s)⟩
theorem ok_sub {f : Addr} {fd : FuncData} (F : Fun K "__sub__" "Ratio.__sub__" s_sub f fd) (T : RTx P K mg C CB fB CN) (S_is_number : StatAt P w K mg base CX0 2 C "is_number" ["thing"] (spIsnum C)) (D_partsof : DefAt P w K mg base CX0 1 "parts_of" ["number"] (spParts0 C)) (M_Ratio : MakeAt P w K mg base (L2.CX P w) 3 "Ratio" C ["self", "top", "bottom"] (spInit C CB CN) []) : FnOk P w K mg base CX0 5 f fd ["self", "other"] (spBin C fSub) := by
  refine F.ok sc_sub (fun vs H Q E h => ?_) (fun cdv A outer s H vs Q E hr h => ?_)
  · obtain ⟨p, a, b, v, c, d, rfl, _⟩ := h
    rfl
  · obtain ⟨p, a, b, v, c, d, rfl, hp, b0, hv, d0, ba, bb, bc, bd, k⟩ := h
    refine ⟨_, (pss_cons (ps_if (pt_not (pt_val (My.pe_st S_is_number (hr.mono (by decide)) pass0 (pe_glob (v := .ref C) (by rfl) T.gR rfl) (pa_cons (pv 1) pa_nil)))) (pss_one ps_never) pss_nil)
      (pss_cons (ps_asg (My.pe_d D_partsof (hr.mono (by decide)) (by rfl) pass0 (pa_cons (pv 1) pa_nil)) (pg_tup rfl (pgs_cons (pg_name (i := 2) sc_sub.nd rfl (Or.inl rfl)) (pgs_cons (pg_name (i := 3) sc_sub.nd rfl (Or.inl rfl)) pgs_nil))))
      (pss_one (ps_ret (My.pe_mk M_Ratio (hr.mono (by decide)) (by rfl) passL (pa_cons (pe_op op_sub (pe_op op_mulW (pe_fld (pv 0) rfl) (pv 3)) (pe_op op_mulW (pv 2) (pe_fld (pv 0) rfl))) (pa_cons (pe_op op_mulW (pe_fld (pv 0) rfl) (pv 3)) pa_nil))))))), ?_⟩
    refine ⟨rfl, _, rfl, v, true, rfl, .inl ⟨rfl, c, d, hv⟩, _, rfl, iteF ?_⟩
    refine ⟨_, rfl, v, c, d, rfl, hv, fun t ht => ⟨t, _, rfl, SqT.of upd_same, rfl, _, _, rfl, _, _, rfl, rfl, ?_⟩⟩
    have st := same_new (o := .tup [.int c, .int d]) ht
    obtain ⟨dx, e0⟩ := hp
    have e1 := st _ _ e0
    refine ⟨_, rfl, p, C, dx, _, _, rfl, e1, T.cl, T.nT, rfs_top _ _, _, rfl, _, _, rfl, rfl, B2.mul ba bd, _, rfl, _, rfl, p, C, dx, _, _, rfl, e1, T.cl, T.nB, rfs_bot _ _, _, _, rfl, rfl, B2.mul bc bb, _, _, rfl, rfl, _, rfl, p, C, dx, _, _, rfl, e1, T.cl, T.nB, rfs_bot _ _, _, rfl, _, _, rfl, rfl, B2.mul bb bd, fun x dx' hx hd ne => init_at (pos_ne b0 d0) (B2.prod bb bd) hx hd ne fun H' l s => k x H' l (st.trans s)⟩
theorem ok_mul {f : Addr} {fd : FuncData} (F : Fun K "__mul__" "Ratio.__mul__" s_mul f fd) (T : RTx P K mg C CB fB CN) (S_is_number : StatAt P w K mg base CX0 2 C "is_number" ["thing"] (spIsnum C)) (D_partsof : DefAt P w K mg base CX0 1 "parts_of" ["number"] (spParts0 C)) (M_Ratio : MakeAt P w K mg base (L2.CX P w) 3 "Ratio" C ["self", "top", "bottom"] (spInit C CB CN) []) : FnOk P w K mg base CX0 5 f fd ["self", "other"] (spBin C fMul) := by
  refine F.ok sc_mul (fun vs H Q E h => ?_) (fun cdv A outer s H vs Q E hr h => ?_)
  · obtain ⟨p, a, b, v, c, d, rfl, _⟩ := h
    rfl
  · obtain ⟨p, a, b, v, c, d, rfl, hp, b0, hv, d0, ba, bb, bc, bd, k⟩ := h
    refine ⟨_, (pss_cons (ps_if (pt_not (pt_val (My.pe_st S_is_number (hr.mono (by decide)) pass0 (pe_glob (v := .ref C) (by rfl) T.gR rfl) (pa_cons (pv 1) pa_nil)))) (pss_one ps_never) pss_nil)
      (pss_cons (ps_asg (My.pe_d D_partsof (hr.mono (by decide)) (by rfl) pass0 (pa_cons (pv 1) pa_nil)) (pg_tup rfl (pgs_cons (pg_name (i := 2) sc_mul.nd rfl (Or.inl rfl)) (pgs_cons (pg_name (i := 3) sc_mul.nd rfl (Or.inl rfl)) pgs_nil))))
      (pss_one (ps_ret (My.pe_mk M_Ratio (hr.mono (by decide)) (by rfl) passL (pa_cons (pe_op op_mulW (pe_fld (pv 0) rfl) (pv 2)) (pa_cons (pe_op op_mulW (pe_fld (pv 0) rfl) (pv 3)) pa_nil))))))), ?_⟩
    refine ⟨rfl, _, rfl, v, true, rfl, .inl ⟨rfl, c, d, hv⟩, _, rfl, iteF ?_⟩
    refine ⟨_, rfl, v, c, d, rfl, hv, fun t ht => ⟨t, _, rfl, SqT.of upd_same, rfl, _, _, rfl, _, _, rfl, rfl, ?_⟩⟩
    have st := same_new (o := .tup [.int c, .int d]) ht
    obtain ⟨dx, e0⟩ := hp
    have e1 := st _ _ e0
    refine ⟨_, rfl, p, C, dx, _, _, rfl, e1, T.cl, T.nT, rfs_top _ _, _, rfl, _, _, rfl, rfl, B2.mul ba bc, _, rfl, p, C, dx, _, _, rfl, e1, T.cl, T.nB, rfs_bot _ _, _, rfl, _, _, rfl, rfl, B2.mul bb bd, fun x dx' hx hd ne => init_at (pos_ne b0 d0) (B2.prod bb bd) hx hd ne fun H' l s => k x H' l (st.trans s)⟩
theorem ok_radd {f : Addr} {fd : FuncData} (F : Fun K "__radd__" "Ratio.__radd__" s_radd f fd) (T : RTx P K mg C CB fB CN) (O_add : CmpAt P w K mg base CX0 5 C "__add__" ["self", "other"] (spBin C fAdd)) (B_add : BinF K C (Operator.info .Add).2) : FnOk P w K mg base CX0 6 f fd ["self", "other"] (spBin C fAdd) := by
  refine F.ok sc_radd (fun vs H Q E h => ?_) (fun cdv A outer s H vs Q E hr h => ?_)
  · obtain ⟨p, a, b, v, c, d, rfl, _⟩ := h
    rfl
  · obtain ⟨p, a, b, v, c, d, rfl, hp, b0, hv, d0, ba, bb, bc, bd, k⟩ := h
    refine ⟨_, (pss_one (ps_ret (pe_op (My.op_binO O_add B_add (hr.mono (by decide)) pass0) (pv 0) (pv 1)))), ?_⟩
    obtain ⟨dx, e0⟩ := id hp
    exact ⟨_, rfl, _, rfl, p, dx, _, rfl, e0, hv.orInt, p, a, b, v, c, d, rfl, hp, b0, hv, d0, ba, bb, bc, bd, k⟩
theorem ok_rmul {f : Addr} {fd : FuncData} (F : Fun K "__rmul__" "Ratio.__rmul__" s_rmul f fd) (T : RTx P K mg C CB fB CN) (O_mul : CmpAt P w K mg base CX0 5 C "__mul__" ["self", "other"] (spBin C fMul)) (B_mul : BinF K C (Operator.info .Mult).2) : FnOk P w K mg base CX0 6 f fd ["self", "other"] (spBin C fMul) := by
  refine F.ok sc_rmul (fun vs H Q E h => ?_) (fun cdv A outer s H vs Q E hr h => ?_)
  · obtain ⟨p, a, b, v, c, d, rfl, _⟩ := h
    rfl
  · obtain ⟨p, a, b, v, c, d, rfl, hp, b0, hv, d0, ba, bb, bc, bd, k⟩ := h
    refine ⟨_, (pss_one (ps_ret (pe_op (My.op_binO O_mul B_mul (hr.mono (by decide)) pass0) (pv 0) (pv 1)))), ?_⟩
    obtain ⟨dx, e0⟩ := id hp
    exact ⟨_, rfl, _, rfl, p, dx, _, rfl, e0, hv.orInt, p, a, b, v, c, d, rfl, hp, b0, hv, d0, ba, bb, bc, bd, k⟩
theorem ok_neg {f : Addr} {fd : FuncData} (F : Fun K "__neg__" "Ratio.__neg__" s_neg f fd) (T : RTx P K mg C CB fB CN) (M_Ratio : MakeAt P w K mg base (L2.CX P w) 3 "Ratio" C ["self", "top", "bottom"] (spInit C CB CN) []) : FnOk P w K mg base CX0 5 f fd ["self"] (spNeg C) := by
  refine F.ok sc_neg (fun vs H Q E h => ?_) (fun cdv A outer s H vs Q E hr h => ?_)
  · obtain ⟨p, a, b, rfl, _⟩ := h
    rfl
  · obtain ⟨p, a, b, rfl, ⟨dx, e1⟩, b0, cop, bb, k⟩ := h
    refine ⟨_, (pss_one (ps_ret (My.pe_mk M_Ratio (hr.mono (by decide)) (by rfl) passL (pa_cons (pe_un un_neg (pe_fld (pv 0) rfl)) (pa_cons (pe_fld (pv 0) rfl) pa_nil))))), ?_⟩
    obtain ⟨l1, l2⟩ := low_self (n := -a) b0 (by rw [Int.neg_gcd]; exact cop)
    refine ⟨_, rfl, p, C, dx, _, _, rfl, e1, T.cl, T.nT, rfs_top _ _, _, rfl, _, rfl, p, C, dx, _, _, rfl, e1, T.cl, T.nB, rfs_bot _ _, fun x dx' hx hd ne => init_at (by omega) (log_2 bb) hx hd ne fun H' l s => ?_⟩
    rw [l1, l2] at l
    exact k x H' l s
theorem ok_abs {f : Addr} {fd : FuncData} (F : Fun K "__abs__" "Ratio.__abs__" s_abs f fd) (T : RTx P K mg C CB fB CN) (M_Ratio : MakeAt P w K mg base (L2.CX P w) 3 "Ratio" C ["self", "top", "bottom"] (spInit C CB CN) []) : FnOk P w K mg base CX0 5 f fd ["self"] (spAbs C) := by
  refine F.ok sc_abs (fun vs H Q E h => ?_) (fun cdv A outer s H vs Q E hr h => ?_)
  · obtain ⟨p, a, b, rfl, _⟩ := h
    rfl
  · obtain ⟨p, a, b, rfl, ⟨dx, e1⟩, b0, cop, bb, k⟩ := h
    refine ⟨_, (pss_one (ps_ret (My.pe_mk M_Ratio (hr.mono (by decide)) (by rfl) passL (pa_cons (pe_callB call_abs (by rfl) T.z_abs boot_abs (pa_cons (pe_fld (pv 0) rfl) pa_nil)) (pa_cons (pe_fld (pv 0) rfl) pa_nil))))), ?_⟩
    obtain ⟨l1, l2⟩ := low_abs b0 cop
    refine ⟨_, rfl, p, C, dx, _, _, rfl, e1, T.cl, T.nT, rfs_top _ _, _, rfl, _, rfl, p, C, dx, _, _, rfl, e1, T.cl, T.nB, rfs_bot _ _, fun x dx' hx hd ne => init_at (by omega) (log_2 bb) hx hd ne fun H' l s => ?_⟩
    rw [l1, l2] at l
    exact k x H' l s
theorem ok_rsub {f : Addr} {fd : FuncData} (F : Fun K "__rsub__" "Ratio.__rsub__" s_rsub f fd) (T : RTx P K mg C CB fB CN) (O_neg : CmpAt P w K mg base CX0 5 C "__neg__" ["self"] (spNeg C)) (O_add : CmpAt P w K mg base CX0 5 C "__add__" ["self", "other"] (spBin C fAdd)) (B_add : BinF K C (Operator.info .Add).2) : FnOk P w K mg base CX0 6 f fd ["self", "other"] (spRsub C) := by
  refine F.ok sc_rsub (fun vs H Q E h => ?_) (fun cdv A outer s H vs Q E hr h => ?_)
  · obtain ⟨p, a, b, v, c, d, rfl, _⟩ := h
    rfl
  · obtain ⟨p, a, b, v, c, d, rfl, hp, b0, cop, hv, d0, ba, bb, bc, bd, k⟩ := h
    refine ⟨_, (pss_one (ps_ret (pe_op (My.op_binO O_add B_add (hr.mono (by decide)) pass0) (pe_un (My.un_negO O_neg (hr.mono (by decide)) pass0) (pv 0)) (pv 1)))), ?_⟩
    obtain ⟨dx, e0⟩ := id hp
    refine ⟨_, rfl, p, dx, _, rfl, e0, p, a, b, rfl, hp, b0, cop, bb, fun q H1 r1 s1 => ?_⟩
    obtain ⟨dq, eq⟩ := id r1
    refine ⟨_, rfl, q, dq, _, rfl, eq, (hv.same s1).orInt, q, -a, b, v, c, d, rfl, r1, b0, hv.same s1, d0, (by show (-a).natAbs < _; rw [Int.natAbs_neg]; exact ba), bb, bc, bd, fun x H2 r2 s2 => ?_⟩
    have e : fAdd (-a) b c d = c * b - a * d := by unfold fAdd; grind
    rw [e] at r2
    exact k x H2 r2 (s1.trans s2)
theorem ok_floorof {f : Addr} {fd : FuncData} (F : Fun K "floor_of" "floor_of" s_floorof f fd) (T : RTx P K mg C CB fB CN) : FnOk P w K mg base (L2.CX P w) 1 f fd ["top", "bottom"] (spFloor CN) := by
  refine F.okX sc_floorof (fun vs H Q E h => ?_) (fun cdv A outer s H vs Q E hr h => ?_)
  · obtain ⟨t, b, rfl, _⟩ := h
    rfl
  · obtain ⟨t, b, rfl, k1, k2⟩ := h
    refine ⟨_, (pss_cons (ps_if (pt_cmpR op_eq (pv 1) pe_int (nomark _)) (pss_one (ps_raise rfl (takes_of rfl rfl rfl rfl) (My.pmk_nil PySem.F.excBase_ValueError T.e_NoDivisor.x T.e_NoDivisor.g T.e_NoDivisor.k (raises_own T.e_NoDivisor.b T.e_NoDivisor.t) (by rfl)))) pss_nil)
      (pss_one (ps_ret (pe_op My.op_fdivX (pv 0) (pv 1))))), ?_⟩
    refine ⟨_, rfl, rfl, _, rfl, ?_⟩
    refine ite2 (fun g => ?_) (fun g => ?_)
    · exact (k2 (V.int.inj (of_decide_eq_true g))).go
    · obtain ⟨lb, q⟩ := k1 fun z => g (decide_eq_true (by rw [z]))
      exact ⟨_, rfl, _, rfl, _, _, rfl, rfl, ⟨fun z => g (decide_eq_true (by rw [z])), lb⟩, q⟩
theorem ok_fdv {f : Addr} {fd : FuncData} (F : Fun K "__floordiv__" "Ratio.__floordiv__" s_fdv f fd) (T : RTx P K mg C CB fB CN) (S_is_number : StatAt P w K mg base CX0 2 C "is_number" ["thing"] (spIsnum C)) (D_partsof : DefAt P w K mg base CX0 1 "parts_of" ["number"] (spParts0 C)) (D_floorof : DefAt P w K mg base (L2.CX P w) 1 "floor_of" ["top", "bottom"] (spFloor CN)) : FnOk P w K mg base (L2.CX P w) 3 f fd ["self", "other"] (spFdv C CN) := by
  refine F.okX sc_fdv (fun vs H Q E h => ?_) (fun cdv A outer s H vs Q E hr h => ?_)
  · obtain ⟨p, a, b, v, c, d, rfl, _⟩ := h
    rfl
  · obtain ⟨p, a, b, v, c, d, rfl, hp, b0, hv, d0, ba, bb, bc, bd, k1, k2⟩ := h
    refine ⟨_, (pss_cons (ps_if (pt_not (pt_val (My.pe_st S_is_number (hr.mono (by decide)) pass0 (pe_glob (v := .ref C) (by rfl) T.gR rfl) (pa_cons (pv 1) pa_nil)))) (pss_one ps_never) pss_nil)
      (pss_cons (ps_asg (My.pe_d D_partsof (hr.mono (by decide)) (by rfl) pass0 (pa_cons (pv 1) pa_nil)) (pg_tup rfl (pgs_cons (pg_name (i := 2) sc_fdv.nd rfl (Or.inl rfl)) (pgs_cons (pg_name (i := 3) sc_fdv.nd rfl (Or.inl rfl)) pgs_nil))))
      (pss_one (ps_ret (My.pe_d D_floorof (hr.mono (by decide)) (by rfl) (passes_call (takes_of rfl rfl rfl rfl) (fun _ _ _ _ h => h)) (pa_cons (pe_op op_mulW (pe_fld (pv 0) rfl) (pv 3)) (pa_cons (pe_op op_mulW (pe_fld (pv 0) rfl) (pv 2)) pa_nil))))))), ?_⟩
    refine ⟨rfl, _, rfl, v, true, rfl, .inl ⟨rfl, c, d, hv⟩, _, rfl, iteF ?_⟩
    refine ⟨_, rfl, v, c, d, rfl, hv, fun t ht => ⟨t, _, rfl, SqT.of upd_same, rfl, _, _, rfl, _, _, rfl, rfl, ?_⟩⟩
    have st := same_new (o := .tup [.int c, .int d]) ht
    obtain ⟨dx, e0⟩ := hp
    have e1 := st _ _ e0
    refine ⟨_, rfl, p, C, dx, _, _, rfl, e1, T.cl, T.nT, rfs_top _ _, _, rfl, _, _, rfl, rfl, B2.mul ba bd, _, rfl, p, C, dx, _, _, rfl, e1, T.cl, T.nB, rfs_bot _ _, _, rfl, _, _, rfl, rfl, B2.mul bb bc, _, _, rfl, fun z => ⟨B2.prod bb bc, k1 (fun y => z (by rw [y, Int.mul_zero])) _ st⟩, fun z => ?_⟩
    refine (k2 ?_).up st
    rcases Int.mul_eq_zero.mp z with y | y
    · omega
    · exact y
theorem ok_rfdv {f : Addr} {fd : FuncData} (F : Fun K "__rfloordiv__" "Ratio.__rfloordiv__" s_rfdv f fd) (T : RTx P K mg C CB fB CN) (S_is_number : StatAt P w K mg base CX0 2 C "is_number" ["thing"] (spIsnum C)) (D_partsof : DefAt P w K mg base CX0 1 "parts_of" ["number"] (spParts0 C)) (D_floorof : DefAt P w K mg base (L2.CX P w) 1 "floor_of" ["top", "bottom"] (spFloor CN)) : FnOk P w K mg base (L2.CX P w) 3 f fd ["self", "other"] (spRfdv C CN) := by
  refine F.okX sc_rfdv (fun vs H Q E h => ?_) (fun cdv A outer s H vs Q E hr h => ?_)
  · obtain ⟨p, a, b, v, c, d, rfl, _⟩ := h
    rfl
  · obtain ⟨p, a, b, v, c, d, rfl, hp, b0, hv, d0, ba, bb, bc, bd, k1, k2⟩ := h
    refine ⟨_, (pss_cons (ps_if (pt_not (pt_val (My.pe_st S_is_number (hr.mono (by decide)) pass0 (pe_glob (v := .ref C) (by rfl) T.gR rfl) (pa_cons (pv 1) pa_nil)))) (pss_one ps_never) pss_nil)
      (pss_cons (ps_asg (My.pe_d D_partsof (hr.mono (by decide)) (by rfl) pass0 (pa_cons (pv 1) pa_nil)) (pg_tup rfl (pgs_cons (pg_name (i := 2) sc_rfdv.nd rfl (Or.inl rfl)) (pgs_cons (pg_name (i := 3) sc_rfdv.nd rfl (Or.inl rfl)) pgs_nil))))
      (pss_one (ps_ret (My.pe_d D_floorof (hr.mono (by decide)) (by rfl) (passes_call (takes_of rfl rfl rfl rfl) (fun _ _ _ _ h => h)) (pa_cons (pe_op op_mulW (pv 2) (pe_fld (pv 0) rfl)) (pa_cons (pe_op op_mulW (pv 3) (pe_fld (pv 0) rfl)) pa_nil))))))), ?_⟩
    refine ⟨rfl, _, rfl, v, true, rfl, .inl ⟨rfl, c, d, hv⟩, _, rfl, iteF ?_⟩
    refine ⟨_, rfl, v, c, d, rfl, hv, fun t ht => ⟨t, _, rfl, SqT.of upd_same, rfl, _, _, rfl, _, _, rfl, rfl, ?_⟩⟩
    have st := same_new (o := .tup [.int c, .int d]) ht
    obtain ⟨dx, e0⟩ := hp
    have e1 := st _ _ e0
    refine ⟨_, rfl, _, rfl, p, C, dx, _, _, rfl, e1, T.cl, T.nB, rfs_bot _ _, _, _, rfl, rfl, B2.mul bc bb, _, rfl, _, rfl, p, C, dx, _, _, rfl, e1, T.cl, T.nT, rfs_top _ _, _, _, rfl, rfl, B2.mul bd ba, _, _, rfl, fun z => ⟨B2.prod bd ba, k1 (fun y => z (by rw [y, Int.mul_zero])) _ st⟩, fun z => ?_⟩
    refine (k2 ?_).up st
    rcases Int.mul_eq_zero.mp z with y | y
    · omega
    · exact y
theorem ok_over {f : Addr} {fd : FuncData} (F : Fun K "over" "Ratio.over" s_over f fd) (T : RTx P K mg C CB fB CN) (D_partsof : DefAt P w K mg base CX0 1 "parts_of" ["number"] (spParts0 C)) (M_Ratio : MakeAt P w K mg base (L2.CX P w) 3 "Ratio" C ["self", "top", "bottom"] (spInit C CB CN) []) : FnOk P w K mg base (L2.CX P w) 5 f fd ["self", "number"] (spOver C CN) := by
  refine F.okX sc_over (fun vs H Q E h => ?_) (fun cdv A outer s H vs Q E hr h => ?_)
  · obtain ⟨p, a, b, v, c, d, rfl, _⟩ := h
    rfl
  · obtain ⟨p, a, b, v, c, d, rfl, hp, b0, hv, d0, ba, bb, bc, bd, k1, k2⟩ := h
    refine ⟨_, (pss_cons (ps_asg (My.pe_d D_partsof (hr.mono (by decide)) (by rfl) pass0 (pa_cons (pv 1) pa_nil)) (pg_tup rfl (pgs_cons (pg_name (i := 2) sc_over.nd rfl (Or.inl rfl)) (pgs_cons (pg_name (i := 3) sc_over.nd rfl (Or.inl rfl)) pgs_nil))))
      (pss_one (ps_ret (My.pe_mk M_Ratio (hr.mono (by decide)) (by rfl) (passes_call (takes_of rfl rfl rfl rfl) (fun _ _ _ _ h => h)) (pa_cons (pe_op op_mulW (pe_fld (pv 0) rfl) (pv 3)) (pa_cons (pe_op op_mulW (pe_fld (pv 0) rfl) (pv 2)) pa_nil)))))), ?_⟩
    refine ⟨_, rfl, v, c, d, rfl, hv, fun t ht => ⟨t, _, rfl, SqT.of upd_same, rfl, _, _, rfl, _, _, rfl, rfl, ?_⟩⟩
    have st := same_new (o := .tup [.int c, .int d]) ht
    obtain ⟨dx, e0⟩ := hp
    have e1 := st _ _ e0
    refine ⟨_, rfl, p, C, dx, _, _, rfl, e1, T.cl, T.nT, rfs_top _ _, _, rfl, _, _, rfl, rfl, B2.mul ba bd, _, rfl, p, C, dx, _, _, rfl, e1, T.cl, T.nB, rfs_bot _ _, _, rfl, _, _, rfl, rfl, B2.mul bb bc, fun x dx' hx hd ne => ?_⟩
    by_cases c0 : c = 0
    · subst c0
      have s0 := same_new (H := upd H t (.tup [.int 0, .int d])) (p := dx') (o := .own x) hd
      have n1 : (upd (upd H t (.tup [.int 0, .int d])) dx' (.own x)) x = none := by rw [upd_ne (Ne.symm ne)]; exact hx
      refine ⟨x, dx', _, _, rfl, upd_same, TyL.int _ _ _, TyL.int _ _ _, fun a' b' _ eb z => ?_, fun z => Bool.noConfusion z, fun _ z => Bool.noConfusion z, fun _ _ => (k2 rfl).up ((st.trans s0).trans (same_new n1))⟩
      exfalso
      apply z
      have := V.int.inj eb
      rw [← this, Int.mul_zero]
    · exact init_at (Int.mul_ne_zero (by omega) c0) (B2.prod bb bc) hx hd ne fun H' l s => k1 c0 x H' l (st.trans s)
theorem mod_low {a b c d k : Int} (b0 : 0 < b) (d0 : 0 < d) : lowT (fSub a b (lowT (fMul c d k 1) (d * 1)) (lowB (fMul c d k 1) (d * 1))) (b * lowB (fMul c d k 1) (d * 1)) = lowT (a * d - k * c * b) (b * d) ∧ lowB (fSub a b (lowT (fMul c d k 1) (d * 1)) (lowB (fMul c d k 1) (d * 1))) (b * lowB (fMul c d k 1) (d * 1)) = lowB (a * d - k * c * b) (b * d) := by
  have d1 : d * 1 ≠ 0 := by omega
  have bp := lowB_pos (t := fMul c d k 1) d1
  have cr := low_cross (t := fMul c d k 1) (b := d * 1)
  refine low_eq (pos_ne b0 bp) (pos_ne b0 d0) ?_
  generalize lowT (fMul c d k 1) (d * 1) = C at *
  generalize lowB (fMul c d k 1) (d * 1) = D at *
  unfold fMul at cr
  unfold fSub
  grind
theorem mod_int {a b c k : Int} : fSub a b (k * c) 1 = a * 1 - k * c * b := rfl
def spModR (C CN : Addr) : Sp := fun vs H Q E => (∃ p x, vs = [.ref p, .ref x]) ∧ spMod C CN vs H Q E
theorem ok_modR {f : Addr} {fd : FuncData} (F : Fun K "__mod__" "Ratio.__mod__" s_mod f fd) (T : RTx P K mg C CB fB CN) (O_sub : CmpAt P w K mg base CX0 5 C "__sub__" ["self", "other"] (spBin C fSub)) (O_fdv : CmpAt P w K mg base (L2.CX P w) 3 C "__floordiv__" ["self", "other"] (spFdv C CN)) (O_rmul : CmpAt P w K mg base CX0 6 C "__rmul__" ["self", "other"] (spBin C fMul)) (B_sub : BinF K C (Operator.info .Sub).2) (B_fdv : BinF K C (Operator.info .FloorDiv).2) (R_mul : RefF K C (Operator.info .Mult).2) : FnOk P w K mg base (L2.CX P w) 7 f fd ["self", "other"] (spModR C CN) := by
  refine F.okX sc_mod (fun vs H Q E h => ?_) (fun cdv A outer s H vs Q E hr h => ?_)
  · obtain ⟨⟨_, _, rfl⟩, _⟩ := h
    rfl
  · obtain ⟨⟨p0, x0, e0⟩, p, a, b, v, c, d, e0', hp, b0, hv, d0, ba, bb, bc, bd, k1, k2⟩ := h
    subst e0
    cases e0'
    refine ⟨_, (pss_one (ps_ret (pe_op (My.op_binO O_sub B_sub (hr.mono (by decide)) pass0) (pv 0) (pe_op (My.op_binR O_rmul My.is_mul R_mul (hr.mono (by decide)) pass0) (pe_op (My.op_binO O_fdv B_fdv (hr.mono (by decide)) (passes_call (takes_of rfl rfl rfl rfl) (fun _ _ _ _ h => h))) (pv 0) (pv 1)) (pv 1))))), ?_⟩
    obtain ⟨dx, e1⟩ := id hp
    refine ⟨_, rfl, _, rfl, _, rfl, _, dx, _, rfl, e1, hv.orInt, _, a, b, _, c, d, rfl, hp, b0, hv, d0, ba.b2, bb.b2, bc.b2, bd.b2, fun c0 H1 s1 => ?_, fun c0 => k2 c0⟩
    have bk : ((a * d).fdiv (b * c)).natAbs < 2 ^ 601 := fdiv_bd (bd_mul ba bd) (Int.mul_ne_zero (by omega) c0)
    have kb : B2 ((a * d).fdiv (b * c)) := bd_le bk (by decide)
    have e3 := s1 _ _ e1
    rcases hv with ⟨q, eq, hq⟩ | ⟨eq, _⟩
    · cases eq
      obtain ⟨dq, eq⟩ := id (hq.same s1)
      refine ⟨_, rfl, _, x0, dq, _, rfl, rfl, eq, x0, c, d, _, (a * d).fdiv (b * c), 1, rfl, hq.same s1, d0, .inr ⟨rfl, rfl⟩, by decide, bc.b2, bd.b2, kb, B2.one, fun y H2 r2 s2 => ?_⟩
      obtain ⟨dy, ey⟩ := id r2
      have d1 : d * 1 ≠ 0 := by omega
      have s12 := s1.trans s2
      refine ⟨_, dx, _, rfl, s12 _ _ e1, .inl ⟨y, dy, _, rfl, ey⟩, _, a, b, _, _, _, rfl, hp.same s12, b0, .inl ⟨y, rfl, r2⟩, lowB_pos d1, ba.b2, bb.b2, bd_le (Nat.lt_of_le_of_lt (lowT_abs d1) (bd_mul bc bk)) (by decide), bd_le (Nat.lt_of_le_of_lt (lowB_abs d1) (by rw [Int.mul_one]; exact bd)) (by decide), fun z H3 r3 s3 => ?_⟩
      obtain ⟨m1, m2⟩ := mod_low (a := a) (c := c) (k := (a * d).fdiv (b * c)) b0 d0
      rw [m1, m2] at r3
      exact k1 c0 z H3 r3 (s12.trans s3)
    · cases eq
def spModI (C CN : Addr) : Sp := fun vs H Q E => (∃ p x, vs = [.ref p, .int x]) ∧ spMod C CN vs H Q E
theorem ok_modI {f : Addr} {fd : FuncData} (F : Fun K "__mod__" "Ratio.__mod__" s_mod f fd) (T : RTx P K mg C CB fB CN) (O_sub : CmpAt P w K mg base CX0 5 C "__sub__" ["self", "other"] (spBin C fSub)) (O_fdv : CmpAt P w K mg base (L2.CX P w) 3 C "__floordiv__" ["self", "other"] (spFdv C CN)) (O_rmul : CmpAt P w K mg base CX0 6 C "__rmul__" ["self", "other"] (spBin C fMul)) (B_sub : BinF K C (Operator.info .Sub).2) (B_fdv : BinF K C (Operator.info .FloorDiv).2) (R_mul : RefF K C (Operator.info .Mult).2) : FnOk P w K mg base (L2.CX P w) 7 f fd ["self", "other"] (spModI C CN) := by
  refine F.okX sc_mod (fun vs H Q E h => ?_) (fun cdv A outer s H vs Q E hr h => ?_)
  · obtain ⟨⟨_, _, rfl⟩, _⟩ := h
    rfl
  · obtain ⟨⟨p0, x0, e0⟩, p, a, b, v, c, d, e0', hp, b0, hv, d0, ba, bb, bc, bd, k1, k2⟩ := h
    subst e0
    cases e0'
    refine ⟨_, (pss_one (ps_ret (pe_op (My.op_binO O_sub B_sub (hr.mono (by decide)) pass0) (pv 0) (pe_op op_mulW (pe_op (My.op_binO O_fdv B_fdv (hr.mono (by decide)) (passes_call (takes_of rfl rfl rfl rfl) (fun _ _ _ _ h => h))) (pv 0) (pv 1)) (pv 1))))), ?_⟩
    obtain ⟨dx, e1⟩ := id hp
    refine ⟨_, rfl, _, rfl, _, rfl, _, dx, _, rfl, e1, hv.orInt, _, a, b, _, c, d, rfl, hp, b0, hv, d0, ba.b2, bb.b2, bc.b2, bd.b2, fun c0 H1 s1 => ?_, fun c0 => k2 c0⟩
    have bk : ((a * d).fdiv (b * c)).natAbs < 2 ^ 601 := fdiv_bd (bd_mul ba bd) (Int.mul_ne_zero (by omega) c0)
    have kb : B2 ((a * d).fdiv (b * c)) := bd_le bk (by decide)
    have e3 := s1 _ _ e1
    rcases hv with ⟨q, eq, _⟩ | ⟨eq, rfl⟩
    · cases eq
    · cases eq
      refine ⟨_, rfl, _, _, rfl, rfl, B2.mul kb bc.b2, _, dx, _, rfl, e3, .inr ⟨_, rfl⟩, _, a, b, _, _, 1, rfl, hp.same s1, b0, .inr ⟨rfl, rfl⟩, by decide, ba.b2, bb.b2, bd_le (bd_mul bk bc) (by decide), B2.one, fun z H3 r3 s3 => ?_⟩
      exact k1 c0 z H3 r3 (s1.trans s3)
theorem rmod_low {a b c k : Int} (b0 : 0 < b) : lowT (1 * 0 + (c * lowB (fMul a b k 1) (b * 1) - lowT (fMul a b k 1) (b * 1) * 1)) (lowB (fMul a b k 1) (b * 1) * 1) = lowT (c * b - k * a) b ∧ lowB (1 * 0 + (c * lowB (fMul a b k 1) (b * 1) - lowT (fMul a b k 1) (b * 1) * 1)) (lowB (fMul a b k 1) (b * 1) * 1) = lowB (c * b - k * a) b := by
  have d1 : b * 1 ≠ 0 := by omega
  have bp := lowB_pos (t := fMul a b k 1) d1
  have cr := low_cross (t := fMul a b k 1) (b := b * 1)
  refine low_eq (pos_ne bp (by decide)) (by omega) ?_
  generalize lowT (fMul a b k 1) (b * 1) = C at *
  generalize lowB (fMul a b k 1) (b * 1) = D at *
  unfold fMul at cr
  grind
theorem ok_rmod {f : Addr} {fd : FuncData} (F : Fun K "__rmod__" "Ratio.__rmod__" s_rmod f fd) (T : RTx P K mg C CB fB CN) (O_rsub : CmpAt P w K mg base CX0 6 C "__rsub__" ["self", "other"] (spRsub C)) (O_rfdv : CmpAt P w K mg base (L2.CX P w) 3 C "__rfloordiv__" ["self", "other"] (spRfdv C CN)) (O_rmul : CmpAt P w K mg base CX0 6 C "__rmul__" ["self", "other"] (spBin C fMul)) (R_sub : RefF K C (Operator.info .Sub).2) (R_fdv : RefF K C (Operator.info .FloorDiv).2) (R_mul : RefF K C (Operator.info .Mult).2) : FnOk P w K mg base (L2.CX P w) 7 f fd ["self", "other"] (spRmod C CN) := by
  refine F.okX sc_rmod (fun vs H Q E h => ?_) (fun cdv A outer s H vs Q E hr h => ?_)
  · obtain ⟨p, a, b, c, rfl, _⟩ := h
    rfl
  · obtain ⟨p, a, b, c, rfl, hp, b0, cop, ba, bb, bc, k1, k2⟩ := h
    refine ⟨_, (pss_one (ps_ret (pe_op (My.op_binR O_rsub My.is_sub R_sub (hr.mono (by decide)) pass0) (pv 1) (pe_op (My.op_binR O_rmul My.is_mul R_mul (hr.mono (by decide)) pass0) (pe_op (My.op_binR O_rfdv My.is_fdv R_fdv (hr.mono (by decide)) (passes_call (takes_of rfl rfl rfl rfl) (fun _ _ _ _ h => h))) (pv 1) (pv 0)) (pv 0))))), ?_⟩
    obtain ⟨dx, e1⟩ := id hp
    refine ⟨_, rfl, _, rfl, _, rfl, c, p, dx, _, rfl, rfl, e1, p, a, b, _, c, 1, rfl, hp, b0, .inr ⟨rfl, rfl⟩, by decide, ba.b2, bb.b2, bc.b2, B2.one, fun a0 H1 s1 => ?_, fun a0 => k2 a0⟩
    have bk : ((c * b).fdiv (1 * a)).natAbs < 2 ^ 601 := fdiv_bd (bd_mul bc bb) (by rw [Int.one_mul]; exact a0)
    have kb : B2 ((c * b).fdiv (1 * a)) := bd_le bk (by decide)
    have d1 : b * 1 ≠ 0 := by omega
    refine ⟨_, rfl, _, p, dx, _, rfl, rfl, s1 _ _ e1, p, a, b, _, (c * b).fdiv (1 * a), 1, rfl, hp.same s1, b0, .inr ⟨rfl, rfl⟩, by decide, ba.b2, bb.b2, kb, B2.one, fun y H2 r2 s2 => ?_⟩
    obtain ⟨dy, ey⟩ := id r2
    refine ⟨c, y, dy, _, rfl, rfl, ey, y, _, _, _, c, 1, rfl, r2, lowB_pos d1, low_cop d1, .inr ⟨rfl, rfl⟩, by decide, bd_le (Nat.lt_of_le_of_lt (lowT_abs d1) (bd_mul ba bk)) (by decide), bd_le (Nat.lt_of_le_of_lt (lowB_abs d1) (by rw [Int.mul_one]; exact bb)) (by decide), bc.b2, B2.one, fun z H3 r3 s3 => ?_⟩
    obtain ⟨m1, m2⟩ := rmod_low (a := a) (c := c) (k := (c * b).fdiv (1 * a)) b0
    rw [Int.mul_zero, Int.zero_add] at m1 m2
    rw [m1, m2, Int.one_mul] at r3
    exact k1 a0 z H3 r3 ((s1.trans s2).trans s3)
end
end My
namespace My
open PySem PySem.Spec PyProof.Rows L2
abbrev s_heard : Stmt := topS 18
theorem sc_heard : FnScope ["_law_ask"] ["_law_ask"] (defScope s_heard) := ⟨rfl, rfl, rfl, by decide +kernel, rfl, by decide +kernel, by decide +kernel⟩
/-- what the top has written of the errors' classes -/
structure HTx (P : Program) (K : PySem.W.Frag) (mg : Str → Option Value) (CE CNoDivisor : Addr) : Prop extends BI mg where
  gClip : mg "ClipError" = some (.ref CE)
  e_NoDivisor : Nil0 K mg "NoDivisor" CNoDivisor
  x_NoDivisor_NoDivisor : PySem.W.exmOne K (.ref CNoDivisor) (.ref CNoDivisor) = some true
/-- what heard hands back of an error -/
def WHeard (CNoDivisor : Addr) (Q : VK) : XK := fun cls d H => (cls = .ref CNoDivisor ∧ ∀ t, H t = none → Q (.ref t) (upd H t (.tup [.str "divisor"]))) ∨ (False)
def THeard (CNoDivisor : Addr) : (XK → Hp → VK → Prop) → Hp → VK → Prop := fun tl H Q => tl (WHeard CNoDivisor Q) H fun v H' => [v].length ≤ sizeLine ∧ ∀ l, H' l = none → Q (.ref l) (upd H' l (.lst [v]))
theorem len1 {σ : List (Option V)} (h : σ.length = 1) : ∃ x0, σ = [x0] := by
  rcases σ with _ | ⟨x, _ | ⟨y, r⟩⟩
  · cases h
  · exact ⟨x, rfl⟩
  · simp at h
theorem heard_gives {X : Cx} {CE CNoDivisor : Addr} (T : HTx X.prog X.K X.mg CE CNoDivisor) {k : Nat} (hrX : Room (k + 1) X.A) (hgX : X.A.guards = some []) {g : Addr} {cdg : Value} {q : Str} :
    LamX.GivesTo X ["_law_ask"] "_law_heard" (defScope s_heard) g cdg (defBody s_heard) "_law_ask" q (THeard CNoDivisor) := by
  intro f c' s H Q tl act hc h
  refine ⟨_, (pss_one (ps_try_mix (X := (cxOf C8.CX0 X.prog X.w X.K X.mg X.base ["_law_ask"] "_law_heard" (defScope s_heard) g cdg X.A X.stack s H C8.E0).nox)
    (tb := fun W D σ H => ∃ Ech : XK, (∀ cls d σ' H', Ech cls d H' → W cls d σ' H') ∧ σ[0]? = some (some (.ref f)) ∧ H c' = some (LamX.CodeO c' q) ∧ tl Ech H fun v H' => [v].length ≤ sizeLine ∧ ∀ l, H' l = none → D.rt (.ref l) (upd H' l (.lst [v])))
    (Wout := fun _ _ _ _ => False) rfl rfl sc_heard.nd LamX.takes0 (fun W pn xe tk _ => ?_) (Mixed.bare (c := .ref CNoDivisor) ⟨rfl, by decide, .inl T.e_NoDivisor.g⟩ (fun a oe cls d pn hz hf => pss_one (ps_ret (pe_tup (pa_cons pe_str pa_nil)))) (Mixed.bare (c := .ref CE) ⟨rfl, by decide, .inl T.gClip⟩ (fun a oe cls d pn hz hf => pss_one (ps_ret (pe_tup (pa_cons pe_str pa_nil)))) Mixed.nil)))), ?_⟩
  · refine ⟨fun pins s' σ H' D I h' => ?_⟩
    obtain ⟨Ech, hW, h1, h2, h3⟩ := h'
    exact (pss_one (ps_ret (pe_lst (pa_cons (act W pn xe Ech _ _ tk hW) pa_nil)))).run pins s' σ H' D I ⟨h1, h2, h3⟩
  · refine ⟨WHeard CNoDivisor Q, ?_, rfl, hc, h⟩
    intro cls d σ' H' hw
    rcases hw with ⟨rfl, kk⟩ | hw
    · refine ⟨true, T.x_NoDivisor_NoDivisor, fun _ a na hl => ?_, fun z => Bool.noConfusion z⟩
      exact ⟨(by show 1 ≤ sizeLine; decide), fun t ht => kk t ht⟩
    · exact hw.elim
/-- heard as it stands in the module -/
structure HeardAt (K : PySem.W.Frag) (mg : Str → Option Value) : Prop where
  ex : ∃ g fd, Fun K "_law_heard" "_law_heard" s_heard g fd ∧ mg "_law_heard" = some (.ref g) ∧ L2.Binds K fd ["_law_ask"] []
/-- heard(lambda: body) -/
theorem pe_heard {X : Cx} {CE CNoDivisor : Addr} {TS : List (Addr × Str)} {c P : Addr} {k : Nat} {params : Arguments} {body : Expr} {scope : Scope} {t : XK → TE} {p lpos pos : Pos}
    (D : HeardAt X.K X.mg) (T : HTx X.prog X.K X.mg CE CNoDivisor) (hgd : X.A.guards = some []) (hr : Room (k + 2) X.A) (TB : LamX.TabB X.base X.mg c P) (hcode : X.env.code = .ref c) (hmT : (P, X.env.qual ++ "<lambda>") ∈ TS) (hu : ∀ p ∈ TS, p.1 = P → p.2 = X.env.qual ++ "<lambda>")
    (hg : Gl X "_law_heard") (L : LamX.LamS X.env.scope scope) (hdef : defaultsOf params X.env = ([], []))
    (hbind : ∀ (q : Str) (cl : List (Str × Addr)) (pm cv ctv : Value), bindArgs (PySem.W.kla_fn "<lambda>" q params body scope cl pm cv ctv) ⟨[], []⟩ = pure [])
    (hbody : ∀ (A : Around) (outer : List Env) (s : Shared) (H : Hp) (E : XK) (f c' : Addr), Room k (A.deeper (LamX.lamEnv X scope s.heap.objs.size f c')) → PE (LamX.lamCx X A outer s H E scope f c') body (t E)) :
    PE X (.Call (.Name "_law_heard" p) [.Lambda params body scope lpos] [] pos) (LamX.tLam TS (THeard CNoDivisor) t) := by
  obtain ⟨g, fd, F, hm, hb⟩ := D.ex
  have kp := F.kp
  obtain ⟨oc, od, kV, doc, pm, an, cdv, ct, osl, rfl, lk, hcd⟩ := F.ex
  exact LamX.pe_lamcall hg hm kp lk hcd hb sc_heard rfl (Or.inl rfl) (heard_gives (k := k) T (hr.mono (by omega)) hgd) TB hcode hmT hu hr L hdef hbind hbody (by decide) (by decide) (by decide)
end My
namespace My
open PySem PySem.Spec PyProof.Rows L2
abbrev s_lwhole : Stmt := topS 19
theorem sc_lwhole : FnScope ["_law_pen_here", "_law_number"] ["_law_pen_here"] (defScope s_lwhole) := ⟨rfl, rfl, rfl, by decide +kernel, rfl, by decide +kernel, by decide +kernel⟩
abbrev s_pair : Stmt := topS 20
theorem sc_pair : FnScope ["_law_pen_here", "_law_top", "_law_bottom"] ["_law_pen_here"] (defScope s_pair) := ⟨rfl, rfl, rfl, by decide +kernel, rfl, by decide +kernel, by decide +kernel⟩
abbrev s_lowest : Stmt := topS 21
theorem sc_lowest : FnScope ["_law_top", "_law_bottom", "_law_one", "_law_other", "_law_sign"] ["_law_top", "_law_bottom"] (defScope s_lowest) := ⟨rfl, rfl, rfl, by decide +kernel, rfl, by decide +kernel, by decide +kernel⟩
abbrev s_parts : Stmt := topS 22
theorem sc_parts : FnScope ["_law_ratio"] ["_law_ratio"] (defScope s_parts) := ⟨rfl, rfl, rfl, by decide +kernel, rfl, by decide +kernel, by decide +kernel⟩
def Wd (z : Int) : Prop := -(10 ^ 58) < z ∧ z < 10 ^ 58
theorem Wd.abs {z : Int} (h : Wd z) : z.natAbs < 2 ^ 200 := by
  obtain ⟨x1, x2⟩ := h
  have e : (10 : Int) ^ 58 = 10000000000000000000000000000000000000000000000000000000000 := rfl
  have e2 : (2 : Nat) ^ 200 = 1606938044258990275541962092341162602522202993782792835301376 := rfl
  omega
theorem log_of {z : Int} {k : Nat} (h : z.natAbs < 2 ^ k) (hk : 0 < k := by decide) (h2 : k ≤ 1920 := by decide) : z.natAbs.log2 < 1920 := Nat.lt_of_lt_of_le (PySem.Flt.log2_lt_of hk h) h2
theorem log9 {z : Int} {k : Nat} (h : z.natAbs < 2 ^ k) (hk : 0 < k := by decide) (h2 : k ≤ 1920 := by decide) : z.natAbs.log2 < 9000 := Nat.lt_trans (log_of h hk h2) (by decide)
def spWholeL : Sp := fun vs H Q _ => ∃ (pn : Addr) (n : Nat), vs = [.ref pn] ∧ PenAt H pn n ∧ n < 90000 ∧ ∀ (z : Int) (H' : Hp), Wd z → PenAt H' pn (n + 6) → But pn H H' → Q (.int z) H'
def spPairL : Sp := fun vs H Q _ => ∃ (pn : Addr) (n : Nat), vs = [.ref pn] ∧ PenAt H pn n ∧ n < 80000 ∧ ∀ (t b : Int) (p : Addr) (H' : Hp), Wd t → Wd b → b ≠ 0 → H p = none → H' p = some (.tup [.int t, .int b]) → PenAt H' pn (n + 13) → But pn H H' → Q (.ref p) H'
def spLowest : Sp := fun vs H Q _ => ∃ (t b : Int), vs = [.int t, .int b] ∧ b ≠ 0 ∧ b.natAbs.log2 < 9000 ∧ ∀ p, H p = none → Q (.ref p) (upd H p (.tup [.int (lowT t b), .int (lowB t b)]))
def two (a b : Int) : Str := (PyData.tuple [.int a, .int b]).shown
def spPartsL (C : Addr) : Sp := fun vs H Q _ => ∃ (p : Addr) (a b : Int), vs = [.ref p] ∧ RatAt C H p a b ∧ a.natAbs.log2 < 1920 ∧ b.natAbs.log2 < 1920 ∧ ∀ H', Same H H' → Q (.str (two a b)) H'
section
variable {P : Program} {w : World} {K : PySem.W.Frag} {mg : Str → Option Value} {base : Heap} {C CB fB CN : Addr}
theorem ok_lwhole {f : Addr} {fd : FuncData} (F : Fun K "_law_whole" "_law_whole" s_lwhole f fd) (T : BI mg) (D_draw : DefAt P w K mg base CX0 1 "_law_draw" ["_law_pen_here", "_law_many"] spDraw)
    (D_pick : DefAt P w K mg base CX0 2 "_law_pick" ["_law_pen_here", "_law_some"] spPick) : FnOk P w K mg base CX0 3 f fd ["_law_pen_here"] spWholeL := by
  refine F.ok sc_lwhole (fun vs H Q E h => ?_) (fun cdv A outer s H vs Q E hr h => ?_)
  · obtain ⟨pn, n, rfl, _⟩ := h
    rfl
  · obtain ⟨pn, n, rfl, hp, hn, k⟩ := h
    refine ⟨_, (pss_cons (ps_set (i := 1) sc_lwhole.nd rfl (Or.inl rfl) (My.pe_d D_pick (hr.mono (by decide)) (by rfl) pass0 (pa_cons (pv 0) (pa_cons (pe_lst (pa_cons (My.pe_d D_draw (hr.mono (by decide)) (by rfl) pass0 (pa_cons (pv 0) (pa_cons pe_int pa_nil))) (pa_cons (My.pe_d D_draw (hr.mono (by decide)) (by rfl) pass0 (pa_cons (pv 0) (pa_cons pe_int pa_nil))) (pa_cons (My.pe_d D_draw (hr.mono (by decide)) (by rfl) pass0 (pa_cons (pv 0) (pa_cons (pe_op op_pow pe_int pe_int) pa_nil))) pa_nil)))) pa_nil))))
      (pss_cons (ps_set (i := 1) sc_lwhole.nd rfl (Or.inl rfl) (My.pe_d D_pick (hr.mono (by decide)) (by rfl) pass0 (pa_cons (pv 0) (pa_cons (pe_lst (pa_cons (pv 1) (pa_cons (pv 1) (pa_cons (pv 1) (pa_cons (pe_op op_sub (pe_op op_pow pe_int pe_int) (pv 1)) (pa_cons (pe_op op_add (pe_op op_pow pe_int pe_int) (pv 1)) pa_nil)))))) pa_nil))))
      (pss_one (ps_ret (pe_ifExp (pt_cmpR op_eq (My.pe_d D_draw (hr.mono (by decide)) (by rfl) pass0 (pa_cons (pv 0) (pa_cons pe_int pa_nil))) pe_int (nomark _)) (pv 1) (pe_op op_sub pe_int (pv 1))))))), ?_⟩
    refine ⟨_, rfl, _, rfl, pn, 4, n, rfl, by decide, by decide, hp, by omega, fun d1 H1 a1 b1 p1 u1 => ?_⟩
    refine ⟨_, rfl, pn, 30, n + 1, rfl, by decide, by decide, p1, by omega, fun d2 H2 a2 b2 p2 u2 => ?_⟩
    refine ⟨_, rfl, _, _, rfl, rfl, ⟨by decide, by decide, by decide⟩, pn, _, n + 2, rfl, by decide, by decide, p2, by omega, fun d3 H3 a3 b3 p3 u3 => ?_⟩
    refine ⟨(by show 3 ≤ sizeLine; decide), fun l hl => ?_⟩
    refine ⟨pn, l, n + 3, _, rfl, upd_same, pen_ne p3 hl, (by show 0 < 3; decide), (by show 3 ≤ 1000; decide), pen_new p3 hl, by omega, fun v H4 hv p4 u4 => ?_⟩
    obtain ⟨z, rfl, hz⟩ := mem_ints (zs := [d1, d2, d3]) hv
    have z0 : 0 ≤ z ∧ z < 10 ^ 6 := by
      have b3' : d3 < 10 ^ 6 := b3
      simp only [List.mem_cons, List.mem_nil_iff, or_false] at hz
      rcases hz with e | e | e <;> omega
    have uu : But pn H H4 := (((u1.trans u2).trans u3).trans (But.new hl)).trans u4
    refine ⟨_, rfl, _, rfl, _, rfl, _, rfl, _, _, rfl, rfl, ⟨by decide, by decide, by decide⟩, _, rfl, _, _, rfl, rfl, _, _, rfl, rfl, ⟨by decide, by decide, by decide⟩, _, rfl, _, _, rfl, rfl, (by show 5 ≤ sizeLine; decide), fun l2 hl2 => ?_⟩
    refine ⟨pn, l2, n + 4, _, rfl, upd_same, pen_ne p4 hl2, (by show 0 < 5; decide), (by show 5 ≤ 1000; decide), pen_new p4 hl2, by omega, fun v5 H5 hv5 p5 u5 => ?_⟩
    obtain ⟨y, rfl, hy⟩ := mem_ints (zs := [z, z, z, 10 ^ Int.toNat 30 - z, 10 ^ Int.toNat 57 + z]) hv5
    have y0 : 0 ≤ y ∧ y < 10 ^ 58 := by
      have e1 : (10 : Int) ^ Int.toNat 30 = 1000000000000000000000000000000 := by decide
      have e2 : (10 : Int) ^ Int.toNat 57 = 1000000000000000000000000000000000000000000000000000000000 := by decide
      simp only [List.mem_cons, List.mem_nil_iff, or_false] at hy
      rw [e1, e2] at hy
      rcases hy with e | e | e | e | e <;> omega
    have uv : But pn H H5 := (uu.trans (But.new hl2)).trans u5
    refine ⟨_, rfl, pn, 2, n + 5, rfl, by decide, by decide, p5, by omega, fun d6 H6 a6 b6 p6 u6 => ?_⟩
    refine ⟨rfl, _, rfl, ?_⟩
    refine ite2 (fun c => ?_) (fun c => ?_)
    · exact ⟨_, rfl, k _ H6 ⟨by omega, by omega⟩ p6 (uv.trans u6)⟩
    · exact ⟨_, rfl, _, _, rfl, rfl, k _ H6 ⟨by omega, by omega⟩ p6 (uv.trans u6)⟩
theorem ok_pair {f : Addr} {fd : FuncData} (F : Fun K "_law_pair" "_law_pair" s_pair f fd) (T : BI mg) (D_draw : DefAt P w K mg base CX0 1 "_law_draw" ["_law_pen_here", "_law_many"] spDraw)
    (D_lwhole : DefAt P w K mg base CX0 3 "_law_whole" ["_law_pen_here"] spWholeL) : FnOk P w K mg base CX0 4 f fd ["_law_pen_here"] spPairL := by
  refine F.ok sc_pair (fun vs H Q E h => ?_) (fun cdv A outer s H vs Q E hr h => ?_)
  · obtain ⟨pn, n, rfl, _⟩ := h
    rfl
  · obtain ⟨pn, n, rfl, hp, hn, k⟩ := h
    refine ⟨_, (pss_cons (ps_par (i := 1) (j := 2) (by rfl) sc_pair.nd rfl rfl (by decide) rfl rfl (pa_cons (My.pe_d D_lwhole (hr.mono (by decide)) (by rfl) pass0 (pa_cons (pv 0) pa_nil)) (pa_cons (My.pe_d D_lwhole (hr.mono (by decide)) (by rfl) pass0 (pa_cons (pv 0) pa_nil)) pa_nil)) (by rfl))
      (C8.pss_cut (ps_if (pt_cmpR op_eq (My.pe_d D_draw (hr.mono (by decide)) (by rfl) pass0 (pa_cons (pv 0) (pa_cons pe_int pa_nil))) pe_int (nomark _)) (pss_one (ps_set (i := 2) sc_pair.nd rfl (Or.inl rfl) pe_int)) pss_nil)
      (pss_one (ps_ret (pe_tup (pa_cons (pv 1) (pa_cons (pe_ifExp (pt_cmpR op_ne (pv 2) pe_int (nomark _)) (pv 2) pe_int) pa_nil))))))), ?_⟩
    refine ⟨_, rfl, pn, n, rfl, hp, by omega, fun t H1 wt p1 u1 => ?_⟩
    refine ⟨_, rfl, pn, n + 6, rfl, p1, by omega, fun b H2 wb p2 u2 => ⟨_, _, rfl, ?_⟩⟩
    refine ⟨fun σ Hz => ∃ b, σ = [some (.ref pn), some (.int t), some (.int b)] ∧ Wd b ∧ PenAt Hz pn (n + 13) ∧ But pn H Hz, ?_, ?_⟩
    · refine ⟨_, rfl, pn, 3, n + 12, rfl, by decide, by decide, p2, by omega, fun d3 H3 a3 b3 p3 u3 => ⟨rfl, _, rfl, ?_⟩⟩
      refine ite2 (fun c => ?_) (fun c => ?_)
      · exact ⟨1, rfl, ⟨by decide, by decide⟩, p3, (u1.trans u2).trans u3⟩
      · exact ⟨b, rfl, wb, p3, (u1.trans u2).trans u3⟩
    · rintro σ Hz ⟨b, rfl, wb, pz, uz⟩
      refine ⟨_, rfl, _, rfl, rfl, _, rfl, ?_⟩
      have fin : ∀ (c : Int), Wd c → c ≠ 0 → ∀ p, Hz p = none → Q (.ref p) (upd Hz p (.tup [.int t, .int c])) := fun c wc c0 p hpn => by
        have ne : p ≠ pn := pen_ne pz hpn
        have hn0 : H p = none := by
          cases e : H p with
          | none => rfl
          | some o =>
            rw [uz p o e ne] at hpn
            cases hpn
        exact k t c p _ wt wc c0 hn0 upd_same (pen_new pz hpn) (uz.trans (But.new hpn))
      refine ite2 (fun c => ?_) (fun c => ?_)
      · refine ⟨_, rfl, (by show 2 ≤ sizeLine; decide), fin b wb ?_⟩
        rintro rfl
        simp at c
      · exact ⟨(by show 2 ≤ sizeLine; decide), fin 6 ⟨by decide, by decide⟩ (by decide)⟩
theorem ok_lowest {f : Addr} {fd : FuncData} (F : Fun K "_law_lowest" "_law_lowest" s_lowest f fd) (T : BI mg) : FnOk P w K mg base CX0 1 f fd ["_law_top", "_law_bottom"] spLowest := by
  refine F.ok sc_lowest (fun vs H Q E h => ?_) (fun cdv A outer s H vs Q E hr h => ?_)
  · obtain ⟨t, b, rfl, _⟩ := h
    rfl
  · obtain ⟨t, b, rfl, b0, lb, q⟩ := h
    refine ⟨_, (pss_cons (ps_par (i := 2) (j := 3) (by rfl) sc_lowest.nd rfl rfl (by decide) rfl rfl (pa_cons (pe_callB call_abs (by rfl) T.z_abs boot_abs (pa_cons (pv 0) pa_nil)) (pa_cons (pe_callB call_abs (by rfl) T.z_abs boot_abs (pa_cons (pv 1) pa_nil)) pa_nil)) (by rfl))
      (pss_cons (ps_while PassesOwn.never (pt_cmpR op_ne (pv 3) pe_int (nomark _)) (pss_one (ps_par (i := 2) (j := 3) (by rfl) sc_lowest.nd rfl rfl (by decide) rfl rfl (pa_cons (pv 3) (pa_cons (pe_op op_modN (pe_callTy call_int1 (by rfl) T.z_int boot_int (pa_cons (pv 2) pa_nil)) (pv 3)) pa_nil)) (by rfl))))
      (pss_cons (ps_set (i := 4) sc_lowest.nd rfl (Or.inl rfl) (pe_ifExp (pt_cmpR op_gt (pv 1) pe_int (nomark _)) pe_int (pe_un un_neg pe_int)))
      (pss_one (ps_ret (pe_tup (pa_cons (pe_op My.op_fdivX (pe_op op_mul (pv 4) (pv 0)) (pv 2)) (pa_cons (pe_op My.op_fdivX (pe_op op_mul (pv 4) (pv 1)) (pv 2)) pa_nil)))))))), ?_⟩
    refine ⟨_, rfl, t, rfl, _, rfl, b, rfl, _, _, rfl, ?_⟩
    refine while_by (fun σ Hz => Hz = H ∧ ∃ x y : Int, σ = [some (.int t), some (.int b), some (.int x), some (.int y), none] ∧ 0 ≤ x ∧ 0 ≤ y ∧ Int.gcd x y = Int.gcd t b) (fun σ _ => match σ with | [_, _, _, some (.int y), _] => y.toNat | _ => 0) ?_ ?_ ?_
    · exact ⟨rfl, _, _, rfl, by split <;> omega, by split <;> omega, gcd_absI t b⟩
    · rintro σ Hz ⟨rfl, x, y, rfl, hx, hy, hg⟩
      refine ⟨_, rfl, rfl, _, rfl, ?_⟩
      refine ite2 (fun c => ?_) (fun c => ?_)
      · have y0 : y ≠ 0 := by
          rintro rfl
          simp at c
        obtain ⟨m1, m2⟩ := fmod_bd (a := x) (b := y) (by omega)
        refine ⟨_, rfl, _, rfl, .inl ⟨_, rfl, _, rfl, _, _, rfl, rfl, y0, _, _, rfl, ⟨rfl, y, x.fmod y, rfl, hy, m1, ?_⟩, ?_⟩⟩
        · rw [gcd_turn hx hy]
          exact hg
        · show (x.fmod y).toNat < y.toNat
          omega
      · have y0 : y = 0 := by
          by_cases z : y = 0
          · exact z
          · exfalso
            apply c
            simp [z]
        subst y0
        have e : x = (Int.gcd t b : Int) := by
          rw [← hg]
          show x = ((Nat.gcd x.natAbs 0 : Nat) : Int)
          rw [Nat.gcd_zero_right]
          omega
        subst e
        have g0 := gcd_posI (t := t) b0
        have gl : ((Int.gcd t b : Int)).natAbs.log2 < 9000 := log_le (by rw [Int.natAbs_natCast]; exact gcd_le_r b0) lb (by omega)
        have e1 := sgnT (t := t) b0
        have e2 := sgnB (t := t) b0
        refine ⟨_, rfl, _, _, rfl, rfl, _, rfl, ?_⟩
        refine ite2 (fun c => ?_) (fun c => ?_)
        · rw [if_pos (of_decide_eq_true c)] at e1 e2
          refine ⟨_, rfl, _, rfl, _, _, rfl, rfl, .inl ⟨by decide, by decide⟩, _, rfl, _, _, rfl, rfl, ⟨by omega, gl⟩, _, rfl, _, rfl, _, _, rfl, rfl, .inl ⟨by decide, by decide⟩, _, rfl, _, _, rfl, rfl, ⟨by omega, gl⟩, (by show 2 ≤ sizeLine; decide), fun p hp => ?_⟩
          have z := q p hp
          rw [← e1, ← e2] at z
          exact z
        · rw [if_neg (fun z => c (decide_eq_true z))] at e1 e2
          refine ⟨_, rfl, _, rfl, _, rfl, _, _, rfl, rfl, .inl ⟨by decide, by decide⟩, _, rfl, _, _, rfl, rfl, ⟨by omega, gl⟩, _, rfl, _, rfl, _, _, rfl, rfl, .inl ⟨by decide, by decide⟩, _, rfl, _, _, rfl, rfl, ⟨by omega, gl⟩, (by show 2 ≤ sizeLine; decide), fun p hp => ?_⟩
          have z := q p hp
          rw [← e1, ← e2] at z
          exact z
    · rintro σ Hz Q1 Q2 hm ⟨v, e, h1, h2⟩
      exact ⟨v, e, h1, by obtain ⟨b, e2, h3⟩ := h2; exact ⟨b, e2, hm _ _ h3⟩⟩
theorem ok_parts {f : Addr} {fd : FuncData} (F : Fun K "_law_parts" "_law_parts" s_parts f fd) (T : RTx P K mg C CB fB CN) : FnG P w K mg base CX0 1 f fd ["_law_ratio"] (spPartsL C) := by
  refine okG F sc_parts (fun vs H Q E h => ?_) (fun cdv A outer s H vs Q E hf hgd hr h => ?_)
  · obtain ⟨p, a, b, rfl, _⟩ := h
    rfl
  · obtain ⟨p, a, b, rfl, hp, ha, hb, k⟩ := h
    refine ⟨_, (pss_one (ps_ret (pe_ifExp (pt_val (pe_callB call_isi (by rfl) T.z_isinstance boot_isinstance (pa_cons (pv 0) (pa_cons (pe_glob (v := .ref C) (by rfl) T.gR rfl) pa_nil)))) (pe_callB (My.call_repr hgd hr) (by rfl) T.z_repr boot_repr (pa_cons (pe_tup (pa_cons (pe_fld (pv 0) rfl) (pa_cons (pe_fld (pv 0) rfl) pa_nil))) pa_nil)) pe_str))), ?_⟩
    obtain ⟨dx, e⟩ := id hp
    refine ⟨_, rfl, _, _, _, _, true, rfl, .own _, T.ty hp, T.me, _, rfl, iteT ?_⟩
    refine ⟨_, rfl, p, C, dx, _, _, rfl, e, T.cl, T.nT, rfs_top _ _, _, rfl, p, C, dx, _, _, rfl, e, T.cl, T.nB, rfs_bot _ _, (by show 2 ≤ sizeLine; decide), fun t ht => ?_⟩
    obtain ⟨i1, i2, i3, i4⟩ := two_show (K := K) (H := upd H t (.tup [.int a, .int b])) (l := t) ha hb upd_same
    exact ⟨_, _, rfl, i1, i2, i3, i4, k _ (same_new ht)⟩
end
end My
set_option exponentiation.threshold 5000
namespace My
open PySem PySem.Spec PyProof.Rows L2
abbrev s_real : Stmt := topS 23
theorem sc_real : FnScope ["_law_pen_here", "_law_pair_here", "_law_top", "_law_bottom"] ["_law_pen_here", "_law_pair_here"] (defScope s_real) := ⟨rfl, rfl, rfl, by decide +kernel, rfl, by decide +kernel, by decide +kernel⟩
abbrev s_shown : Stmt := topS 24
theorem sc_shown : FnScope ["_law_heard_here"] ["_law_heard_here"] (defScope s_shown) := ⟨rfl, rfl, rfl, by decide +kernel, rfl, by decide +kernel, by decide +kernel⟩
abbrev s_due : Stmt := topS 25
theorem sc_due : FnScope ["_law_one", "_law_other", "_law_a", "_law_b", "_law_c", "_law_d", "_law_due_here", "_law_top", "_law_bottom", "_law_whole_here"] ["_law_one", "_law_other"] (defScope s_due) := ⟨rfl, rfl, rfl, by decide +kernel, rfl, by decide +kernel, by decide +kernel⟩
theorem two_ok (a b : Int) : PyData.strOk (two a b) = true := by
  show PyData.strOk ((((("(" : Str) ++ ((Str.ofString (toString a) ++ (", " : Str)) ++ Str.ofString (toString b))) ++ ((")" : String) : Str)))) = true
  simp only [strOk_app, strOk_of, Bool.and_true]
theorem tup_but {pn l : Addr} {H H' : Hp} {n : Nat} {xs : List V} (h : H l = some (.tup xs)) (hp : PenAt H pn n) (k : But pn H H') : H' l = some (.tup xs) := by
  obtain ⟨cl, ns, a, r, g1, _⟩ := hp
  exact k _ _ h (ne_of h g1 (by intro z; cases z))
theorem int_show {K : PySem.W.Frag} {H : Hp} {i : Int} (h : i.natAbs.log2 < 1920) : Dr K H (.int i) (.int i) ∧ (PyData.int i).showable = true ∧ (PyData.int i).depth ≤ 60 ∧ (PyData.int i).shown.length ≤ sizeLine := by
  refine ⟨.inl (.int i), decide_eq_true h, Nat.zero_le _, ?_⟩
  have := num_len h
  show ((toString i : String) : Str).length ≤ sizeLine
  rw [sizeLine_eq]
  omega
def spReal (C : Addr) : Sp := fun vs H Q _ => ∃ (pn pr : Addr) (n : Nat) (t b : Int), vs = [.ref pn, .ref pr] ∧ PenAt H pn n ∧ n < 80000 ∧ H pr = some (.tup [.int t, .int b]) ∧ Wd t ∧ Wd b ∧ b ≠ 0 ∧ ∀ (v : V) (H' : Hp), NumAt C H' v (lowT t b) (lowB t b) → PenAt H' pn (n + 1) → But pn H H' → Q v H'
def spShown (C : Addr) : Sp := fun vs H Q _ => ∃ a : Addr, vs = [.ref a] ∧ ((∃ xs, H a = some (.tup xs) ∧ Q (.ref a) H) ∨ (∃ p n d, H a = some (.lst [.ref p]) ∧ RatAt C H p n d ∧ n.natAbs.log2 < 1920 ∧ d.natAbs.log2 < 1920 ∧ ∀ H', Same H H' → Q (.str (two n d)) H') ∨ (∃ i : Int, H a = some (.lst [.int i]) ∧ i.natAbs.log2 < 1920 ∧ Q (.str ((toString i : String) : Str)) H))
def lowS (t b : Int) : Str := two (lowT t b) (lowB t b)
def divD : PyData := .tuple [.str "divisor"]
def dueL (a b c d : Int) : List PyData := [.str (lowS (a * d + c * b) (b * d)), .str (lowS (a * d - c * b) (b * d)), .str (lowS (a * c) (b * d))] ++
  (if c = 0 then [divD, divD] else [.str ((toString ((a * d).fdiv (b * c)) : String) : Str), .str (lowS (a * d - (a * d).fdiv (b * c) * c * b) (b * d))])
def spDue (K : PySem.W.Frag) : Sp := fun vs H Q _ => ∃ (p q : Addr) (a b c d : Int), vs = [.ref p, .ref q] ∧ H p = some (.tup [.int a, .int b]) ∧ H q = some (.tup [.int c, .int d]) ∧ Wd a ∧ Wd b ∧ Wd c ∧ Wd d ∧ b ≠ 0 ∧ d ≠ 0 ∧ ∀ (l : Addr) (H' : Hp), Dp K H' (.ref l) (.list (dueL a b c d)) → Same H H' → Q (.ref l) H'
theorem whole_eq {x y : Int} (hy : y ≠ 0) : (x - x.fmod y).fdiv y = x.fdiv y := by
  have e := Int.mul_fdiv_add_fmod x y
  have e2 : x - x.fmod y = y * x.fdiv y := by omega
  rw [e2, Int.mul_fdiv_cancel_left _ hy]
theorem Wd.b1 {z : Int} (h : Wd z) : B1 z := bd_le h.abs (by decide)
theorem Wd.b2 {z : Int} (h : Wd z) : B2 z := h.b1.b2
theorem low_show {K : PySem.W.Frag} {H : Hp} {l : Addr} {t b : Int} (b0 : b ≠ 0) (ht : t.natAbs < 2 ^ 1500) (hb : b.natAbs < 2 ^ 1500) (h : H l = some (.tup [.int (lowT t b), .int (lowB t b)])) : Dr K H (.ref l) (.tuple [.int (lowT t b), .int (lowB t b)]) ∧ (PyData.tuple [.int (lowT t b), .int (lowB t b)]).showable = true ∧ (PyData.tuple [.int (lowT t b), .int (lowB t b)]).depth ≤ 60 ∧ (PyData.tuple [.int (lowT t b), .int (lowB t b)]).shown.length ≤ sizeLine :=
  two_show (log_of (Nat.lt_of_le_of_lt (lowT_abs b0) ht)) (log_of (Nat.lt_of_le_of_lt (lowB_abs b0) hb)) h
section
variable {P : Program} {w : World} {K : PySem.W.Frag} {mg : Str → Option Value} {base : Heap} {C CB fB CN : Addr}
theorem ok_real {f : Addr} {fd : FuncData} (F : Fun K "_law_real" "_law_real" s_real f fd) (T : RTx P K mg C CB fB CN) (D_draw : DefAt P w K mg base CX0 1 "_law_draw" ["_law_pen_here", "_law_many"] spDraw) (D_lowest : DefAt P w K mg base CX0 1 "_law_lowest" ["_law_top", "_law_bottom"] spLowest)
    (M_Ratio : MakeAt P w K mg base (L2.CX P w) 3 "Ratio" C ["self", "top", "bottom"] (spInit C CB CN) []) : FnOk P w K mg base CX0 5 f fd ["_law_pen_here", "_law_pair_here"] (spReal C) := by
  refine F.ok sc_real (fun vs H Q E h => ?_) (fun cdv A outer s H vs Q E hr h => ?_)
  · obtain ⟨pn, pr, n, t, b, rfl, _⟩ := h
    rfl
  · obtain ⟨pn, pr, n, t, b, rfl, hp, hn, hpr, wt, wb, b0, k⟩ := h
    refine ⟨_, (pss_cons (ps_asg (My.pe_d D_lowest (hr.mono (by decide)) (by rfl) pass0 (pa_cons (pe_ix ix_tup (pv 1) pe_int (fun _ _ => rfl)) (pa_cons (pe_ix ix_tup (pv 1) pe_int (fun _ _ => rfl)) pa_nil))) (pg_tup rfl (pgs_cons (pg_name (i := 2) sc_real.nd rfl (Or.inl rfl)) (pgs_cons (pg_name (i := 3) sc_real.nd rfl (Or.inl rfl)) pgs_nil))))
      (pss_one (ps_ret (pe_ifExp (PW.pt (pw_and (pt_cmpR op_eq (pv 3) pe_int (nomark _)) (pw_and1 (pt_cmpR op_eq (My.pe_d D_draw (hr.mono (by decide)) (by rfl) pass0 (pa_cons (pv 0) (pa_cons pe_int pa_nil))) pe_int (nomark _))))) (pv 2) (My.pe_mk M_Ratio (hr.mono (by decide)) (by rfl) passL (pa_cons (pv 2) (pa_cons (pv 3) pa_nil))))))), ?_⟩
    have lb := log9 wb.abs
    refine ⟨_, rfl, pr, _, _, .int t, rfl, rfl, SqT.of hpr, rfl, _, rfl, pr, _, _, .int b, rfl, rfl, SqT.of hpr, rfl, t, b, rfl, b0, lb, fun q hq => ⟨q, _, rfl, SqT.of upd_same, rfl, _, _, rfl, _, _, rfl, rfl, ?_⟩⟩
    have s1 := same_new (o := .tup [.int (lowT t b), .int (lowB t b)]) hq
    have p1 := pen_same hp s1
    have bp := lowB_pos (t := t) b0
    have nb := Nat.lt_of_le_of_lt (lowB_abs (t := t) b0) wb.abs
    obtain ⟨l1, l2⟩ := low_self bp (low_cop (t := t) b0)
    have fin : ∀ (Hz : Hp) (m : Nat), PenAt Hz pn m → m ≤ n + 1 → But pn H Hz → ∀ (x dx : Addr), Hz x = none → Hz dx = none → dx ≠ x → spInit C CB CN (.ref x :: ([.int (lowT t b), .int (lowB t b)] ++ [])) (upd (upd Hz dx (.own x)) x (.ins C dx [])) (fun v H2 => v = .non ∧ Q (.ref x) H2) E0 := fun Hz m pz hm uz x dx hx hd ne =>
      init_at (by omega) (log9 nb) hx hd ne fun H' l s => by
        rw [l1, l2] at l
        exact k (.ref x) H' (.inl ⟨x, rfl, l⟩) ((pen_same pz s).le hm) (uz.trans (but_same s))
    refine ⟨_, rfl, rfl, _, rfl, ?_⟩
    refine ite2 (fun c => ?_) (fun c => iteF ⟨_, rfl, _, rfl, fin _ n p1 (by omega) (but_same s1)⟩)
    refine ⟨_, rfl, pn, 2, n, rfl, by decide, by decide, p1, by omega, fun d2 H2 a2 b2 p2 u2 => ⟨rfl, _, rfl, ?_⟩⟩
    have u2' := (but_same (pn := pn) s1).trans u2
    refine ite2 (fun c2 => ?_) (fun c2 => ⟨_, rfl, _, rfl, fin _ (n + 1) p2 (by omega) u2'⟩)
    have e1 : lowB t b = 1 := V.int.inj (of_decide_eq_true c)
    exact ⟨_, rfl, k _ H2 (.inr ⟨rfl, e1⟩) p2 u2'⟩
theorem ok_shown {f : Addr} {fd : FuncData} (F : Fun K "_law_shown" "_law_shown" s_shown f fd) (T : RTx P K mg C CB fB CN) (D_parts : DefG P w K mg base CX0 1 "_law_parts" ["_law_ratio"] (spPartsL C)) : FnG P w K mg base CX0 2 f fd ["_law_heard_here"] (spShown C) := by
  refine okG F sc_shown (fun vs H Q E h => ?_) (fun cdv A outer s H vs Q E hf hgd hr h => ?_)
  · obtain ⟨a, rfl, _⟩ := h
    rfl
  · obtain ⟨a, rfl, h⟩ := h
    refine ⟨_, (pss_cons (ps_if (pt_val (pe_callB call_isi (by rfl) T.z_isinstance boot_isinstance (pa_cons (pv 0) (pa_cons (pe_bltn (v := .ty "tuple") (by rfl) T.z_tuple boot_tuple rfl) pa_nil)))) (pss_one (ps_ret (pv 0))) pss_nil)
      (pss_one (ps_ret (pe_ifExp (pt_val (pe_callB call_isi (by rfl) T.z_isinstance boot_isinstance (pa_cons (pe_ix ix_list (pv 0) pe_int (fun _ _ => rfl)) (pa_cons (pe_glob (v := .ref C) (by rfl) T.gR rfl) pa_nil)))) (My.pe_dG D_parts hgd (hr.mono (by decide)) (by rfl) pass0 (pa_cons (pe_ix ix_list (pv 0) pe_int (fun _ _ => rfl)) pa_nil)) (pe_callB (My.call_repr hgd hr) (by rfl) T.z_repr boot_repr (pa_cons (pe_ix ix_list (pv 0) pe_int (fun _ _ => rfl)) pa_nil)))))), ?_⟩
    rcases h with ⟨xs, ha, k⟩ | ⟨p, n, d, ha, hp, ln, ld, k⟩ | ⟨i, ha, li, k⟩
    · exact ⟨_, rfl, _, _, _, _, true, rfl, .ty _, (Ty0.tup ha).tyx, kit_ty (by decide +kernel), _, rfl, iteT ⟨_, rfl, k⟩⟩
    · refine ⟨_, rfl, _, _, _, _, false, rfl, .ty _, (Ty0.lst ha).tyx, kit_ty (by decide +kernel), _, rfl, iteF ?_⟩
      refine ⟨_, rfl, a, _, _, .ref p, rfl, rfl, SqL.of ha, rfl, _, _, _, _, true, rfl, .own _, T.ty hp, T.me, _, rfl, iteT ?_⟩
      exact ⟨_, rfl, a, _, _, .ref p, rfl, rfl, SqL.of ha, rfl, p, n, d, rfl, hp, ln, ld, k⟩
    · refine ⟨_, rfl, _, _, _, _, false, rfl, .ty _, (Ty0.lst ha).tyx, kit_ty (by decide +kernel), _, rfl, iteF ?_⟩
      refine ⟨_, rfl, a, _, _, .int i, rfl, rfl, SqL.of ha, rfl, _, _, _, _, false, rfl, .own _, (Ty0.int i).tyx, (T.kn _ (.head _)).1, _, rfl, iteF ?_⟩
      obtain ⟨i1, i2, i3, i4⟩ := int_show (K := K) (H := H) li
      exact ⟨_, rfl, a, _, _, .int i, rfl, rfl, SqL.of ha, rfl, _, _, rfl, i1, i2, i3, i4, k⟩
theorem ok_due {f : Addr} {fd : FuncData} (F : Fun K "_law_due" "_law_due" s_due f fd) (T : RTx P K mg C CB fB CN) (D_lowest : DefAt P w K mg base CX0 1 "_law_lowest" ["_law_top", "_law_bottom"] spLowest) : FnG P w K mg base CX0 2 f fd ["_law_one", "_law_other"] (spDue K) := by
  refine okG F sc_due (fun vs H Q E h => ?_) (fun cdv A outer s H vs Q E hf hgd hr h => ?_)
  · obtain ⟨p, q, a, b, c, d, rfl, _⟩ := h
    rfl
  · obtain ⟨p, q, a, b, c, d, rfl, hp, hq, wa, wb, wc, wd, b0, d0, k⟩ := h
    refine ⟨_, (pss_cons (ps_asg (pe_tup (pa_cons (pv 0) (pa_cons (pv 1) pa_nil))) (pg_tup rfl (pgs_cons (pg_tup rfl (pgs_cons (pg_name (i := 2) sc_due.nd rfl (Or.inl rfl)) (pgs_cons (pg_name (i := 3) sc_due.nd rfl (Or.inl rfl)) pgs_nil))) (pgs_cons (pg_tup rfl (pgs_cons (pg_name (i := 4) sc_due.nd rfl (Or.inl rfl)) (pgs_cons (pg_name (i := 5) sc_due.nd rfl (Or.inl rfl)) pgs_nil))) pgs_nil))))
      (pss_cons (ps_set (i := 6) sc_due.nd rfl (Or.inl rfl) (pe_lst (pa_cons (pe_callB (My.call_repr hgd hr) (by rfl) T.z_repr boot_repr (pa_cons (My.pe_d D_lowest (hr.mono (by decide)) (by rfl) pass0 (pa_cons (pe_op op_add (pe_op op_mulW (pv 2) (pv 5)) (pe_op op_mulW (pv 4) (pv 3))) (pa_cons (pe_op op_mulW (pv 3) (pv 5)) pa_nil))) pa_nil)) (pa_cons (pe_callB (My.call_repr hgd hr) (by rfl) T.z_repr boot_repr (pa_cons (My.pe_d D_lowest (hr.mono (by decide)) (by rfl) pass0 (pa_cons (pe_op op_sub (pe_op op_mulW (pv 2) (pv 5)) (pe_op op_mulW (pv 4) (pv 3))) (pa_cons (pe_op op_mulW (pv 3) (pv 5)) pa_nil))) pa_nil)) pa_nil))))
      (pss_cons (ps_expr (pe_bm PySem.F.plainAttrs_list PySem.F.slot_list_append PySem.F.type_list_append mt_append (pv 6) (pa_cons (pe_callB (My.call_repr hgd hr) (by rfl) T.z_repr boot_repr (pa_cons (My.pe_d D_lowest (hr.mono (by decide)) (by rfl) pass0 (pa_cons (pe_op op_mulW (pv 2) (pv 4)) (pa_cons (pe_op op_mulW (pv 3) (pv 5)) pa_nil))) pa_nil)) pa_nil)))
      (pss_cons (ps_if (pt_cmpR op_eq (pv 4) pe_int (nomark _)) (pss_one (ps_ret (pe_op op_cat (pv 6) (pe_op op_rep (pe_lst (pa_cons (pe_tup (pa_cons pe_str pa_nil)) pa_nil)) pe_int)))) pss_nil)
      (C8.pss_cut (ps_asg (pe_ifExp (pt_cmpR op_gt (pe_op op_mulW (pv 3) (pv 4)) pe_int (nomark _)) (pe_tup (pa_cons (pe_op op_mulW (pv 2) (pv 5)) (pa_cons (pe_op op_mulW (pv 3) (pv 4)) pa_nil))) (pe_tup (pa_cons (pe_op op_sub pe_int (pe_op op_mulW (pv 2) (pv 5))) (pa_cons (pe_op op_sub pe_int (pe_op op_mulW (pv 3) (pv 4))) pa_nil)))) (pg_tup rfl (pgs_cons (pg_name (i := 7) sc_due.nd rfl (Or.inl rfl)) (pgs_cons (pg_name (i := 8) sc_due.nd rfl (Or.inl rfl)) pgs_nil))))
      (pss_cons (ps_set (i := 9) sc_due.nd rfl (Or.inl rfl) (pe_op My.op_fdivX (pe_op op_sub (pv 7) (pe_op op_modN (pe_callTy call_int1 (by rfl) T.z_int boot_int (pa_cons (pv 7) pa_nil)) (pv 8))) (pv 8)))
      (pss_one (ps_ret (pe_op op_cat (pv 6) (pe_lst (pa_cons (pe_callB (My.call_repr hgd hr) (by rfl) T.z_repr boot_repr (pa_cons (pv 9) pa_nil)) (pa_cons (pe_callB (My.call_repr hgd hr) (by rfl) T.z_repr boot_repr (pa_cons (My.pe_d D_lowest (hr.mono (by decide)) (by rfl) pass0 (pa_cons (pe_op op_sub (pe_op op_mulW (pv 2) (pv 5)) (pe_op op_mulW (pe_op op_mulW (pv 9) (pv 4)) (pv 3))) (pa_cons (pe_op op_mulW (pv 3) (pv 5)) pa_nil))) pa_nil)) pa_nil)))))))))))), ?_⟩
    refine ⟨_, rfl, _, rfl, (by show 2 ≤ sizeLine; decide), fun t1 h1 => ?_⟩
    have hp1 := same_new (o := .tup [.ref p, .ref q]) h1 _ _ hp
    have hq1 := same_new (o := .tup [.ref p, .ref q]) h1 _ _ hq
    refine ⟨t1, _, rfl, SqT.of upd_same, rfl, _, _, rfl, ?_⟩
    refine ⟨p, _, rfl, SqT.of hp1, rfl, _, _, rfl, _, _, rfl, rfl, ?_⟩
    refine ⟨_, _, rfl, q, _, rfl, SqT.of hq1, rfl, _, _, rfl, _, _, rfl, rfl, rfl, ?_⟩
    have s1 := same_new (o := .tup [.ref p, .ref q]) h1
    generalize (upd H t1 (.tup [.ref p, .ref q])) = H1 at s1
    have bdn : b * d ≠ 0 := Int.mul_ne_zero b0 d0
    have bdl : (b * d).natAbs.log2 < 9000 := B2.prod wb.b2 wd.b2
    have bbd : (b * d).natAbs < 2 ^ 1500 := bd_le (bd_mul wb.abs wd.abs) (by decide)
    have had := bd_mul wa.abs wd.abs
    have hcb := bd_mul wc.abs wb.abs
    have hac := bd_mul wa.abs wc.abs
    have hbc := bd_mul wb.abs wc.abs
    refine ⟨_, rfl, _, rfl, _, _, rfl, rfl, B2.mul wa.b2 wd.b2, _, rfl, _, rfl, _, _, rfl, rfl, B2.mul wc.b2 wb.b2, _, _, rfl, rfl, _, rfl, _, rfl, _, _, rfl, rfl, B2.mul wb.b2 wd.b2, _, _, rfl, bdn, bdl, fun q2 h2 => ?_⟩
    obtain ⟨i1, i2, i3, i4⟩ := low_show (K := K) (H := upd H1 q2 (.tup [.int (lowT (a * d + c * b) (b * d)), .int (lowB (a * d + c * b) (b * d))])) (l := q2) bdn (bd_le (bd_add had hcb) (by decide)) bbd upd_same
    refine ⟨_, _, rfl, i1, i2, i3, i4, ?_⟩
    clear i1 i2 i3 i4
    have s2 := same_new (o := .tup [.int (lowT (a * d + c * b) (b * d)), .int (lowB (a * d + c * b) (b * d))]) h2
    generalize (upd H1 q2 (.tup [.int (lowT (a * d + c * b) (b * d)), .int (lowB (a * d + c * b) (b * d))])) = H2 at s2
    refine ⟨_, rfl, _, rfl, _, _, rfl, rfl, B2.mul wa.b2 wd.b2, _, rfl, _, rfl, _, _, rfl, rfl, B2.mul wc.b2 wb.b2, _, _, rfl, rfl, _, rfl, _, rfl, _, _, rfl, rfl, B2.mul wb.b2 wd.b2, _, _, rfl, bdn, bdl, fun q3 h3 => ?_⟩
    obtain ⟨i1, i2, i3, i4⟩ := low_show (K := K) (H := upd H2 q3 (.tup [.int (lowT (a * d - c * b) (b * d)), .int (lowB (a * d - c * b) (b * d))])) (l := q3) bdn (bd_le (bd_sub had hcb) (by decide)) bbd upd_same
    refine ⟨_, _, rfl, i1, i2, i3, i4, ?_⟩
    clear i1 i2 i3 i4
    have s3 := same_new (o := .tup [.int (lowT (a * d - c * b) (b * d)), .int (lowB (a * d - c * b) (b * d))]) h3
    generalize (upd H2 q3 (.tup [.int (lowT (a * d - c * b) (b * d)), .int (lowB (a * d - c * b) (b * d))])) = H3 at s3
    refine ⟨(by show 2 ≤ sizeLine; decide), fun l4 h4 => ?_⟩
    have s4 := same_new (o := .lst [.str (PyData.tuple [.int (lowT (a * d + c * b) (b * d)), .int (lowB (a * d + c * b) (b * d))]).shown, .str (PyData.tuple [.int (lowT (a * d - c * b) (b * d)), .int (lowB (a * d - c * b) (b * d))]).shown]) h4
    have L4 : (upd H3 l4 (.lst [.str (PyData.tuple [.int (lowT (a * d + c * b) (b * d)), .int (lowB (a * d + c * b) (b * d))]).shown, .str (PyData.tuple [.int (lowT (a * d - c * b) (b * d)), .int (lowB (a * d - c * b) (b * d))]).shown])) l4 = some (.lst [.str (lowS (a * d + c * b) (b * d)), .str (lowS (a * d - c * b) (b * d))]) := upd_same
    generalize (upd H3 l4 (.lst [.str (PyData.tuple [.int (lowT (a * d + c * b) (b * d)), .int (lowB (a * d + c * b) (b * d))]).shown, .str (PyData.tuple [.int (lowT (a * d - c * b) (b * d)), .int (lowB (a * d - c * b) (b * d))]).shown])) = H4 at s4 L4
    refine ⟨_, rfl, .inl ⟨rfl, _, SqL.of L4⟩, ?_⟩
    refine ⟨_, rfl, _, rfl, _, _, rfl, rfl, B2.mul wa.b2 wc.b2, _, rfl, _, rfl, _, _, rfl, rfl, B2.mul wb.b2 wd.b2, _, _, rfl, bdn, bdl, fun q5 h5 => ?_⟩
    obtain ⟨i1, i2, i3, i4⟩ := low_show (K := K) (H := upd H4 q5 (.tup [.int (lowT (a * c) (b * d)), .int (lowB (a * c) (b * d))])) (l := q5) bdn (bd_le hac (by decide)) bbd upd_same
    refine ⟨_, _, rfl, i1, i2, i3, i4, ?_⟩
    clear i1 i2 i3 i4
    have s5 := same_new (o := .tup [.int (lowT (a * c) (b * d)), .int (lowB (a * c) (b * d))]) h5
    generalize (upd H4 q5 (.tup [.int (lowT (a * c) (b * d)), .int (lowB (a * c) (b * d))])) = H5 at s5
    have n04 : ∀ b' o, H b' = some o → b' ≠ l4 := fun b' o e => ne_of_none (s3 _ _ (s2 _ _ (s1 _ _ e))) h4
    refine ⟨l4, _, _, rfl, rfl, s5 _ _ L4, (by show 2 < sizeLine; decide), ?_⟩
    have L6 : (upd H5 l4 (.lst ([.str (lowS (a * d + c * b) (b * d)), .str (lowS (a * d - c * b) (b * d))] ++ [.str (PyData.tuple [.int (lowT (a * c) (b * d)), .int (lowB (a * c) (b * d))]).shown]))) l4 = some (.lst [.str (lowS (a * d + c * b) (b * d)), .str (lowS (a * d - c * b) (b * d)), .str (lowS (a * c) (b * d))]) := upd_same
    have S6 : Same H (upd H5 l4 (.lst ([.str (lowS (a * d + c * b) (b * d)), .str (lowS (a * d - c * b) (b * d))] ++ [.str (PyData.tuple [.int (lowT (a * c) (b * d)), .int (lowB (a * c) (b * d))]).shown]))) := fun b' o e => by
      rw [upd_ne (n04 b' o e)]
      exact s5 _ _ (s4 _ _ (s3 _ _ (s2 _ _ (s1 _ _ e))))
    generalize (upd H5 l4 (.lst ([.str (lowS (a * d + c * b) (b * d)), .str (lowS (a * d - c * b) (b * d))] ++ [.str (PyData.tuple [.int (lowT (a * c) (b * d)), .int (lowB (a * c) (b * d))]).shown]))) = H6 at L6 S6
    refine ⟨_, rfl, rfl, _, rfl, ?_⟩
    refine ite2 (fun g => ?_) (fun g => ?_)
    · have c0 : c = 0 := V.int.inj (of_decide_eq_true g)
      refine ⟨_, rfl, (by show 1 ≤ sizeLine; decide), fun t7 h7 => ⟨(by show 1 ≤ sizeLine; decide), fun l8 h8 => ⟨l8, 2, _, rfl, rfl, upd_same, by decide, by decide, (by show 1 * 2 ≤ sizeLine; decide), fun l9 h9 => ?_⟩⟩⟩
      have s7 := same_new (o := .tup [.str "divisor"]) h7
      have s8 := same_new (o := .lst [.ref t7]) h8
      have s9 := same_new (o := .lst (List.replicate (Int.toNat 2) [.ref t7]).flatten) h9
      refine ⟨l4, l9, _, _, rfl, rfl, s9 _ _ (s8 _ _ (s7 _ _ L6)), upd_same, (by show 3 + 2 ≤ sizeLine; decide), fun l10 h10 => ?_⟩
      have s10 := same_new (o := .lst ([.str (lowS (a * d + c * b) (b * d)), .str (lowS (a * d - c * b) (b * d)), .str (lowS (a * c) (b * d))] ++ (List.replicate (Int.toNat 2) [.ref t7]).flatten)) h10
      have e7 := s10 _ _ (s9 _ _ (s8 _ _ (upd_same (H := H6) (a := t7) (o := .tup [.str "divisor"]))))
      refine k l10 _ ?_ ((((S6.trans s7).trans s8).trans s9).trans s10)
      have dd : Dp K (upd (upd (upd (upd H6 t7 (.tup [.str "divisor"])) l8 (.lst [.ref t7])) l9 (.lst (List.replicate (Int.toNat 2) [.ref t7]).flatten)) l10 (.lst ([.str (lowS (a * d + c * b) (b * d)), .str (lowS (a * d - c * b) (b * d)), .str (lowS (a * c) (b * d))] ++ (List.replicate (Int.toNat 2) [.ref t7]).flatten))) (.ref t7) divD := .tup (SqT.of e7) (.cons (.str _) .nil)
      unfold dueL
      rw [if_pos c0]
      exact .lst (SqL.of upd_same) (.cons (.str _) (.cons (.str _) (.cons (.str _) (.cons dd (.cons dd .nil)))))
    · have c0 : c ≠ 0 := fun z => g (decide_eq_true (by rw [z]))
      have bcn : b * c ≠ 0 := Int.mul_ne_zero b0 c0
      have bcl : (b * c).natAbs.log2 < 9000 := B2.prod wb.b2 wc.b2
      have bk := fdiv_bd had bcn
      refine ⟨fun σ Hz => ∃ x y : Int, σ = [some (.ref p), some (.ref q), some (.int a), some (.int b), some (.int c), some (.int d), some (.ref l4), some (.int x), some (.int y), none] ∧ y ≠ 0 ∧ y.natAbs.log2 < 9000 ∧ x.fdiv y = (a * d).fdiv (b * c) ∧ Same H6 Hz, ?_, ?_⟩
      · refine ⟨_, rfl, _, rfl, _, _, rfl, rfl, B2.mul wb.b2 wc.b2, _, _, rfl, rfl, _, rfl, ?_⟩
        refine ite2 (fun g2 => ?_) (fun g2 => ?_)
        · exact ⟨_, rfl, _, rfl, _, _, rfl, rfl, B2.mul wa.b2 wd.b2, _, rfl, _, rfl, _, _, rfl, rfl, B2.mul wb.b2 wc.b2, (by show 2 ≤ sizeLine; decide), fun t7 h7 => ⟨t7, _, rfl, SqT.of upd_same, rfl, _, _, rfl, _, _, rfl, rfl, _, _, rfl, bcn, bcl, rfl, same_new h7⟩⟩
        · refine ⟨_, rfl, _, rfl, _, _, rfl, rfl, B2.mul wa.b2 wd.b2, _, _, rfl, rfl, _, rfl, _, rfl, _, _, rfl, rfl, B2.mul wb.b2 wc.b2, _, _, rfl, rfl, (by show 2 ≤ sizeLine; decide), fun t7 h7 => ⟨t7, _, rfl, SqT.of upd_same, rfl, _, _, rfl, _, _, rfl, rfl, _, _, rfl, by omega, ?_, ?_, same_new h7⟩⟩
          · rw [show (0 - b * c).natAbs = (b * c).natAbs by omega]
            exact bcl
          · rw [Int.zero_sub, Int.zero_sub, Int.neg_fdiv_neg]
      · rintro σ Hz ⟨x, y, rfl, y0, yl, exy, sz⟩
        refine ⟨_, rfl, _, rfl, .inl ⟨_, rfl, _, rfl, _, _, rfl, rfl, y0, _, _, rfl, rfl, _, rfl, _, _, rfl, rfl, ⟨y0, yl⟩, ?_⟩⟩
        have ek : (x - x.fmod y).fdiv y = ((a * d).fdiv (b * c)) := (whole_eq y0).trans exy
        have bk' : B2 ((x - x.fmod y).fdiv y) := by
          rw [ek]
          exact bd_le bk (by decide)
        have lk : ((x - x.fmod y).fdiv y).natAbs.log2 < 1920 := by
          rw [ek]
          exact log_of bk
        obtain ⟨i1, i2, i3, i4⟩ := int_show (K := K) (H := Hz) lk
        refine ⟨_, rfl, _, rfl, _, _, rfl, i1, i2, i3, i4, ?_⟩
        have hkc := bd_mul bk wc.abs
        have kcb : B2 (((x - x.fmod y).fdiv y) * c) := by
          rw [ek]
          exact bd_le hkc (by decide)
        refine ⟨_, rfl, _, rfl, _, _, rfl, rfl, B2.mul wa.b2 wd.b2, _, rfl, _, rfl, _, _, rfl, rfl, B2.mul bk' wc.b2, _, rfl, _, _, rfl, rfl, B2.mul kcb wb.b2, _, _, rfl, rfl, _, rfl, _, rfl, _, _, rfl, rfl, B2.mul wb.b2 wd.b2, _, _, rfl, bdn, bdl, fun q8 h8 => ?_⟩
        have hn5 : (a * d - ((x - x.fmod y).fdiv y) * c * b).natAbs < 2 ^ 1500 := by
          rw [ek]
          exact bd_le (bd_sub (bd_le had (by decide : 200 + 200 ≤ 801)) (bd_mul hkc wb.abs)) (by decide)
        obtain ⟨i1, i2, i3, i4⟩ := low_show (K := K) (H := upd Hz q8 (.tup [.int (lowT (a * d - ((x - x.fmod y).fdiv y) * c * b) (b * d)), .int (lowB (a * d - ((x - x.fmod y).fdiv y) * c * b) (b * d))])) (l := q8) bdn hn5 bbd upd_same
        refine ⟨_, _, rfl, i1, i2, i3, i4, (by show 2 ≤ sizeLine; decide), fun l9 h9 => ?_⟩
        clear i1 i2 i3 i4
        have s8 := same_new (o := .tup [.int (lowT (a * d - ((x - x.fmod y).fdiv y) * c * b) (b * d)), .int (lowB (a * d - ((x - x.fmod y).fdiv y) * c * b) (b * d))]) h8
        have s9 := same_new (o := .lst [.str (PyData.int ((x - x.fmod y).fdiv y)).shown, .str (PyData.tuple [.int (lowT (a * d - ((x - x.fmod y).fdiv y) * c * b) (b * d)), .int (lowB (a * d - ((x - x.fmod y).fdiv y) * c * b) (b * d))]).shown]) h9
        refine ⟨l4, l9, _, _, rfl, rfl, s9 _ _ (s8 _ _ (sz _ _ L6)), upd_same, (by show 3 + 2 ≤ sizeLine; decide), fun l10 h10 => ?_⟩
        have s10 := same_new (o := .lst ([.str (lowS (a * d + c * b) (b * d)), .str (lowS (a * d - c * b) (b * d)), .str (lowS (a * c) (b * d))] ++ [.str (PyData.int ((x - x.fmod y).fdiv y)).shown, .str (PyData.tuple [.int (lowT (a * d - ((x - x.fmod y).fdiv y) * c * b) (b * d)), .int (lowB (a * d - ((x - x.fmod y).fdiv y) * c * b) (b * d))]).shown])) h10
        refine k l10 _ ?_ ((((S6.trans sz).trans s8).trans s9).trans s10)
        unfold dueL
        rw [if_neg c0, ← ek]
        exact .lst (SqL.of upd_same) (.cons (.str _) (.cons (.str _) (.cons (.str _) (.cons (.str _) (.cons (.str _) .nil)))))
end
end My
set_option exponentiation.threshold 5000
namespace My
open PySem PySem.Spec PyProof.Rows L2
abbrev s_rightR : Stmt := topS 26
theorem sc_rightR : FnScope ["_law_one", "_law_other", "_law_mine", "_law_yours", "_law_given", "_law_heard_here"] ["_law_one", "_law_other", "_law_mine", "_law_yours"] (defScope s_rightR) := ⟨rfl, rfl, rfl, by decide +kernel, rfl, by decide +kernel, by decide +kernel⟩
/-! ### the maths: lowest terms first, or last -/
theorem fdiv_scale {k x y : Int} (hk : k ≠ 0) : (k * x).fdiv (k * y) = x.fdiv y := by
  rcases Int.lt_or_gt_of_ne hk with g | g
  · have e : (k * x).fdiv (k * y) = ((-k) * x).fdiv ((-k) * y) := by
      rw [Int.neg_mul, Int.neg_mul, Int.neg_fdiv_neg]
    rw [e]
    exact Int.mul_fdiv_mul_of_pos _ _ (by omega)
  · exact Int.mul_fdiv_mul_of_pos _ _ g
theorem fdiv_eq {x1 y1 x2 y2 : Int} (h1 : y1 ≠ 0) (h2 : y2 ≠ 0) (h : x1 * y2 = x2 * y1) : x1.fdiv y1 = x2.fdiv y2 := by
  have e1 : x1.fdiv y1 = (y2 * x1).fdiv (y2 * y1) := (fdiv_scale h2).symm
  have e2 : x2.fdiv y2 = (y1 * x2).fdiv (y1 * y2) := (fdiv_scale h1).symm
  rw [e1, e2]
  have e3 : y2 * x1 = y1 * x2 := by rw [Int.mul_comm, h, Int.mul_comm]
  rw [e3, Int.mul_comm y2 y1]
/-- A / B is a / b, C / D is c / d -/
structure Pr (a b c d A B C D : Int) : Prop where
  b0 : b ≠ 0
  d0 : d ≠ 0
  Bp : 0 < B
  Dp : 0 < D
  x : A * b = B * a
  y : C * d = D * c
section
variable {a b c d A B C D : Int}
theorem Pr.ne (h : Pr a b c d A B C D) : b * d ≠ 0 := Int.mul_ne_zero h.b0 h.d0
theorem Pr.ne2 (h : Pr a b c d A B C D) : B * D ≠ 0 := pos_ne h.Bp h.Dp
theorem Pr.add (h : Pr a b c d A B C D) : lowT (A * D + C * B) (B * D) = lowT (a * d + c * b) (b * d) ∧ lowB (A * D + C * B) (B * D) = lowB (a * d + c * b) (b * d) := low_eq h.ne2 h.ne (by
  have x := h.x
  have y := h.y
  grind)
theorem Pr.sub (h : Pr a b c d A B C D) : lowT (A * D - C * B) (B * D) = lowT (a * d - c * b) (b * d) ∧ lowB (A * D - C * B) (B * D) = lowB (a * d - c * b) (b * d) := low_eq h.ne2 h.ne (by
  have x := h.x
  have y := h.y
  grind)
theorem Pr.mul (h : Pr a b c d A B C D) : lowT (A * C) (B * D) = lowT (a * c) (b * d) ∧ lowB (A * C) (B * D) = lowB (a * c) (b * d) := low_eq h.ne2 h.ne (by
  have x := h.x
  have y := h.y
  grind)
theorem Pr.zero (h : Pr a b c d A B C D) : C = 0 ↔ c = 0 := by
  constructor
  · intro z
    have y := h.y
    rw [z, Int.zero_mul] at y
    rcases Int.mul_eq_zero.mp y.symm with q | q
    · have := h.Dp
      omega
    · exact q
  · intro z
    have y := h.y
    rw [z, Int.mul_zero] at y
    rcases Int.mul_eq_zero.mp y with q | q
    · exact q
    · exact absurd q h.d0
theorem Pr.floor (h : Pr a b c d A B C D) (c0 : c ≠ 0) : (A * D).fdiv (B * C) = (a * d).fdiv (b * c) := fdiv_eq (Int.mul_ne_zero (by have := h.Bp; omega) fun z => c0 (h.zero.mp z)) (Int.mul_ne_zero h.b0 c0) (by
  have x := h.x
  have y := h.y
  grind)
theorem Pr.mod (h : Pr a b c d A B C D) (k : Int) : lowT (A * D - k * C * B) (B * D) = lowT (a * d - k * c * b) (b * d) ∧ lowB (A * D - k * C * B) (B * D) = lowB (a * d - k * c * b) (b * d) := low_eq h.ne2 h.ne (by
  have x := h.x
  have y := h.y
  grind)
end
theorem pr_of {a b c d : Int} (b0 : b ≠ 0) (d0 : d ≠ 0) : Pr a b c d (lowT a b) (lowB a b) (lowT c d) (lowB c d) := ⟨b0, d0, lowB_pos b0, lowB_pos d0, low_cross, low_cross⟩
/-! ### what was heard -/
inductive Itm (C : Addr) (H : Hp) (a : Addr) : PyData → Prop where
  | rat {p : Addr} {n d : Int} (h : H a = some (.lst [.ref p])) (r : RatAt C H p n d) (ln : n.natAbs.log2 < 1920) (ld : d.natAbs.log2 < 1920) : Itm C H a (.str (two n d))
  | int {i : Int} (h : H a = some (.lst [.int i])) (li : i.natAbs.log2 < 1920) : Itm C H a (.str ((toString i : String) : Str))
  | div (h : H a = some (.tup [.str "divisor"])) : Itm C H a divD
theorem Itm.ext {C a : Addr} {H H' : Hp} {t : PyData} (h : Itm C H a t) (k : LamX.ExtN H H') : Itm C H' a t := by
  cases h with
  | rat h r ln ld => exact .rat (k _ _ h (by intro ps z; cases z)) (r.ext k) ln ld
  | int h li => exact .int (k _ _ h (by intro ps z; cases z)) li
  | div h => exact .div (k _ _ h (by intro ps z; cases z))
theorem Itm.put {C a lh : Addr} {H : Hp} {t : PyData} {xs ys : List V} (h : Itm C H a t) (ne : a ≠ lh) (hl : H lh = some (.lst xs)) : Itm C (upd H lh (.lst ys)) a t := by
  cases h with
  | rat h r ln ld =>
    obtain ⟨dx, e⟩ := r
    exact .rat (by rw [upd_ne ne]; exact h) ⟨dx, by rw [upd_ne (ne_of e hl (by intro z; cases z))]; exact e⟩ ln ld
  | int h li => exact .int (by rw [upd_ne ne]; exact h) li
  | div h => exact .div (by rw [upd_ne ne]; exact h)
inductive Its (C lh : Addr) (H : Hp) : List Addr → List PyData → Prop where
  | nil : Its C lh H [] []
  | cons {a : Addr} {t : PyData} {as : List Addr} {ts : List PyData} (h : Itm C H a t) (ne : a ≠ lh) (r : Its C lh H as ts) : Its C lh H (a :: as) (t :: ts)
theorem Its.ext {C lh : Addr} {H H' : Hp} {as : List Addr} {ts : List PyData} (h : Its C lh H as ts) (k : LamX.ExtN H H') : Its C lh H' as ts := by
  induction h with
  | nil => exact .nil
  | cons h ne _ ih => exact .cons (h.ext k) ne ih
theorem Its.put {C lh : Addr} {H : Hp} {as : List Addr} {ts : List PyData} {xs ys : List V} (h : Its C lh H as ts) (hl : H lh = some (.lst xs)) : Its C lh (upd H lh (.lst ys)) as ts := by
  induction h with
  | nil => exact .nil
  | cons h ne _ ih => exact .cons (h.put ne hl) ne ih
theorem Its.snoc {C lh a : Addr} {H : Hp} {as : List Addr} {ts : List PyData} {t : PyData} (h : Its C lh H as ts) (i : Itm C H a t) (ne : a ≠ lh) : Its C lh H (as ++ [a]) (ts ++ [t]) := by
  induction h with
  | nil => exact .cons i ne .nil
  | cons h ne' _ ih => exact .cons h ne' ih
theorem Its.at {C lh : Addr} {H : Hp} {as : List Addr} {ts : List PyData} (h : Its C lh H as ts) : ∀ {i : Nat} {v : V}, (as.map V.ref)[i]? = some v → ∃ a t, v = .ref a ∧ ts[i]? = some t ∧ Itm C H a t := by
  induction h with
  | nil => intro i v e; simp at e
  | @cons a t as ts h ne _ ih =>
    intro i v e
    cases i with
    | zero => exact ⟨a, t, (Option.some.inj e).symm, rfl, h⟩
    | succ i => exact ih e
structure GivR (C : Addr) (TS : List (Addr × Str)) (H0 : Hp) (lh : Addr) (as : List Addr) (ts : List PyData) (H : Hp) : Prop where
  new : H0 lh = none
  x : LamX.ExtN H0 H
  t : LamX.Tabs TS H
  l : H lh = some (.lst (as.map V.ref))
  w : Its C lh H as ts
theorem Itm.some {C a : Addr} {H : Hp} {t : PyData} (h : Itm C H a t) : ∃ o, H a = some o := by
  cases h with
  | rat h _ _ _ => exact ⟨_, h⟩
  | int h _ => exact ⟨_, h⟩
  | div h => exact ⟨_, h⟩
theorem GivR.first {C : Addr} {TS : List (Addr × Str)} {G : Hp} {lh a : Addr} {d : PyData} (t : LamX.Tabs TS G) (e : Itm C G a d) (hl : G lh = none) : GivR C TS G lh [a] [d] (upd G lh (.lst [.ref a])) := by
  obtain ⟨o, ho⟩ := e.some
  exact ⟨hl, ext_same (same_new hl), t.ext (same_new hl), upd_same, .cons (e.ext (ext_same (same_new hl))) (ne_of_none ho hl) .nil⟩
theorem GivR.at {C : Addr} {TS : List (Addr × Str)} {H0 H G G' : Hp} {lh : Addr} {as : List Addr} {ts : List PyData} (g : GivR C TS H0 lh as ts H) (x : LamX.ExtN H G) (s : Same G G') : G' lh = some (.lst (as.map V.ref)) := s _ _ (x _ _ g.l (by intro ps z; cases z))
theorem GivR.step {C : Addr} {TS : List (Addr × Str)} {H0 H G G' : Hp} {lh a : Addr} {d : PyData} {as : List Addr} {ts : List PyData} (g : GivR C TS H0 lh as ts H) (x : LamX.ExtN H G) (tb : LamX.Tabs TS G) (s : Same G G') (e : Itm C G' a d) (ne : a ≠ lh) :
    GivR C TS H0 lh (as ++ [a]) (ts ++ [d]) (upd G' lh (.lst (as.map V.ref ++ [.ref a]))) := by
  have l := g.at x s
  refine ⟨g.new, ext_put g.new ((g.x.trans x).trans (ext_same s)), tabs_put (tb.ext s) l, ?_, ((g.w.ext (x.trans (ext_same s))).put l).snoc (e.put ne l) ne⟩
  rw [upd_same, List.map_append]
  rfl
theorem dp_snoc {K : PySem.W.Frag} {H : Hp} {v : V} {d : PyData} : ∀ {vs : List V} {ds : List PyData}, DpAll K H vs ds → Dp K H v d → DpAll K H (vs ++ [v]) (ds ++ [d])
  | _, _, .nil, h => .cons h .nil
  | _, _, .cons a b, h => .cons a (dp_snoc b h)
theorem due_shaped (a b c d : Int) : SeqAt.shaped (.list (dueL a b c d)) = true := by
  have ok : ∀ x y, PyData.strOk (lowS x y) = true := fun x y => two_ok _ _
  have e : ∀ z : String, PyData.strOk (Str.ofString z) = true := strOk_of
  unfold dueL
  by_cases c0 : c = 0
  · rw [if_pos c0]
    show ((PyData.strOk _ && (PyData.strOk _ && (PyData.strOk _ && (PyData.canLay0 divD && (PyData.canLay0 divD && true))))) && decide (PyData.depth (.list [.str _, .str _, .str _, divD, divD]) ≤ 64)) = true
    rw [ok, ok, ok, show PyData.canLay0 divD = true by decide +kernel]
    rfl
  · rw [if_neg c0]
    show ((PyData.strOk _ && (PyData.strOk _ && (PyData.strOk _ && (PyData.strOk _ && (PyData.strOk _ && true))))) && decide (PyData.depth (.list [.str _, .str _, .str _, .str _, .str _]) ≤ 64)) = true
    rw [ok, ok, ok, ok, e]
    rfl
/-- beside each other: a number at the left, a number at the right, one of them a Ratio -/
def spRightK (K : PySem.W.Frag) (C : Addr) (TS : List (Addr × Str)) (ok : V → V → Prop) : Sp := fun vs H Q _ => ∃ (p q : Addr) (mv yv : V) (a b c d : Int), vs = [.ref p, .ref q, mv, yv] ∧ ok mv yv ∧ H p = some (.tup [.int a, .int b]) ∧ H q = some (.tup [.int c, .int d]) ∧ Wd a ∧ Wd b ∧ Wd c ∧ Wd d ∧ b ≠ 0 ∧ d ≠ 0 ∧
  NumAt C H mv (lowT a b) (lowB a b) ∧ NumAt C H yv (lowT c d) (lowB c d) ∧ LamX.Tabs TS H ∧ ∀ H', LamX.ExtN H H' → LamX.Tabs TS H' → Q (.bl true) H'
def okA (mv yv : V) : Prop := ∃ p, mv = .ref p
def okB (mv yv : V) : Prop := ∃ i q, mv = .int i ∧ yv = .ref q
section
variable {P : Program} {w : World} {K : PySem.W.Frag} {mg : Str → Option Value} {base : Heap} {CE C CB fB CN : Addr}
theorem ok_mod {f : Addr} {fd : FuncData} (h1 : FnOk P w K mg base (L2.CX P w) 7 f fd ["self", "other"] (spModR C CN)) (h2 : FnOk P w K mg base (L2.CX P w) 7 f fd ["self", "other"] (spModI C CN)) : FnOk P w K mg base (L2.CX P w) 7 f fd ["self", "other"] (spMod C CN) := by
  have to : ∀ vs H Q E, spMod C CN vs H Q E → spModR C CN vs H Q E ∨ spModI C CN vs H Q E := fun vs H Q E h => by
    obtain ⟨p, a, b, v, c, d, e, hp, b0, hv, r⟩ := id h
    rcases hv with ⟨q, eq, _⟩ | ⟨eq, _⟩
    · exact .inl ⟨⟨p, q, by rw [e, eq]⟩, h⟩
    · exact .inr ⟨⟨p, c, by rw [e, eq]⟩, h⟩
  refine ⟨fun vs H Q E h => ?_, fun A outer s H args us vs Q E hr e0 hb r h => ?_⟩
  · rcases to _ _ _ _ h with h | h
    · exact h1.len _ _ _ _ h
    · exact h2.len _ _ _ _ h
  · rcases to _ _ _ _ h with h | h
    · exact h1.run A outer s H args us vs Q E hr e0 hb r h
    · exact h2.run A outer s H args us vs Q E hr e0 hb r h
theorem ok_rightA {f c0 tb : Addr} {fd : FuncData} {TS : List (Addr × Str)} (F : FunC K "_law_right" "_law_right" s_rightR f fd c0) (T : RTx P K mg C CB fB CN) (TH : HTx P K mg CE CN) (DH : HeardAt K mg)
    (TB : LamX.TabB base mg c0 tb) (hmT : (tb, (("_law_right" : Str) ++ ".<locals>.") ++ "<lambda>") ∈ TS) (hu : ∀ p ∈ TS, p.1 = tb → p.2 = (("_law_right" : Str) ++ ".<locals>.") ++ "<lambda>")
    (D_shown : DefG P w K mg base CX0 2 "_law_shown" ["_law_heard_here"] (spShown C)) (D_due : DefG P w K mg base CX0 2 "_law_due" ["_law_one", "_law_other"] (spDue K))
    (O_add : CmpAt P w K mg base CX0 5 C "__add__" ["self", "other"] (spBin C fAdd)) (O_sub : CmpAt P w K mg base CX0 5 C "__sub__" ["self", "other"] (spBin C fSub)) (O_mul : CmpAt P w K mg base CX0 5 C "__mul__" ["self", "other"] (spBin C fMul)) (O_fdv : CmpAt P w K mg base (L2.CX P w) 3 C "__floordiv__" ["self", "other"] (spFdv C CN)) (O_mod : CmpAt P w K mg base (L2.CX P w) 7 C "__mod__" ["self", "other"] (spMod C CN)) (B_add : BinF K C (Operator.info .Add).2) (B_sub : BinF K C (Operator.info .Sub).2) (B_mul : BinF K C (Operator.info .Mult).2) (B_fdv : BinF K C (Operator.info .FloorDiv).2) (B_mod : BinF K C (Operator.info .Mod).2) :
    FnG P w K mg base CX0 12 f fd ["_law_one", "_law_other", "_law_mine", "_law_yours"] (spRightK K C TS okA) := by
  refine okGc F sc_rightR (fun vs H Q E h => ?_) (fun A outer s H vs Q E hgd hr h => ?_)
  · obtain ⟨p, q, mv, yv, a, b, c, d, rfl, _⟩ := h
    rfl
  · obtain ⟨p1, p2, mv, yv, a, b, c, d, rfl, ok, hp1, hp2, wa, wb, wc, wd, b0, d0, hm, hy, ht, k⟩ := h
    refine ⟨_, (pss_cons (ps_set (i := 4) sc_rightR.nd rfl (Or.inl rfl) (pe_lst (pa_cons (My.pe_heard (k := 8) DH TH hgd (hr.mono (by decide)) TB rfl hmT hu (by rfl) (LamX.lamS_by (by show LamX.lamSB (defScope s_rightR) _ = true; decide +kernel)) rfl (fun _ _ _ _ _ => rfl) (fun A outer s H E f c hrl => (pe_op (My.op_binO O_add B_add (hrl.mono (by decide)) pass0) (pv 2) (pv 3)))) pa_nil)))
      (pss_cons (ps_expr (pe_bm PySem.F.plainAttrs_list PySem.F.slot_list_append PySem.F.type_list_append mt_append (pv 4) (pa_cons (My.pe_heard (k := 8) DH TH hgd (hr.mono (by decide)) TB rfl hmT hu (by rfl) (LamX.lamS_by (by show LamX.lamSB (defScope s_rightR) _ = true; decide +kernel)) rfl (fun _ _ _ _ _ => rfl) (fun A outer s H E f c hrl => (pe_op (My.op_binO O_sub B_sub (hrl.mono (by decide)) pass0) (pv 2) (pv 3)))) pa_nil)))
      (pss_cons (ps_expr (pe_bm PySem.F.plainAttrs_list PySem.F.slot_list_append PySem.F.type_list_append mt_append (pv 4) (pa_cons (My.pe_heard (k := 8) DH TH hgd (hr.mono (by decide)) TB rfl hmT hu (by rfl) (LamX.lamS_by (by show LamX.lamSB (defScope s_rightR) _ = true; decide +kernel)) rfl (fun _ _ _ _ _ => rfl) (fun A outer s H E f c hrl => (pe_op (My.op_binO O_mul B_mul (hrl.mono (by decide)) pass0) (pv 2) (pv 3)))) pa_nil)))
      (pss_cons (ps_expr (pe_bm PySem.F.plainAttrs_list PySem.F.slot_list_append PySem.F.type_list_append mt_append (pv 4) (pa_cons (My.pe_heard (k := 8) DH TH hgd (hr.mono (by decide)) TB rfl hmT hu (by rfl) (LamX.lamS_by (by show LamX.lamSB (defScope s_rightR) _ = true; decide +kernel)) rfl (fun _ _ _ _ _ => rfl) (fun A outer s H E f c hrl => (pe_op (My.op_binO O_fdv B_fdv (hrl.mono (by decide)) (passes_call (takes_of rfl rfl rfl rfl) (fun _ _ _ _ h => h))) (pv 2) (pv 3)))) pa_nil)))
      (pss_cons (ps_expr (pe_bm PySem.F.plainAttrs_list PySem.F.slot_list_append PySem.F.type_list_append mt_append (pv 4) (pa_cons (My.pe_heard (k := 8) DH TH hgd (hr.mono (by decide)) TB rfl hmT hu (by rfl) (LamX.lamS_by (by show LamX.lamSB (defScope s_rightR) _ = true; decide +kernel)) rfl (fun _ _ _ _ _ => rfl) (fun A outer s H E f c hrl => (pe_op (My.op_binO O_mod B_mod (hrl.mono (by decide)) (passes_call (takes_of rfl rfl rfl rfl) (fun _ _ _ _ h => h))) (pv 2) (pv 3)))) pa_nil)))
      (pss_one (ps_ret (pe_cmpR (op_eqD hr.units) (pe_lc (own := [("_law_heard_here", 5)]) rfl sc_rightR.nd (pi_list (pv 4)) (blkOk_by (by show blkC ["_law_one", "_law_other", "_law_mine", "_law_yours", "_law_given", "_law_heard_here"] (defScope s_rightR) _ _ = true; decide +kernel)) (fun _ _ _ _ _ => (pg_name (i := 5) sc_rightR.nd rfl (Or.inl rfl))) (fun _ _ _ _ _ => pts_nil) (fun _ _ _ _ _ => (My.pe_dG D_shown hgd (hr.mono (by decide)) (by rfl) pass0 (pa_cons (pv 5) pa_nil)))) (My.pe_dG D_due hgd (hr.mono (by decide)) (by rfl) pass0 (pa_cons (pv 0) (pa_cons (pv 1) pa_nil))) (nomark _))))))))), ?_⟩
    have pr := pr_of (a := a) (c := c) b0 d0
    have tA := Nat.lt_of_le_of_lt (lowT_abs (t := a) b0) wa.abs
    have tB := Nat.lt_of_le_of_lt (lowB_abs (t := a) b0) wb.abs
    have tC := Nat.lt_of_le_of_lt (lowT_abs (t := c) d0) wc.abs
    have tD := Nat.lt_of_le_of_lt (lowB_abs (t := c) d0) wd.abs
    have B0 := lowB_pos (t := a) b0
    have D0 := lowB_pos (t := c) d0
    have gA := low_cop (t := a) b0
    have gC := low_cop (t := c) d0
    have wA : B1 (lowT a b) := bd_le tA (by decide)
    have wB : B1 (lowB a b) := bd_le tB (by decide)
    have wC : B1 (lowT c d) := bd_le tC (by decide)
    have wD : B1 (lowB c d) := bd_le tD (by decide)
    generalize lowT a b = xA at *
    generalize lowB a b = xB at *
    generalize lowT c d = xC at *
    generalize lowB c d = xD at *
    have bdn : b * d ≠ 0 := Int.mul_ne_zero b0 d0
    have bbd : (b * d).natAbs < 2 ^ 1500 := bd_le (bd_mul wb.abs wd.abs) (by decide)
    have had := bd_mul wa.abs wd.abs
    have hcb := bd_mul wc.abs wb.abs
    have hac := bd_mul wa.abs wc.abs
    have lgB : ∀ t : Int, (lowB t (b * d)).natAbs.log2 < 1920 := fun t => log_of (Nat.lt_of_le_of_lt (lowB_abs bdn) bbd)
    have lgT : ∀ t : Int, t.natAbs < 2 ^ 1500 → (lowT t (b * d)).natAbs.log2 < 1920 := fun t z => log_of (Nat.lt_of_le_of_lt (lowT_abs bdn) z)
    obtain ⟨pm, rfl⟩ := ok
    rcases hm with ⟨pm', em, hm⟩ | ⟨em, _⟩
    case inr => cases em
    cases em
    refine ⟨ht, fun G1 x1 tb1 => ?_⟩
    have y1 := x1
    obtain ⟨dm, em⟩ := id (hm.ext y1)
    refine ⟨_, rfl, _, rfl, pm, dm, _, rfl, em, (hy.ext y1).orInt, pm, xA, xB, yv, xC, xD, rfl, hm.ext y1, B0, hy.ext y1, D0, wA.b2, wB.b2, wC.b2, wD.b2, fun q1 Hq r sq => ⟨(by show 1 ≤ sizeLine; decide), fun l hl => ?_⟩⟩
    rw [show fAdd xA xB xC xD = xA * xD + xC * xB from rfl, pr.add.1, pr.add.2] at r
    have it : Itm C (upd Hq l (.lst [.ref q1])) l (.str (lowS (a * d + c * b) (b * d))) := .rat upd_same (r.same (same_new hl)) (lgT _ (bd_le (bd_add had hcb) (by decide))) (lgB _)
    have sq1 := sq.trans (same_new (o := .lst [.ref q1]) hl)
    refine ⟨(by show 1 ≤ sizeLine; decide), fun lh hlh => ?_⟩
    have xA1 := x1.trans (ext_same sq1)
    have g1 := GivR.first (tb1.ext sq1) it hlh
    generalize (upd (upd Hq l (.lst [.ref q1])) lh (.lst [.ref l])) = H1 at g1
    clear it sq em
    refine ⟨_, rfl, .inl ⟨rfl, _, SqL.of g1.l⟩, g1.t, fun G2 x2 tb2 => ?_⟩
    have y2 := (xA1.trans g1.x).trans x2
    obtain ⟨dm, em⟩ := id (hm.ext y2)
    refine ⟨_, rfl, _, rfl, pm, dm, _, rfl, em, (hy.ext y2).orInt, pm, xA, xB, yv, xC, xD, rfl, hm.ext y2, B0, hy.ext y2, D0, wA.b2, wB.b2, wC.b2, wD.b2, fun q2 Hq r sq => ⟨(by show 1 ≤ sizeLine; decide), fun l hl => ?_⟩⟩
    rw [show fSub xA xB xC xD = xA * xD - xC * xB from rfl, pr.sub.1, pr.sub.2] at r
    have it : Itm C (upd Hq l (.lst [.ref q2])) l (.str (lowS (a * d - c * b) (b * d))) := .rat upd_same (r.same (same_new hl)) (lgT _ (bd_le (bd_sub had hcb) (by decide))) (lgB _)
    have sq2 := sq.trans (same_new (o := .lst [.ref q2]) hl)
    refine ⟨lh, _, _, rfl, rfl, g1.at x2 sq2, (by show 1 < sizeLine; decide), ?_⟩
    have g2 := g1.step x2 tb2 sq2 it (Ne.symm (ne_of_none (g1.at x2 sq) hl))
    generalize (upd (upd Hq l (.lst [.ref q2])) lh _) = H2 at g2
    clear it sq em
    refine ⟨_, rfl, .inl ⟨rfl, _, SqL.of g2.l⟩, g2.t, fun G3 x3 tb3 => ?_⟩
    have y3 := (xA1.trans g2.x).trans x3
    obtain ⟨dm, em⟩ := id (hm.ext y3)
    refine ⟨_, rfl, _, rfl, pm, dm, _, rfl, em, (hy.ext y3).orInt, pm, xA, xB, yv, xC, xD, rfl, hm.ext y3, B0, hy.ext y3, D0, wA.b2, wB.b2, wC.b2, wD.b2, fun q3 Hq r sq => ⟨(by show 1 ≤ sizeLine; decide), fun l hl => ?_⟩⟩
    rw [show fMul xA xB xC xD = xA * xC from rfl, pr.mul.1, pr.mul.2] at r
    have it : Itm C (upd Hq l (.lst [.ref q3])) l (.str (lowS (a * c) (b * d))) := .rat upd_same (r.same (same_new hl)) (lgT _ (bd_le hac (by decide))) (lgB _)
    have sq3 := sq.trans (same_new (o := .lst [.ref q3]) hl)
    refine ⟨lh, _, _, rfl, rfl, g2.at x3 sq3, (by show 2 < sizeLine; decide), ?_⟩
    have g3 := g2.step x3 tb3 sq3 it (Ne.symm (ne_of_none (g2.at x3 sq) hl))
    generalize (upd (upd Hq l (.lst [.ref q3])) lh _) = H3 at g3
    clear it sq em
    by_cases c0 : c = 0
    · refine ⟨_, rfl, .inl ⟨rfl, _, SqL.of g3.l⟩, g3.t, fun G4 x4 tb4 => ?_⟩
      have y4 := (xA1.trans g3.x).trans x4
      obtain ⟨dm, em⟩ := id (hm.ext y4)
      refine ⟨_, rfl, _, rfl, pm, dm, _, rfl, em, (hy.ext y4).orInt, pm, xA, xB, yv, xC, xD, rfl, hm.ext y4, B0, hy.ext y4, D0, wA.b2, wB.b2, wC.b2, wD.b2, fun z => absurd (pr.zero.mpr c0) z, fun z Hq sq => .inl ⟨rfl, fun l hl => ?_⟩⟩
      have it : Itm C (upd Hq l (.tup [.str "divisor"])) l divD := .div upd_same
      have sq4 := sq.trans (same_new (o := .tup [.str "divisor"]) hl)
      refine ⟨lh, _, _, rfl, rfl, g3.at x4 sq4, (by show 3 < sizeLine; decide), ?_⟩
      have g4 := g3.step x4 tb4 sq4 it (Ne.symm (ne_of_none (g3.at x4 sq) hl))
      generalize (upd (upd Hq l (.tup [.str "divisor"])) lh _) = H4 at g4
      clear it sq em
      refine ⟨_, rfl, .inl ⟨rfl, _, SqL.of g4.l⟩, g4.t, fun G5 x5 tb5 => ?_⟩
      have y5 := (xA1.trans g4.x).trans x5
      obtain ⟨dm, em⟩ := id (hm.ext y5)
      refine ⟨_, rfl, _, rfl, pm, dm, _, rfl, em, (hy.ext y5).orInt, pm, xA, xB, yv, xC, xD, rfl, hm.ext y5, B0, hy.ext y5, D0, wA, wB, wC, wD, fun z => absurd (pr.zero.mpr c0) z, fun z Hq sq => .inl ⟨rfl, fun l hl => ?_⟩⟩
      have it : Itm C (upd Hq l (.tup [.str "divisor"])) l divD := .div upd_same
      have sq5 := sq.trans (same_new (o := .tup [.str "divisor"]) hl)
      refine ⟨lh, _, _, rfl, rfl, g4.at x5 sq5, (by show 4 < sizeLine; decide), ?_⟩
      have g5 := g4.step x5 tb5 sq5 it (Ne.symm (ne_of_none (g4.at x5 sq) hl))
      generalize (upd (upd Hq l (.tup [.str "divisor"])) lh _) = H5 at g5
      clear it sq em
      have e5 : [.str (lowS (a * d + c * b) (b * d)), .str (lowS (a * d - c * b) (b * d)), .str (lowS (a * c) (b * d)), divD, divD] = dueL a b c d := by
        unfold dueL
        rw [if_pos c0]
        rfl
      have w5 := g5.w
      replace w5 : Its C lh H5 _ [.str (lowS (a * d + c * b) (b * d)), .str (lowS (a * d - c * b) (b * d)), .str (lowS (a * c) (b * d)), divD, divD] := w5
      rw [e5] at w5
      have L5 := g5.l
      have X5 := xA1.trans g5.x
      have T5 := g5.t
      have n5 : ∀ b' o, H b' = some o → (∀ ps, o ≠ .tbl ps) → H5 b' = some o := X5
      refine ⟨_, rfl, lh, rfl, ⟨_, SqL.of L5⟩, fun D1 hD1 => ?_⟩
      refine lc_list (K := K) (a := lh) (xs := _) (fun i Hh => ∃ vs, Hh D1 = some (.lst vs) ∧ vs.length = i ∧ DpAll K H5 vs ((dueL a b c d).take i) ∧ Same H5 Hh) ⟨[], upd_same, rfl, .nil, same_new hD1⟩ (fun i Hh _ hh => by obtain ⟨_, _, _, _, s⟩ := hh; exact SqL.of (s _ _ L5)) ?_ ?_
      · rintro i v Hh hi ⟨vs, c1, c2, c3, c4⟩
        obtain ⟨ai, ti, rfl, hti, im⟩ := w5.at hi
        have i5 : i < 5 := (List.getElem?_eq_some_iff.mp hi).1
        have fin : ∀ (u : V) (Hz : Hp), Dp K H5 u ti → Same Hh Hz → ∃ acc, Hz D1 = some (.lst acc) ∧ acc.length < sizeLine ∧ ∃ vs, (upd Hz D1 (.lst (acc ++ [u]))) D1 = some (.lst vs) ∧ vs.length = i + 1 ∧ DpAll K H5 vs ((dueL a b c d).take (i + 1)) ∧ Same H5 (upd Hz D1 (.lst (acc ++ [u]))) := fun u Hz du sz => by
          refine ⟨vs, sz _ _ c1, by rw [c2, sizeLine_eq]; omega, vs ++ [u], upd_same, by rw [List.length_append, c2]; rfl, ?_, fun b' o e => ?_⟩
          · rw [take1 hti]
            exact dp_snoc c3 du
          · rw [upd_ne (ne_of_none e hD1)]
            exact sz _ _ (c4 _ _ e)
        have im' := im.ext (ext_same c4)
        refine ⟨rfl, yes_go ⟨_, rfl, ai, rfl, ?_⟩⟩
        cases im' with
        | rat h r ln ld => exact .inr (.inl ⟨_, _, _, h, r, ln, ld, fun Hz sz => fin _ Hz (.str _) sz⟩)
        | int h li => exact .inr (.inr ⟨_, h, li, fin _ Hh (.str _) fun _ _ e => e⟩)
        | div h =>
          refine .inl ⟨_, h, fin _ Hh ?_ fun _ _ e => e⟩
          cases im with
          | div h0 => exact .tup (SqT.of h0) (.cons (.str _) .nil)
      rintro H6 ⟨vs, c1, c2, c3, c4⟩
      have e6 : (dueL a b c d).take 5 = dueL a b c d := by rw [← e5]; rfl
      have c3' : DpAll K H5 vs (dueL a b c d) := e6 ▸ c3
      refine ⟨_, rfl, _, rfl, p1, p2, a, b, c, d, rfl, c4 _ _ (n5 _ _ hp1 (by intro ps z; cases z)), c4 _ _ (n5 _ _ hp2 (by intro ps z; cases z)), wa, wb, wc, wd, b0, d0, fun l7 H7 d7 s7 => ?_⟩
      have s57 := c4.trans s7
      refine ⟨.list (dueL a b c d), .list (dueL a b c d), .lst (SqL.of (s7 _ _ c1)) (dp_sameAll s57 _ _ c3'), d7, due_shaped _ _ _ _, due_shaped _ _ _ _, ?_⟩
      rw [SeqAt.eqv_refl _ (SeqAt.canLay_of_shaped (due_shaped a b c d))]
      exact k _ (X5.trans (ext_same s57)) (T5.ext s57)
    · have bmod : (a * d - (a * d).fdiv (b * c) * c * b).natAbs < 2 ^ 1500 := bd_le (bd_sub (bd_le had (by decide : 200 + 200 ≤ 801)) (bd_mul (bd_mul (fdiv_bd had (Int.mul_ne_zero b0 c0)) wc.abs) wb.abs)) (by decide)
      refine ⟨_, rfl, .inl ⟨rfl, _, SqL.of g3.l⟩, g3.t, fun G4 x4 tb4 => ?_⟩
      have y4 := (xA1.trans g3.x).trans x4
      obtain ⟨dm, em⟩ := id (hm.ext y4)
      refine ⟨_, rfl, _, rfl, pm, dm, _, rfl, em, (hy.ext y4).orInt, pm, xA, xB, yv, xC, xD, rfl, hm.ext y4, B0, hy.ext y4, D0, wA.b2, wB.b2, wC.b2, wD.b2, fun z Hq sq => ⟨(by show 1 ≤ sizeLine; decide), fun l hl => ?_⟩, fun z => absurd (pr.zero.mp z) c0⟩
      have es : ((toString ((xA * xD).fdiv (xB * xC)) : String) : Str) = ((toString ((a * d).fdiv (b * c)) : String) : Str) := by rw [pr.floor c0]
      have it : Itm C (upd Hq l (.lst [.int ((xA * xD).fdiv (xB * xC))])) l (.str ((toString ((a * d).fdiv (b * c)) : String) : Str)) := by
        rw [← es]
        exact .int upd_same (by rw [pr.floor c0]; exact log_of (fdiv_bd had (Int.mul_ne_zero b0 c0)))
      have sq4 := sq.trans (same_new (o := .lst [.int ((xA * xD).fdiv (xB * xC))]) hl)
      refine ⟨lh, _, _, rfl, rfl, g3.at x4 sq4, (by show 3 < sizeLine; decide), ?_⟩
      have g4 := g3.step x4 tb4 sq4 it (Ne.symm (ne_of_none (g3.at x4 sq) hl))
      generalize (upd (upd Hq l (.lst [.int ((xA * xD).fdiv (xB * xC))])) lh _) = H4 at g4
      clear it sq em
      refine ⟨_, rfl, .inl ⟨rfl, _, SqL.of g4.l⟩, g4.t, fun G5 x5 tb5 => ?_⟩
      have y5 := (xA1.trans g4.x).trans x5
      obtain ⟨dm, em⟩ := id (hm.ext y5)
      refine ⟨_, rfl, _, rfl, pm, dm, _, rfl, em, (hy.ext y5).orInt, pm, xA, xB, yv, xC, xD, rfl, hm.ext y5, B0, hy.ext y5, D0, wA, wB, wC, wD, fun z q5 Hq r sq => ⟨(by show 1 ≤ sizeLine; decide), fun l hl => ?_⟩, fun z => absurd (pr.zero.mp z) c0⟩
      rw [pr.floor c0, (pr.mod _).1, (pr.mod _).2] at r
      have it : Itm C (upd Hq l (.lst [.ref q5])) l (.str (lowS (a * d - (a * d).fdiv (b * c) * c * b) (b * d))) := .rat upd_same (r.same (same_new hl)) (lgT _ (bmod)) (lgB _)
      have sq5 := sq.trans (same_new (o := .lst [.ref q5]) hl)
      refine ⟨lh, _, _, rfl, rfl, g4.at x5 sq5, (by show 4 < sizeLine; decide), ?_⟩
      have g5 := g4.step x5 tb5 sq5 it (Ne.symm (ne_of_none (g4.at x5 sq) hl))
      generalize (upd (upd Hq l (.lst [.ref q5])) lh _) = H5 at g5
      clear it sq em
      have e5 : [.str (lowS (a * d + c * b) (b * d)), .str (lowS (a * d - c * b) (b * d)), .str (lowS (a * c) (b * d)), .str ((toString ((a * d).fdiv (b * c)) : String) : Str), .str (lowS (a * d - (a * d).fdiv (b * c) * c * b) (b * d))] = dueL a b c d := by
        unfold dueL
        rw [if_neg c0]
        rfl
      have w5 := g5.w
      replace w5 : Its C lh H5 _ [.str (lowS (a * d + c * b) (b * d)), .str (lowS (a * d - c * b) (b * d)), .str (lowS (a * c) (b * d)), .str ((toString ((a * d).fdiv (b * c)) : String) : Str), .str (lowS (a * d - (a * d).fdiv (b * c) * c * b) (b * d))] := w5
      rw [e5] at w5
      have L5 := g5.l
      have X5 := xA1.trans g5.x
      have T5 := g5.t
      have n5 : ∀ b' o, H b' = some o → (∀ ps, o ≠ .tbl ps) → H5 b' = some o := X5
      refine ⟨_, rfl, lh, rfl, ⟨_, SqL.of L5⟩, fun D1 hD1 => ?_⟩
      refine lc_list (K := K) (a := lh) (xs := _) (fun i Hh => ∃ vs, Hh D1 = some (.lst vs) ∧ vs.length = i ∧ DpAll K H5 vs ((dueL a b c d).take i) ∧ Same H5 Hh) ⟨[], upd_same, rfl, .nil, same_new hD1⟩ (fun i Hh _ hh => by obtain ⟨_, _, _, _, s⟩ := hh; exact SqL.of (s _ _ L5)) ?_ ?_
      · rintro i v Hh hi ⟨vs, c1, c2, c3, c4⟩
        obtain ⟨ai, ti, rfl, hti, im⟩ := w5.at hi
        have i5 : i < 5 := (List.getElem?_eq_some_iff.mp hi).1
        have fin : ∀ (u : V) (Hz : Hp), Dp K H5 u ti → Same Hh Hz → ∃ acc, Hz D1 = some (.lst acc) ∧ acc.length < sizeLine ∧ ∃ vs, (upd Hz D1 (.lst (acc ++ [u]))) D1 = some (.lst vs) ∧ vs.length = i + 1 ∧ DpAll K H5 vs ((dueL a b c d).take (i + 1)) ∧ Same H5 (upd Hz D1 (.lst (acc ++ [u]))) := fun u Hz du sz => by
          refine ⟨vs, sz _ _ c1, by rw [c2, sizeLine_eq]; omega, vs ++ [u], upd_same, by rw [List.length_append, c2]; rfl, ?_, fun b' o e => ?_⟩
          · rw [take1 hti]
            exact dp_snoc c3 du
          · rw [upd_ne (ne_of_none e hD1)]
            exact sz _ _ (c4 _ _ e)
        have im' := im.ext (ext_same c4)
        refine ⟨rfl, yes_go ⟨_, rfl, ai, rfl, ?_⟩⟩
        cases im' with
        | rat h r ln ld => exact .inr (.inl ⟨_, _, _, h, r, ln, ld, fun Hz sz => fin _ Hz (.str _) sz⟩)
        | int h li => exact .inr (.inr ⟨_, h, li, fin _ Hh (.str _) fun _ _ e => e⟩)
        | div h =>
          refine .inl ⟨_, h, fin _ Hh ?_ fun _ _ e => e⟩
          cases im with
          | div h0 => exact .tup (SqT.of h0) (.cons (.str _) .nil)
      rintro H6 ⟨vs, c1, c2, c3, c4⟩
      have e6 : (dueL a b c d).take 5 = dueL a b c d := by rw [← e5]; rfl
      have c3' : DpAll K H5 vs (dueL a b c d) := e6 ▸ c3
      refine ⟨_, rfl, _, rfl, p1, p2, a, b, c, d, rfl, c4 _ _ (n5 _ _ hp1 (by intro ps z; cases z)), c4 _ _ (n5 _ _ hp2 (by intro ps z; cases z)), wa, wb, wc, wd, b0, d0, fun l7 H7 d7 s7 => ?_⟩
      have s57 := c4.trans s7
      refine ⟨.list (dueL a b c d), .list (dueL a b c d), .lst (SqL.of (s7 _ _ c1)) (dp_sameAll s57 _ _ c3'), d7, due_shaped _ _ _ _, due_shaped _ _ _ _, ?_⟩
      rw [SeqAt.eqv_refl _ (SeqAt.canLay_of_shaped (due_shaped a b c d))]
      exact k _ (X5.trans (ext_same s57)) (T5.ext s57)
theorem ok_rightB {f c0 tb : Addr} {fd : FuncData} {TS : List (Addr × Str)} (F : FunC K "_law_right" "_law_right" s_rightR f fd c0) (T : RTx P K mg C CB fB CN) (TH : HTx P K mg CE CN) (DH : HeardAt K mg)
    (TB : LamX.TabB base mg c0 tb) (hmT : (tb, (("_law_right" : Str) ++ ".<locals>.") ++ "<lambda>") ∈ TS) (hu : ∀ p ∈ TS, p.1 = tb → p.2 = (("_law_right" : Str) ++ ".<locals>.") ++ "<lambda>")
    (D_shown : DefG P w K mg base CX0 2 "_law_shown" ["_law_heard_here"] (spShown C)) (D_due : DefG P w K mg base CX0 2 "_law_due" ["_law_one", "_law_other"] (spDue K))
    (O_radd : CmpAt P w K mg base CX0 6 C "__radd__" ["self", "other"] (spBin C fAdd)) (O_rsub : CmpAt P w K mg base CX0 6 C "__rsub__" ["self", "other"] (spRsub C)) (O_rmul : CmpAt P w K mg base CX0 6 C "__rmul__" ["self", "other"] (spBin C fMul)) (O_rfdv : CmpAt P w K mg base (L2.CX P w) 3 C "__rfloordiv__" ["self", "other"] (spRfdv C CN)) (O_rmod : CmpAt P w K mg base (L2.CX P w) 7 C "__rmod__" ["self", "other"] (spRmod C CN)) (R_add : RefF K C (Operator.info .Add).2) (R_sub : RefF K C (Operator.info .Sub).2) (R_mul : RefF K C (Operator.info .Mult).2) (R_fdv : RefF K C (Operator.info .FloorDiv).2) (R_mod : RefF K C (Operator.info .Mod).2) :
    FnG P w K mg base CX0 12 f fd ["_law_one", "_law_other", "_law_mine", "_law_yours"] (spRightK K C TS okB) := by
  refine okGc F sc_rightR (fun vs H Q E h => ?_) (fun A outer s H vs Q E hgd hr h => ?_)
  · obtain ⟨p, q, mv, yv, a, b, c, d, rfl, _⟩ := h
    rfl
  · obtain ⟨p1, p2, mv, yv, a, b, c, d, rfl, ok, hp1, hp2, wa, wb, wc, wd, b0, d0, hm, hy, ht, k⟩ := h
    refine ⟨_, (pss_cons (ps_set (i := 4) sc_rightR.nd rfl (Or.inl rfl) (pe_lst (pa_cons (My.pe_heard (k := 8) DH TH hgd (hr.mono (by decide)) TB rfl hmT hu (by rfl) (LamX.lamS_by (by show LamX.lamSB (defScope s_rightR) _ = true; decide +kernel)) rfl (fun _ _ _ _ _ => rfl) (fun A outer s H E f c hrl => (pe_op (My.op_binR O_radd My.is_add R_add (hrl.mono (by decide)) pass0) (pv 2) (pv 3)))) pa_nil)))
      (pss_cons (ps_expr (pe_bm PySem.F.plainAttrs_list PySem.F.slot_list_append PySem.F.type_list_append mt_append (pv 4) (pa_cons (My.pe_heard (k := 8) DH TH hgd (hr.mono (by decide)) TB rfl hmT hu (by rfl) (LamX.lamS_by (by show LamX.lamSB (defScope s_rightR) _ = true; decide +kernel)) rfl (fun _ _ _ _ _ => rfl) (fun A outer s H E f c hrl => (pe_op (My.op_binR O_rsub My.is_sub R_sub (hrl.mono (by decide)) pass0) (pv 2) (pv 3)))) pa_nil)))
      (pss_cons (ps_expr (pe_bm PySem.F.plainAttrs_list PySem.F.slot_list_append PySem.F.type_list_append mt_append (pv 4) (pa_cons (My.pe_heard (k := 8) DH TH hgd (hr.mono (by decide)) TB rfl hmT hu (by rfl) (LamX.lamS_by (by show LamX.lamSB (defScope s_rightR) _ = true; decide +kernel)) rfl (fun _ _ _ _ _ => rfl) (fun A outer s H E f c hrl => (pe_op (My.op_binR O_rmul My.is_mul R_mul (hrl.mono (by decide)) pass0) (pv 2) (pv 3)))) pa_nil)))
      (pss_cons (ps_expr (pe_bm PySem.F.plainAttrs_list PySem.F.slot_list_append PySem.F.type_list_append mt_append (pv 4) (pa_cons (My.pe_heard (k := 8) DH TH hgd (hr.mono (by decide)) TB rfl hmT hu (by rfl) (LamX.lamS_by (by show LamX.lamSB (defScope s_rightR) _ = true; decide +kernel)) rfl (fun _ _ _ _ _ => rfl) (fun A outer s H E f c hrl => (pe_op (My.op_binR O_rfdv My.is_fdv R_fdv (hrl.mono (by decide)) (passes_call (takes_of rfl rfl rfl rfl) (fun _ _ _ _ h => h))) (pv 2) (pv 3)))) pa_nil)))
      (pss_cons (ps_expr (pe_bm PySem.F.plainAttrs_list PySem.F.slot_list_append PySem.F.type_list_append mt_append (pv 4) (pa_cons (My.pe_heard (k := 8) DH TH hgd (hr.mono (by decide)) TB rfl hmT hu (by rfl) (LamX.lamS_by (by show LamX.lamSB (defScope s_rightR) _ = true; decide +kernel)) rfl (fun _ _ _ _ _ => rfl) (fun A outer s H E f c hrl => (pe_op (My.op_binR O_rmod My.is_mod R_mod (hrl.mono (by decide)) (passes_call (takes_of rfl rfl rfl rfl) (fun _ _ _ _ h => h))) (pv 2) (pv 3)))) pa_nil)))
      (pss_one (ps_ret (pe_cmpR (op_eqD hr.units) (pe_lc (own := [("_law_heard_here", 5)]) rfl sc_rightR.nd (pi_list (pv 4)) (blkOk_by (by show blkC ["_law_one", "_law_other", "_law_mine", "_law_yours", "_law_given", "_law_heard_here"] (defScope s_rightR) _ _ = true; decide +kernel)) (fun _ _ _ _ _ => (pg_name (i := 5) sc_rightR.nd rfl (Or.inl rfl))) (fun _ _ _ _ _ => pts_nil) (fun _ _ _ _ _ => (My.pe_dG D_shown hgd (hr.mono (by decide)) (by rfl) pass0 (pa_cons (pv 5) pa_nil)))) (My.pe_dG D_due hgd (hr.mono (by decide)) (by rfl) pass0 (pa_cons (pv 0) (pa_cons (pv 1) pa_nil))) (nomark _))))))))), ?_⟩
    have pr := pr_of (a := a) (c := c) b0 d0
    have tA := Nat.lt_of_le_of_lt (lowT_abs (t := a) b0) wa.abs
    have tB := Nat.lt_of_le_of_lt (lowB_abs (t := a) b0) wb.abs
    have tC := Nat.lt_of_le_of_lt (lowT_abs (t := c) d0) wc.abs
    have tD := Nat.lt_of_le_of_lt (lowB_abs (t := c) d0) wd.abs
    have B0 := lowB_pos (t := a) b0
    have D0 := lowB_pos (t := c) d0
    have gA := low_cop (t := a) b0
    have gC := low_cop (t := c) d0
    have wA : B1 (lowT a b) := bd_le tA (by decide)
    have wB : B1 (lowB a b) := bd_le tB (by decide)
    have wC : B1 (lowT c d) := bd_le tC (by decide)
    have wD : B1 (lowB c d) := bd_le tD (by decide)
    generalize lowT a b = xA at *
    generalize lowB a b = xB at *
    generalize lowT c d = xC at *
    generalize lowB c d = xD at *
    have bdn : b * d ≠ 0 := Int.mul_ne_zero b0 d0
    have bbd : (b * d).natAbs < 2 ^ 1500 := bd_le (bd_mul wb.abs wd.abs) (by decide)
    have had := bd_mul wa.abs wd.abs
    have hcb := bd_mul wc.abs wb.abs
    have hac := bd_mul wa.abs wc.abs
    have lgB : ∀ t : Int, (lowB t (b * d)).natAbs.log2 < 1920 := fun t => log_of (Nat.lt_of_le_of_lt (lowB_abs bdn) bbd)
    have lgT : ∀ t : Int, t.natAbs < 2 ^ 1500 → (lowT t (b * d)).natAbs.log2 < 1920 := fun t z => log_of (Nat.lt_of_le_of_lt (lowT_abs bdn) z)
    obtain ⟨i, q, rfl, rfl⟩ := ok
    rcases hm with ⟨pm', em, _⟩ | ⟨em, rfl⟩
    · cases em
    cases em
    rcases hy with ⟨q', ey, hy⟩ | ⟨ey, _⟩
    case inr => cases ey
    cases ey
    refine ⟨ht, fun G1 x1 tb1 => ?_⟩
    have y1 := x1
    obtain ⟨dm, em⟩ := id (hy.ext y1)
    refine ⟨_, rfl, _, rfl, _, q, dm, _, rfl, rfl, em, q, xC, xD, _, xA, 1, rfl, hy.ext y1, D0, .inr ⟨rfl, rfl⟩, by decide, wC.b2, wD.b2, wA.b2, B2.one, fun q1 Hq r sq => ⟨(by show 1 ≤ sizeLine; decide), fun l hl => ?_⟩⟩
    rw [show fAdd xC xD xA 1 = xA * xD + xC * 1 by unfold fAdd; grind, show xD * 1 = 1 * xD by grind, pr.add.1, pr.add.2] at r
    have it : Itm C (upd Hq l (.lst [.ref q1])) l (.str (lowS (a * d + c * b) (b * d))) := .rat upd_same (r.same (same_new hl)) (lgT _ (bd_le (bd_add had hcb) (by decide))) (lgB _)
    have sq1 := sq.trans (same_new (o := .lst [.ref q1]) hl)
    refine ⟨(by show 1 ≤ sizeLine; decide), fun lh hlh => ?_⟩
    have xA1 := x1.trans (ext_same sq1)
    have g1 := GivR.first (tb1.ext sq1) it hlh
    generalize (upd (upd Hq l (.lst [.ref q1])) lh (.lst [.ref l])) = H1 at g1
    clear it sq em
    refine ⟨_, rfl, .inl ⟨rfl, _, SqL.of g1.l⟩, g1.t, fun G2 x2 tb2 => ?_⟩
    have y2 := (xA1.trans g1.x).trans x2
    obtain ⟨dm, em⟩ := id (hy.ext y2)
    refine ⟨_, rfl, _, rfl, _, q, dm, _, rfl, rfl, em, q, xC, xD, _, xA, 1, rfl, hy.ext y2, D0, gC, .inr ⟨rfl, rfl⟩, by decide, wC.b2, wD.b2, wA.b2, B2.one, fun q2 Hq r sq => ⟨(by show 1 ≤ sizeLine; decide), fun l hl => ?_⟩⟩
    rw [show xD * 1 = 1 * xD by grind, pr.sub.1, pr.sub.2] at r
    have it : Itm C (upd Hq l (.lst [.ref q2])) l (.str (lowS (a * d - c * b) (b * d))) := .rat upd_same (r.same (same_new hl)) (lgT _ (bd_le (bd_sub had hcb) (by decide))) (lgB _)
    have sq2 := sq.trans (same_new (o := .lst [.ref q2]) hl)
    refine ⟨lh, _, _, rfl, rfl, g1.at x2 sq2, (by show 1 < sizeLine; decide), ?_⟩
    have g2 := g1.step x2 tb2 sq2 it (Ne.symm (ne_of_none (g1.at x2 sq) hl))
    generalize (upd (upd Hq l (.lst [.ref q2])) lh _) = H2 at g2
    clear it sq em
    refine ⟨_, rfl, .inl ⟨rfl, _, SqL.of g2.l⟩, g2.t, fun G3 x3 tb3 => ?_⟩
    have y3 := (xA1.trans g2.x).trans x3
    obtain ⟨dm, em⟩ := id (hy.ext y3)
    refine ⟨_, rfl, _, rfl, _, q, dm, _, rfl, rfl, em, q, xC, xD, _, xA, 1, rfl, hy.ext y3, D0, .inr ⟨rfl, rfl⟩, by decide, wC.b2, wD.b2, wA.b2, B2.one, fun q3 Hq r sq => ⟨(by show 1 ≤ sizeLine; decide), fun l hl => ?_⟩⟩
    rw [show fMul xC xD xA 1 = xA * xC by unfold fMul; grind, show xD * 1 = 1 * xD by grind, pr.mul.1, pr.mul.2] at r
    have it : Itm C (upd Hq l (.lst [.ref q3])) l (.str (lowS (a * c) (b * d))) := .rat upd_same (r.same (same_new hl)) (lgT _ (bd_le hac (by decide))) (lgB _)
    have sq3 := sq.trans (same_new (o := .lst [.ref q3]) hl)
    refine ⟨lh, _, _, rfl, rfl, g2.at x3 sq3, (by show 2 < sizeLine; decide), ?_⟩
    have g3 := g2.step x3 tb3 sq3 it (Ne.symm (ne_of_none (g2.at x3 sq) hl))
    generalize (upd (upd Hq l (.lst [.ref q3])) lh _) = H3 at g3
    clear it sq em
    by_cases c0 : c = 0
    · refine ⟨_, rfl, .inl ⟨rfl, _, SqL.of g3.l⟩, g3.t, fun G4 x4 tb4 => ?_⟩
      have y4 := (xA1.trans g3.x).trans x4
      obtain ⟨dm, em⟩ := id (hy.ext y4)
      refine ⟨_, rfl, _, rfl, _, q, dm, _, rfl, rfl, em, q, xC, xD, _, xA, 1, rfl, hy.ext y4, D0, .inr ⟨rfl, rfl⟩, by decide, wC.b2, wD.b2, wA.b2, B2.one, fun z => absurd (pr.zero.mpr c0) z, fun z Hq sq => .inl ⟨rfl, fun l hl => ?_⟩⟩
      have it : Itm C (upd Hq l (.tup [.str "divisor"])) l divD := .div upd_same
      have sq4 := sq.trans (same_new (o := .tup [.str "divisor"]) hl)
      refine ⟨lh, _, _, rfl, rfl, g3.at x4 sq4, (by show 3 < sizeLine; decide), ?_⟩
      have g4 := g3.step x4 tb4 sq4 it (Ne.symm (ne_of_none (g3.at x4 sq) hl))
      generalize (upd (upd Hq l (.tup [.str "divisor"])) lh _) = H4 at g4
      clear it sq em
      refine ⟨_, rfl, .inl ⟨rfl, _, SqL.of g4.l⟩, g4.t, fun G5 x5 tb5 => ?_⟩
      have y5 := (xA1.trans g4.x).trans x5
      obtain ⟨dm, em⟩ := id (hy.ext y5)
      refine ⟨_, rfl, _, rfl, _, q, dm, _, rfl, rfl, em, q, xC, xD, xA, rfl, hy.ext y5, D0, gC, wC, wD, wA, fun z => absurd (pr.zero.mpr c0) z, fun z Hq sq => .inl ⟨rfl, fun l hl => ?_⟩⟩
      have it : Itm C (upd Hq l (.tup [.str "divisor"])) l divD := .div upd_same
      have sq5 := sq.trans (same_new (o := .tup [.str "divisor"]) hl)
      refine ⟨lh, _, _, rfl, rfl, g4.at x5 sq5, (by show 4 < sizeLine; decide), ?_⟩
      have g5 := g4.step x5 tb5 sq5 it (Ne.symm (ne_of_none (g4.at x5 sq) hl))
      generalize (upd (upd Hq l (.tup [.str "divisor"])) lh _) = H5 at g5
      clear it sq em
      have e5 : [.str (lowS (a * d + c * b) (b * d)), .str (lowS (a * d - c * b) (b * d)), .str (lowS (a * c) (b * d)), divD, divD] = dueL a b c d := by
        unfold dueL
        rw [if_pos c0]
        rfl
      have w5 := g5.w
      replace w5 : Its C lh H5 _ [.str (lowS (a * d + c * b) (b * d)), .str (lowS (a * d - c * b) (b * d)), .str (lowS (a * c) (b * d)), divD, divD] := w5
      rw [e5] at w5
      have L5 := g5.l
      have X5 := xA1.trans g5.x
      have T5 := g5.t
      have n5 : ∀ b' o, H b' = some o → (∀ ps, o ≠ .tbl ps) → H5 b' = some o := X5
      refine ⟨_, rfl, lh, rfl, ⟨_, SqL.of L5⟩, fun D1 hD1 => ?_⟩
      refine lc_list (K := K) (a := lh) (xs := _) (fun i Hh => ∃ vs, Hh D1 = some (.lst vs) ∧ vs.length = i ∧ DpAll K H5 vs ((dueL a b c d).take i) ∧ Same H5 Hh) ⟨[], upd_same, rfl, .nil, same_new hD1⟩ (fun i Hh _ hh => by obtain ⟨_, _, _, _, s⟩ := hh; exact SqL.of (s _ _ L5)) ?_ ?_
      · rintro i v Hh hi ⟨vs, c1, c2, c3, c4⟩
        obtain ⟨ai, ti, rfl, hti, im⟩ := w5.at hi
        have i5 : i < 5 := (List.getElem?_eq_some_iff.mp hi).1
        have fin : ∀ (u : V) (Hz : Hp), Dp K H5 u ti → Same Hh Hz → ∃ acc, Hz D1 = some (.lst acc) ∧ acc.length < sizeLine ∧ ∃ vs, (upd Hz D1 (.lst (acc ++ [u]))) D1 = some (.lst vs) ∧ vs.length = i + 1 ∧ DpAll K H5 vs ((dueL a b c d).take (i + 1)) ∧ Same H5 (upd Hz D1 (.lst (acc ++ [u]))) := fun u Hz du sz => by
          refine ⟨vs, sz _ _ c1, by rw [c2, sizeLine_eq]; omega, vs ++ [u], upd_same, by rw [List.length_append, c2]; rfl, ?_, fun b' o e => ?_⟩
          · rw [take1 hti]
            exact dp_snoc c3 du
          · rw [upd_ne (ne_of_none e hD1)]
            exact sz _ _ (c4 _ _ e)
        have im' := im.ext (ext_same c4)
        refine ⟨rfl, yes_go ⟨_, rfl, ai, rfl, ?_⟩⟩
        cases im' with
        | rat h r ln ld => exact .inr (.inl ⟨_, _, _, h, r, ln, ld, fun Hz sz => fin _ Hz (.str _) sz⟩)
        | int h li => exact .inr (.inr ⟨_, h, li, fin _ Hh (.str _) fun _ _ e => e⟩)
        | div h =>
          refine .inl ⟨_, h, fin _ Hh ?_ fun _ _ e => e⟩
          cases im with
          | div h0 => exact .tup (SqT.of h0) (.cons (.str _) .nil)
      rintro H6 ⟨vs, c1, c2, c3, c4⟩
      have e6 : (dueL a b c d).take 5 = dueL a b c d := by rw [← e5]; rfl
      have c3' : DpAll K H5 vs (dueL a b c d) := e6 ▸ c3
      refine ⟨_, rfl, _, rfl, p1, p2, a, b, c, d, rfl, c4 _ _ (n5 _ _ hp1 (by intro ps z; cases z)), c4 _ _ (n5 _ _ hp2 (by intro ps z; cases z)), wa, wb, wc, wd, b0, d0, fun l7 H7 d7 s7 => ?_⟩
      have s57 := c4.trans s7
      refine ⟨.list (dueL a b c d), .list (dueL a b c d), .lst (SqL.of (s7 _ _ c1)) (dp_sameAll s57 _ _ c3'), d7, due_shaped _ _ _ _, due_shaped _ _ _ _, ?_⟩
      rw [SeqAt.eqv_refl _ (SeqAt.canLay_of_shaped (due_shaped a b c d))]
      exact k _ (X5.trans (ext_same s57)) (T5.ext s57)
    · have bmod : (a * d - (a * d).fdiv (b * c) * c * b).natAbs < 2 ^ 1500 := bd_le (bd_sub (bd_le had (by decide : 200 + 200 ≤ 801)) (bd_mul (bd_mul (fdiv_bd had (Int.mul_ne_zero b0 c0)) wc.abs) wb.abs)) (by decide)
      refine ⟨_, rfl, .inl ⟨rfl, _, SqL.of g3.l⟩, g3.t, fun G4 x4 tb4 => ?_⟩
      have y4 := (xA1.trans g3.x).trans x4
      obtain ⟨dm, em⟩ := id (hy.ext y4)
      refine ⟨_, rfl, _, rfl, _, q, dm, _, rfl, rfl, em, q, xC, xD, _, xA, 1, rfl, hy.ext y4, D0, .inr ⟨rfl, rfl⟩, by decide, wC.b2, wD.b2, wA.b2, B2.one, fun z Hq sq => ⟨(by show 1 ≤ sizeLine; decide), fun l hl => ?_⟩, fun z => absurd (pr.zero.mp z) c0⟩
      have es : ((toString ((xA * xD).fdiv (1 * xC)) : String) : Str) = ((toString ((a * d).fdiv (b * c)) : String) : Str) := by rw [pr.floor c0]
      have it : Itm C (upd Hq l (.lst [.int ((xA * xD).fdiv (1 * xC))])) l (.str ((toString ((a * d).fdiv (b * c)) : String) : Str)) := by
        rw [← es]
        exact .int upd_same (by rw [pr.floor c0]; exact log_of (fdiv_bd had (Int.mul_ne_zero b0 c0)))
      have sq4 := sq.trans (same_new (o := .lst [.int ((xA * xD).fdiv (1 * xC))]) hl)
      refine ⟨lh, _, _, rfl, rfl, g3.at x4 sq4, (by show 3 < sizeLine; decide), ?_⟩
      have g4 := g3.step x4 tb4 sq4 it (Ne.symm (ne_of_none (g3.at x4 sq) hl))
      generalize (upd (upd Hq l (.lst [.int ((xA * xD).fdiv (1 * xC))])) lh _) = H4 at g4
      clear it sq em
      refine ⟨_, rfl, .inl ⟨rfl, _, SqL.of g4.l⟩, g4.t, fun G5 x5 tb5 => ?_⟩
      have y5 := (xA1.trans g4.x).trans x5
      obtain ⟨dm, em⟩ := id (hy.ext y5)
      refine ⟨_, rfl, _, rfl, _, q, dm, _, rfl, rfl, em, q, xC, xD, xA, rfl, hy.ext y5, D0, gC, wC, wD, wA, fun z q5 Hq r sq => ⟨(by show 1 ≤ sizeLine; decide), fun l hl => ?_⟩, fun z => absurd (pr.zero.mp z) c0⟩
      have ef := pr.floor c0
      rw [Int.one_mul] at ef
      rw [ef, show xA * xD - (a * d).fdiv (b * c) * xC = xA * xD - (a * d).fdiv (b * c) * xC * 1 by grind] at r
      have e1 := (pr.mod ((a * d).fdiv (b * c))).1
      have e2 := (pr.mod ((a * d).fdiv (b * c))).2
      rw [Int.one_mul] at e1 e2
      rw [e1, e2] at r
      have it : Itm C (upd Hq l (.lst [.ref q5])) l (.str (lowS (a * d - (a * d).fdiv (b * c) * c * b) (b * d))) := .rat upd_same (r.same (same_new hl)) (lgT _ (bmod)) (lgB _)
      have sq5 := sq.trans (same_new (o := .lst [.ref q5]) hl)
      refine ⟨lh, _, _, rfl, rfl, g4.at x5 sq5, (by show 4 < sizeLine; decide), ?_⟩
      have g5 := g4.step x5 tb5 sq5 it (Ne.symm (ne_of_none (g4.at x5 sq) hl))
      generalize (upd (upd Hq l (.lst [.ref q5])) lh _) = H5 at g5
      clear it sq em
      have e5 : [.str (lowS (a * d + c * b) (b * d)), .str (lowS (a * d - c * b) (b * d)), .str (lowS (a * c) (b * d)), .str ((toString ((a * d).fdiv (b * c)) : String) : Str), .str (lowS (a * d - (a * d).fdiv (b * c) * c * b) (b * d))] = dueL a b c d := by
        unfold dueL
        rw [if_neg c0]
        rfl
      have w5 := g5.w
      replace w5 : Its C lh H5 _ [.str (lowS (a * d + c * b) (b * d)), .str (lowS (a * d - c * b) (b * d)), .str (lowS (a * c) (b * d)), .str ((toString ((a * d).fdiv (b * c)) : String) : Str), .str (lowS (a * d - (a * d).fdiv (b * c) * c * b) (b * d))] := w5
      rw [e5] at w5
      have L5 := g5.l
      have X5 := xA1.trans g5.x
      have T5 := g5.t
      have n5 : ∀ b' o, H b' = some o → (∀ ps, o ≠ .tbl ps) → H5 b' = some o := X5
      refine ⟨_, rfl, lh, rfl, ⟨_, SqL.of L5⟩, fun D1 hD1 => ?_⟩
      refine lc_list (K := K) (a := lh) (xs := _) (fun i Hh => ∃ vs, Hh D1 = some (.lst vs) ∧ vs.length = i ∧ DpAll K H5 vs ((dueL a b c d).take i) ∧ Same H5 Hh) ⟨[], upd_same, rfl, .nil, same_new hD1⟩ (fun i Hh _ hh => by obtain ⟨_, _, _, _, s⟩ := hh; exact SqL.of (s _ _ L5)) ?_ ?_
      · rintro i v Hh hi ⟨vs, c1, c2, c3, c4⟩
        obtain ⟨ai, ti, rfl, hti, im⟩ := w5.at hi
        have i5 : i < 5 := (List.getElem?_eq_some_iff.mp hi).1
        have fin : ∀ (u : V) (Hz : Hp), Dp K H5 u ti → Same Hh Hz → ∃ acc, Hz D1 = some (.lst acc) ∧ acc.length < sizeLine ∧ ∃ vs, (upd Hz D1 (.lst (acc ++ [u]))) D1 = some (.lst vs) ∧ vs.length = i + 1 ∧ DpAll K H5 vs ((dueL a b c d).take (i + 1)) ∧ Same H5 (upd Hz D1 (.lst (acc ++ [u]))) := fun u Hz du sz => by
          refine ⟨vs, sz _ _ c1, by rw [c2, sizeLine_eq]; omega, vs ++ [u], upd_same, by rw [List.length_append, c2]; rfl, ?_, fun b' o e => ?_⟩
          · rw [take1 hti]
            exact dp_snoc c3 du
          · rw [upd_ne (ne_of_none e hD1)]
            exact sz _ _ (c4 _ _ e)
        have im' := im.ext (ext_same c4)
        refine ⟨rfl, yes_go ⟨_, rfl, ai, rfl, ?_⟩⟩
        cases im' with
        | rat h r ln ld => exact .inr (.inl ⟨_, _, _, h, r, ln, ld, fun Hz sz => fin _ Hz (.str _) sz⟩)
        | int h li => exact .inr (.inr ⟨_, h, li, fin _ Hh (.str _) fun _ _ e => e⟩)
        | div h =>
          refine .inl ⟨_, h, fin _ Hh ?_ fun _ _ e => e⟩
          cases im with
          | div h0 => exact .tup (SqT.of h0) (.cons (.str _) .nil)
      rintro H6 ⟨vs, c1, c2, c3, c4⟩
      have e6 : (dueL a b c d).take 5 = dueL a b c d := by rw [← e5]; rfl
      have c3' : DpAll K H5 vs (dueL a b c d) := e6 ▸ c3
      refine ⟨_, rfl, _, rfl, p1, p2, a, b, c, d, rfl, c4 _ _ (n5 _ _ hp1 (by intro ps z; cases z)), c4 _ _ (n5 _ _ hp2 (by intro ps z; cases z)), wa, wb, wc, wd, b0, d0, fun l7 H7 d7 s7 => ?_⟩
      have s57 := c4.trans s7
      refine ⟨.list (dueL a b c d), .list (dueL a b c d), .lst (SqL.of (s7 _ _ c1)) (dp_sameAll s57 _ _ c3'), d7, due_shaped _ _ _ _, due_shaped _ _ _ _, ?_⟩
      rw [SeqAt.eqv_refl _ (SeqAt.canLay_of_shaped (due_shaped a b c d))]
      exact k _ (X5.trans (ext_same s57)) (T5.ext s57)
end
end My
set_option exponentiation.threshold 5000
namespace My
open PySem PySem.Spec PyProof.Rows L2
abbrev s_overR : Stmt := topS 27
theorem sc_overR : FnScope ["_law_one", "_law_other", "_law_yours", "_law_heard_here"] ["_law_one", "_law_other", "_law_yours"] (defScope s_overR) := ⟨rfl, rfl, rfl, by decide +kernel, rfl, by decide +kernel, by decide +kernel⟩
abbrev s_aloneR : Stmt := topS 28
theorem sc_aloneR : FnScope ["_law_pair_here", "_law_made", "_law_top", "_law_bottom", "_law_held"] ["_law_pair_here"] (defScope s_aloneR) := ⟨rfl, rfl, rfl, by decide +kernel, rfl, by decide +kernel, by decide +kernel⟩
theorem ix_tupB {X : Cx} {K : PySem.W.Frag} (h : X.K = K) : IxR X (rIxT K) := by
  subst h
  exact ix_tup
theorem Pr.over {a b c d A B C D : Int} (h : Pr a b c d A B C D) (c0 : c ≠ 0) : lowT (A * D) (B * C) = lowT (a * d) (b * c) ∧ lowB (A * D) (B * C) = lowB (a * d) (b * c) := low_eq (Int.mul_ne_zero (by have := h.Bp; omega) fun z => c0 (h.zero.mp z)) (Int.mul_ne_zero h.b0 c0) (by
  have x := h.x
  have y := h.y
  grind)
def spOverL (C : Addr) (TS : List (Addr × Str)) : Sp := fun vs H Q _ => ∃ (p q : Addr) (yv : V) (a b c d : Int), vs = [.ref p, .ref q, yv] ∧ H p = some (.tup [.int a, .int b]) ∧ H q = some (.tup [.int c, .int d]) ∧ Wd a ∧ Wd b ∧ Wd c ∧ Wd d ∧ b ≠ 0 ∧ d ≠ 0 ∧
  NumAt C H yv (lowT c d) (lowB c d) ∧ LamX.Tabs TS H ∧ ∀ H', LamX.ExtN H H' → LamX.Tabs TS H' → Q (.bl true) H'
def spAlone : Sp := fun vs H Q _ => ∃ (p : Addr) (a b : Int), vs = [.ref p] ∧ H p = some (.tup [.int a, .int b]) ∧ Wd a ∧ Wd b ∧ b ≠ 0 ∧ ∀ H', Same H H' → Q (.bl true) H'
section
variable {P : Program} {w : World} {K : PySem.W.Frag} {mg : Str → Option Value} {base : Heap} {CE C CB fB CN : Addr}
theorem ok_overR {f c0 tb : Addr} {fd : FuncData} {TS : List (Addr × Str)} (F : FunC K "_law_over_right" "_law_over_right" s_overR f fd c0) (T : RTx P K mg C CB fB CN) (TH : HTx P K mg CE CN) (DH : HeardAt K mg)
    (TB : LamX.TabB base mg c0 tb) (hmT : (tb, (("_law_over_right" : Str) ++ ".<locals>.") ++ "<lambda>") ∈ TS) (hu : ∀ p ∈ TS, p.1 = tb → p.2 = (("_law_over_right" : Str) ++ ".<locals>.") ++ "<lambda>")
    (D_shown : DefG P w K mg base CX0 2 "_law_shown" ["_law_heard_here"] (spShown C)) (D_lowest : DefAt P w K mg base CX0 1 "_law_lowest" ["_law_top", "_law_bottom"] spLowest)
    (M_Ratio : MakeAt P w K mg base (L2.CX P w) 3 "Ratio" C ["self", "top", "bottom"] (spInit C CB CN) []) (X_over : MethAt P w K mg base (L2.CX P w) 5 C "over" ["self", "number"] (spOver C CN)) :
    FnG P w K mg base CX0 12 f fd ["_law_one", "_law_other", "_law_yours"] (spOverL C TS) := by
  refine okGc F sc_overR (fun vs H Q E h => ?_) (fun A outer s H vs Q E hgd hr h => ?_)
  · obtain ⟨p, q, yv, a, b, c, d, rfl, _⟩ := h
    rfl
  · obtain ⟨p1, p2, yv, a, b, c, d, rfl, hp1, hp2, wa, wb, wc, wd, b0, d0, hy, ht, k⟩ := h
    refine ⟨_, (pss_cons (ps_set (i := 3) sc_overR.nd rfl (Or.inl rfl) (My.pe_dG D_shown hgd (hr.mono (by decide)) (by rfl) pass0 (pa_cons (My.pe_heard (k := 8) DH TH hgd (hr.mono (by decide)) TB rfl hmT hu (by rfl) (LamX.lamS_by (by show LamX.lamSB (defScope s_overR) _ = true; decide +kernel)) rfl (fun _ _ _ _ _ => rfl) (fun A outer s H E f c hrl => (My.pe_mt T.cl X_over (hrl.mono (by decide)) (passes_call (takes_of rfl rfl rfl rfl) (fun _ _ _ _ h => h)) (My.pe_mk M_Ratio (hrl.mono (by decide)) (by rfl) (passes_call (takes_of rfl rfl rfl rfl) (fun _ _ _ _ h => h)) (pa_cons (pe_ix (My.ix_tupB (K := K) rfl) (pv 0) pe_int (fun _ _ => rfl)) (pa_cons (pe_ix (My.ix_tupB (K := K) rfl) (pv 0) pe_int (fun _ _ => rfl)) pa_nil))) (pa_cons (pv 2) pa_nil)))) pa_nil)))
      (pss_cons (ps_if (pt_cmpR op_eq (pe_ix (My.ix_tupB (K := K) rfl) (pv 1) pe_int (fun _ _ => rfl)) pe_int (nomark _)) (pss_one (ps_ret (pe_cmpR (op_eqD hr.units) (pv 3) (pe_tup (pa_cons pe_str pa_nil)) (nomark _)))) pss_nil)
      (pss_one (ps_ret (pe_cmpR op_eq (pv 3) (pe_callB (My.call_repr hgd hr) (by rfl) T.z_repr boot_repr (pa_cons (My.pe_d D_lowest (hr.mono (by decide)) (by rfl) pass0 (pa_cons (pe_op op_mulW (pe_ix (My.ix_tupB (K := K) rfl) (pv 0) pe_int (fun _ _ => rfl)) (pe_ix (My.ix_tupB (K := K) rfl) (pv 1) pe_int (fun _ _ => rfl))) (pa_cons (pe_op op_mulW (pe_ix (My.ix_tupB (K := K) rfl) (pv 0) pe_int (fun _ _ => rfl)) (pe_ix (My.ix_tupB (K := K) rfl) (pv 1) pe_int (fun _ _ => rfl))) pa_nil))) pa_nil)) (nomark _)))))), ?_⟩
    have pr := pr_of (a := a) (c := c) b0 d0
    have tA := Nat.lt_of_le_of_lt (lowT_abs (t := a) b0) wa.abs
    have tB := Nat.lt_of_le_of_lt (lowB_abs (t := a) b0) wb.abs
    have tC := Nat.lt_of_le_of_lt (lowT_abs (t := c) d0) wc.abs
    have tD := Nat.lt_of_le_of_lt (lowB_abs (t := c) d0) wd.abs
    have B0 := lowB_pos (t := a) b0
    have D0 := lowB_pos (t := c) d0
    have wA : B2 (lowT a b) := bd_le tA (by decide)
    have wB : B2 (lowB a b) := bd_le tB (by decide)
    have wC : B2 (lowT c d) := bd_le tC (by decide)
    have wD : B2 (lowB c d) := bd_le tD (by decide)
    refine ⟨ht, fun G x tb => ?_⟩
    have y1 := x _ _ hp1 (by intro ps z; cases z)
    refine ⟨_, rfl, p1, _, _, .int a, rfl, rfl, SqT.of y1, rfl, _, rfl, p1, _, _, .int b, rfl, rfl, SqT.of y1, rfl, fun q dq hq hd ne => init_at b0 (log9 wb.abs) hq hd ne fun H1 r1 s1 => ?_⟩
    obtain ⟨dx, ex⟩ := id r1
    refine ⟨q, dx, _, rfl, ex, rfs_no _ _ (by decide +kernel) (by decide +kernel), _, rfl, q, _, _, yv, _, _, rfl, r1, B0, (hy.ext x).same s1, D0, wA, wB, wC, wD, fun z q2 H2 r2 s2 => ?_, fun z H2 s2 => .inl ⟨rfl, fun t3 h3 => ?_⟩⟩
    · have c0 : c ≠ 0 := fun e => z (pr.zero.mpr e)
      rw [(pr.over c0).1, (pr.over c0).2] at r2
      have bcn : b * c ≠ 0 := Int.mul_ne_zero b0 c0
      have had : (a * d).natAbs < 2 ^ 1500 := bd_le (bd_mul wa.abs wd.abs) (by decide)
      have hbc : (b * c).natAbs < 2 ^ 1500 := bd_le (bd_mul wb.abs wc.abs) (by decide)
      refine ⟨(by show 1 ≤ sizeLine; decide), fun l3 h3 => ?_⟩
      refine ⟨l3, rfl, .inr (.inl ⟨q2, _, _, upd_same, r2.same (same_new h3), log_of (Nat.lt_of_le_of_lt (lowT_abs bcn) had), log_of (Nat.lt_of_le_of_lt (lowB_abs bcn) hbc), fun H4 s4 => ?_⟩)⟩
      have S4 : Same G H4 := ((s1.trans s2).trans (same_new (o := .lst [.ref q2]) h3)).trans s4
      have X4 : LamX.ExtN H H4 := x.trans (ext_same S4)
      have z1 := X4 _ _ hp1 (by intro ps z; cases z)
      have z2 := X4 _ _ hp2 (by intro ps z; cases z)
      refine ⟨_, rfl, p2, _, _, .int c, rfl, rfl, SqT.of z2, rfl, rfl, _, rfl, ?_⟩
      rw [decide_eq_false (fun e => c0 (V.int.inj e))]
      refine iteF ?_
      refine ⟨_, rfl, _, rfl, p1, _, _, .int a, rfl, rfl, SqT.of z1, rfl, _, rfl, p2, _, _, .int d, rfl, rfl, SqT.of z2, rfl, _, _, rfl, rfl, B2.mul wa.b2 wd.b2, ?_⟩
      refine ⟨_, rfl, p1, _, _, .int b, rfl, rfl, SqT.of z1, rfl, _, rfl, p2, _, _, .int c, rfl, rfl, SqT.of z2, rfl, _, _, rfl, rfl, B2.mul wb.b2 wc.b2, _, _, rfl, bcn, B2.prod wb.b2 wc.b2, fun q5 h5 => ?_⟩
      obtain ⟨i1, i2, i3, i4⟩ := low_show (K := K) (H := upd H4 q5 (.tup [.int (lowT (a * d) (b * c)), .int (lowB (a * d) (b * c))])) (l := q5) bcn had hbc upd_same
      refine ⟨_, _, rfl, i1, i2, i3, i4, rfl, ?_⟩
      rw [decide_eq_true (show V.str (two (lowT (a * d) (b * c)) (lowB (a * d) (b * c))) = V.str (PyData.tuple [.int (lowT (a * d) (b * c)), .int (lowB (a * d) (b * c))]).shown from rfl)]
      have s5 := same_new (o := .tup [.int (lowT (a * d) (b * c)), .int (lowB (a * d) (b * c))]) h5
      exact k _ (X4.trans (ext_same s5)) ((tb.ext S4).ext s5)
    · have c0 : c = 0 := pr.zero.mp z
      refine ⟨t3, rfl, .inl ⟨_, upd_same, ?_⟩⟩
      have S3 : Same G (upd H2 t3 (.tup [.str "divisor"])) := (s1.trans s2).trans (same_new h3)
      have X3 : LamX.ExtN H (upd H2 t3 (.tup [.str "divisor"])) := x.trans (ext_same S3)
      have w3 : (upd H2 t3 (.tup [.str "divisor"])) t3 = some (.tup [.str "divisor"]) := upd_same
      generalize (upd H2 t3 (.tup [.str "divisor"])) = H3 at S3 X3 w3
      have z2 := X3 _ _ hp2 (by intro ps z; cases z)
      refine ⟨_, rfl, p2, _, _, .int c, rfl, rfl, SqT.of z2, rfl, rfl, _, rfl, ?_⟩
      rw [decide_eq_true (show V.int c = V.int 0 by rw [c0])]
      refine iteT ?_
      refine ⟨_, rfl, (by show 1 ≤ sizeLine; decide), fun t4 h4 => ?_⟩
      have s4 := same_new (o := .tup [.str "divisor"]) h4
      refine ⟨divD, divD, .tup (SqT.of (s4 _ _ w3)) (.cons (.str _) .nil), .tup (SqT.of upd_same) (.cons (.str _) .nil), by decide +kernel, by decide +kernel, ?_⟩
      rw [show PyData.eqv divD divD = true by decide +kernel]
      exact k _ (X3.trans (ext_same s4)) ((tb.ext S3).ext s4)
theorem sq_low {A B : Int} (B0 : 0 < B) :
    let n1 := lowT (fAdd A B 1 1) (B * 1); let d1 := lowB (fAdd A B 1 1) (B * 1); let n2 := lowT (fMul n1 d1 A B) (d1 * B); let d2 := lowB (fMul n1 d1 A B) (d1 * B)
    lowT (fSub n2 d2 A B) (d2 * B) = lowT (fMul A B A B) (B * B) ∧ lowB (fSub n2 d2 A B) (d2 * B) = lowB (fMul A B A B) (B * B) := by
  intro n1 d1 n2 d2
  have h1 : B * 1 ≠ 0 := by omega
  have p1 : 0 < d1 := lowB_pos h1
  have p2 : 0 < d2 := lowB_pos (pos_ne p1 B0)
  have c1 : n1 * (B * 1) = d1 * fAdd A B 1 1 := low_cross
  have c2 : n2 * (d1 * B) = d2 * fMul n1 d1 A B := low_cross
  clear_value n1 d1 n2 d2
  refine low_eq (pos_ne p2 B0) (pos_ne B0 B0) ?_
  unfold fAdd at c1
  unfold fMul at c2
  unfold fSub fMul
  have e1 : n1 * B = d1 * (A + B) := by grind
  have e2 : n2 * (d1 * B) = d2 * (n1 * A) := c2
  have e3 : (n2 * B * B) * (d1 * B) = (d2 * A * (A + B)) * (d1 * B) := by grind
  have e4 : n2 * B * B = d2 * A * (A + B) := Int.eq_of_mul_eq_mul_right (pos_ne p1 B0) e3
  grind
end
end My
set_option exponentiation.threshold 5000
namespace My
open PySem PySem.Spec PyProof.Rows L2
section
variable {P : Program} {w : World} {K : PySem.W.Frag} {mg : Str → Option Value} {base : Heap} {CE C CB fB CN : Addr}
theorem ok_aloneR {f : Addr} {fd : FuncData} (F : Fun K "_law_alone_right" "_law_alone_right" s_aloneR f fd) (T : RTx P K mg C CB fB CN) (ne0 : PySem.W.findIn K (.ref C) "__ne__" = some (some (.builtin "object.__ne__")))
    (D_lowest : DefAt P w K mg base CX0 1 "_law_lowest" ["_law_top", "_law_bottom"] spLowest) (D_parts : DefG P w K mg base CX0 1 "_law_parts" ["_law_ratio"] (spPartsL C)) (M_Ratio : MakeAt P w K mg base (L2.CX P w) 3 "Ratio" C ["self", "top", "bottom"] (spInit C CB CN) [])
    (CE_eq : CmpAt P w K mg base CX0 3 C "__eq__" ["self", "other"] (spEqR C)) (O_neg : CmpAt P w K mg base CX0 5 C "__neg__" ["self"] (spNeg C)) (O_abs : CmpAt P w K mg base CX0 5 C "__abs__" ["self"] (spAbs C))
    (O_add : CmpAt P w K mg base CX0 5 C "__add__" ["self", "other"] (spBin C fAdd)) (O_sub : CmpAt P w K mg base CX0 5 C "__sub__" ["self", "other"] (spBin C fSub)) (O_mul : CmpAt P w K mg base CX0 5 C "__mul__" ["self", "other"] (spBin C fMul)) (O_fdv : CmpAt P w K mg base (L2.CX P w) 3 C "__floordiv__" ["self", "other"] (spFdv C CN)) (O_mod : CmpAt P w K mg base (L2.CX P w) 7 C "__mod__" ["self", "other"] (spMod C CN))
    (B_add : BinF K C (Operator.info .Add).2) (B_sub : BinF K C (Operator.info .Sub).2) (B_mul : BinF K C (Operator.info .Mult).2) (B_fdv : BinF K C (Operator.info .FloorDiv).2) (B_mod : BinF K C (Operator.info .Mod).2)
    (N_add : InpF K C (Operator.info .Add).2) (N_sub : InpF K C (Operator.info .Sub).2) (N_mul : InpF K C (Operator.info .Mult).2) (N_fdv : InpF K C (Operator.info .FloorDiv).2) (N_mod : InpF K C (Operator.info .Mod).2) :
    FnG P w K mg base CX0 9 f fd ["_law_pair_here"] spAlone := by
  refine okG F sc_aloneR (fun vs H Q E h => ?_) (fun cdv A outer s H vs Q E hf hgd hr h => ?_)
  · obtain ⟨p, a, b, rfl, _⟩ := h
    rfl
  · obtain ⟨pr, a, b, rfl, hp, wa, wb, b0, k⟩ := h
    refine ⟨_, (pss_cons (ps_asg (pe_tup (pa_cons (My.pe_mk M_Ratio (hr.mono (by decide)) (by rfl) passL (pa_cons (pe_ix ix_tup (pv 0) pe_int (fun _ _ => rfl)) (pa_cons (pe_ix ix_tup (pv 0) pe_int (fun _ _ => rfl)) pa_nil))) (pa_cons (My.pe_d D_lowest (hr.mono (by decide)) (by rfl) pass0 (pa_cons (pe_ix ix_tup (pv 0) pe_int (fun _ _ => rfl)) (pa_cons (pe_ix ix_tup (pv 0) pe_int (fun _ _ => rfl)) pa_nil))) pa_nil))) (pg_tup rfl (pgs_cons (pg_name (i := 1) sc_aloneR.nd rfl (Or.inl rfl)) (pgs_cons (pg_tup rfl (pgs_cons (pg_name (i := 2) sc_aloneR.nd rfl (Or.inl rfl)) (pgs_cons (pg_name (i := 3) sc_aloneR.nd rfl (Or.inl rfl)) pgs_nil))) pgs_nil))))
      (pss_cons (ps_if (pt_cmpR (op_neD hr.units) (pe_lst (pa_cons (My.pe_dG D_parts hgd (hr.mono (by decide)) (by rfl) pass0 (pa_cons (pe_un (My.un_negO O_neg (hr.mono (by decide)) pass0) (pv 1)) pa_nil)) (pa_cons (My.pe_dG D_parts hgd (hr.mono (by decide)) (by rfl) pass0 (pa_cons (pe_callB (My.call_absO O_abs (hr.mono (by decide)) pass0) (by rfl) T.z_abs boot_abs (pa_cons (pv 1) pa_nil)) pa_nil)) pa_nil))) (pe_lst (pa_cons (pe_callB (My.call_repr hgd hr) (by rfl) T.z_repr boot_repr (pa_cons (pe_tup (pa_cons (pe_op op_sub pe_int (pv 2)) (pa_cons (pv 3) pa_nil))) pa_nil)) (pa_cons (pe_callB (My.call_repr hgd hr) (by rfl) T.z_repr boot_repr (pa_cons (pe_tup (pa_cons (pe_callB call_abs (by rfl) T.z_abs boot_abs (pa_cons (pv 2) pa_nil)) (pa_cons (pv 3) pa_nil))) pa_nil)) pa_nil))) (nomark _)) (pss_one (ps_ret pe_bl)) pss_nil)
      (pss_cons (ps_set (i := 4) sc_aloneR.nd rfl (Or.inl rfl) (pv 1))
      (pss_cons (ps_aug (i := 4) sc_aloneR.nd rfl (Or.inl rfl) pe_int (My.iop_O O_add B_add N_add (hr.mono (by decide)) pass0) (Or.inr rfl))
      (pss_cons (ps_aug (i := 4) sc_aloneR.nd rfl (Or.inl rfl) (pv 1) (My.iop_O O_mul B_mul N_mul (hr.mono (by decide)) pass0) (Or.inr rfl))
      (pss_cons (ps_aug (i := 4) sc_aloneR.nd rfl (Or.inl rfl) (pv 1) (My.iop_O O_sub B_sub N_sub (hr.mono (by decide)) pass0) (Or.inr rfl))
      (pss_cons (ps_if (PW.pt (pw_or (pt_cmpR (My.op_neO CE_eq T.hm ne0 (hr.mono (by decide)) pass0) (pv 4) (pe_op (My.op_binO O_mul B_mul (hr.mono (by decide)) pass0) (pv 1) (pv 1)) (nomark _)) (pw_or1 (pt_cmpR op_ne (My.pe_dG D_parts hgd (hr.mono (by decide)) (by rfl) pass0 (pa_cons (pv 1) pa_nil)) (pe_callB (My.call_repr hgd hr) (by rfl) T.z_repr boot_repr (pa_cons (pe_tup (pa_cons (pv 2) (pa_cons (pv 3) pa_nil))) pa_nil)) (nomark _))))) (pss_one (ps_ret pe_bl)) pss_nil)
      (pss_cons (ps_aug (i := 4) sc_aloneR.nd rfl (Or.inl rfl) pe_int (My.iop_O O_fdv B_fdv N_fdv (hr.mono (by decide)) passL) (Or.inr rfl))
      (pss_cons (ps_if (PW.pt (pw_or (pt_cmpR op_ne (pv 4) (pe_op (My.op_binO O_fdv B_fdv (hr.mono (by decide)) passL) (pe_op (My.op_binO O_mul B_mul (hr.mono (by decide)) pass0) (pv 1) (pv 1)) pe_int) (nomark _)) (pw_or1 (pt_cmpR (My.op_neO CE_eq T.hm ne0 (hr.mono (by decide)) pass0) (pv 1) (My.pe_mk M_Ratio (hr.mono (by decide)) (by rfl) passL (pa_cons (pv 2) (pa_cons (pv 3) pa_nil))) (nomark _))))) (pss_one (ps_ret pe_bl)) pss_nil)
      (pss_cons (ps_set (i := 4) sc_aloneR.nd rfl (Or.inl rfl) (pv 1))
      (pss_cons (ps_aug (i := 4) sc_aloneR.nd rfl (Or.inl rfl) pe_int (My.iop_O O_mod B_mod N_mod (hr.mono (by decide)) passL) (Or.inr rfl))
      (pss_one (ps_ret (pe_and (pe_cmpR (My.op_cmpO CE_eq (hr.mono (by decide)) pass0) (pv 4) (pe_op (My.op_binO O_sub B_sub (hr.mono (by decide)) pass0) (pv 1) (pe_op op_mulW pe_int (pe_op (My.op_binO O_fdv B_fdv (hr.mono (by decide)) passL) (pv 1) pe_int))) (nomark _)) (pe_one (pe_cmpR (My.op_cmpO CE_eq (hr.mono (by decide)) pass0) (pv 1) (My.pe_mk M_Ratio (hr.mono (by decide)) (by rfl) passL (pa_cons (pv 2) (pa_cons (pv 3) pa_nil))) (nomark _))))))))))))))))), ?_⟩
    have lb := log9 wb.abs
    refine ⟨_, rfl, pr, _, _, .int a, rfl, rfl, SqT.of hp, rfl, _, rfl, pr, _, _, .int b, rfl, rfl, SqT.of hp, rfl, fun x dx hx hd ne => init_at b0 lb hx hd ne fun H1 r1 s1 => ?_⟩
    have hp1 := s1 _ _ hp
    refine ⟨_, rfl, pr, _, _, .int a, rfl, rfl, SqT.of hp1, rfl, _, rfl, pr, _, _, .int b, rfl, rfl, SqT.of hp1, rfl, a, b, rfl, b0, lb, fun du hdu => ⟨(by show 2 ≤ sizeLine; decide), fun t2 h2 => ?_⟩⟩
    have D2 : (upd (upd H1 du (.tup [.int (lowT a b), .int (lowB a b)])) t2 (.tup [.ref x, .ref du])) du = some (.tup [.int (lowT a b), .int (lowB a b)]) := same_new h2 _ _ upd_same
    refine ⟨t2, _, rfl, SqT.of upd_same, rfl, _, _, rfl, _, _, rfl, du, _, rfl, SqT.of D2, rfl, _, _, rfl, _, _, rfl, rfl, rfl, ?_⟩
    have S2 : Same H (upd (upd H1 du (.tup [.int (lowT a b), .int (lowB a b)])) t2 (.tup [.ref x, .ref du])) := (s1.trans (same_new hdu)).trans (same_new h2)
    have R2 : RatAt C (upd (upd H1 du (.tup [.int (lowT a b), .int (lowB a b)])) t2 (.tup [.ref x, .ref du])) x (lowT a b) (lowB a b) := (r1.same (same_new hdu)).same (same_new h2)
    clear D2
    generalize (upd (upd H1 du (.tup [.int (lowT a b), .int (lowB a b)])) t2 (.tup [.ref x, .ref du])) = H2 at S2 R2
    have tA := Nat.lt_of_le_of_lt (lowT_abs (t := a) b0) wa.abs
    have tB := Nat.lt_of_le_of_lt (lowB_abs (t := a) b0) wb.abs
    have B0 := lowB_pos (t := a) b0
    have gA := low_cop (t := a) b0
    clear r1
    generalize lowT a b = xA at *
    generalize lowB a b = xB at *
    have wA : B1 xA := bd_le tA (by decide)
    have wB : B1 xB := bd_le tB (by decide)
    have lA := log_of tA
    have lB := log_of tB
    have nA : (-xA).natAbs < 2 ^ 200 := by
      rw [Int.natAbs_neg]
      exact tA
    have aA : (if xA < 0 then -xA else xA).natAbs < 2 ^ 200 := by
      split
      · exact nA
      · exact tA
    obtain ⟨d2, e2⟩ := id R2
    -- the signs
    refine ⟨_, rfl, x, d2, _, rfl, e2, x, xA, xB, rfl, R2, B0, gA, wB.b2, fun q3 H3 r3 s3 => ⟨q3, _, _, rfl, r3, log_of nA, lB, fun H4 s4 => ?_⟩⟩
    have S4 := s3.trans s4
    refine ⟨_, rfl, x, d2, _, rfl, S4 _ _ e2, x, xA, xB, rfl, R2.same S4, B0, gA, wB.b2, fun q5 H5 r5 s5 => ⟨q5, _, _, rfl, r5, log_of aA, lB, fun H6 s6 => ⟨(by show 2 ≤ sizeLine; decide), fun l7 h7 => ?_⟩⟩⟩
    have S7 : Same H2 (upd H6 l7 (.lst [.str (two (-xA) xB), .str (two (if xA < 0 then -xA else xA) xB)])) := ((S4.trans s5).trans s6).trans (same_new h7)
    have L7 : (upd H6 l7 (.lst [.str (two (-xA) xB), .str (two (if xA < 0 then -xA else xA) xB)])) l7 = some (.lst ([two (-xA) xB, two (if xA < 0 then -xA else xA) xB].map V.str)) := upd_same
    generalize (upd H6 l7 (.lst [.str (two (-xA) xB), .str (two (if xA < 0 then -xA else xA) xB)])) = H7 at S7 L7
    refine ⟨_, rfl, _, _, rfl, rfl, _, rfl, (by show 2 ≤ sizeLine; decide), fun t8 h8 => ?_⟩
    have z8 : (0 - xA).natAbs.log2 < 1920 := by
      rw [Int.zero_sub]
      exact log_of nA
    obtain ⟨i1, i2, i3, i4⟩ := two_show (K := K) (H := upd H7 t8 (.tup [.int (0 - xA), .int xB])) (l := t8) z8 lB upd_same
    refine ⟨_, _, rfl, i1, i2, i3, i4, ?_⟩
    clear i1 i2 i3 i4
    have s8 := same_new (o := .tup [.int (0 - xA), .int xB]) h8
    generalize (upd H7 t8 (.tup [.int (0 - xA), .int xB])) = H8 at s8
    refine ⟨_, rfl, _, rfl, _, rfl, (by show 2 ≤ sizeLine; decide), fun t9 h9 => ?_⟩
    obtain ⟨i1, i2, i3, i4⟩ := two_show (K := K) (H := upd H8 t9 (.tup [.int (if xA < 0 then -xA else xA), .int xB])) (l := t9) (log_of aA) lB upd_same
    refine ⟨_, _, rfl, i1, i2, i3, i4, (by show 2 ≤ sizeLine; decide), fun l10 h10 => ?_⟩
    clear i1 i2 i3 i4
    have s9 := same_new (o := .tup [.int (if xA < 0 then -xA else xA), .int xB]) h9
    have s10 := same_new (o := .lst [.str (PyData.tuple [.int (0 - xA), .int xB]).shown, .str (PyData.tuple [.int (if xA < 0 then -xA else xA), .int xB]).shown]) h10
    have sh := shaped_strs [two (-xA) xB, two (if xA < 0 then -xA else xA) xB] fun z hz => by
      simp only [List.mem_cons, List.mem_nil_iff, or_false] at hz
      rcases hz with rfl | rfl <;> exact two_ok _ _
    have L10 : (upd (upd H8 t9 (.tup [.int (if xA < 0 then -xA else xA), .int xB])) l10 (.lst [.str (PyData.tuple [.int (0 - xA), .int xB]).shown, .str (PyData.tuple [.int (if xA < 0 then -xA else xA), .int xB]).shown])) l10 = some (.lst ([two (-xA) xB, two (if xA < 0 then -xA else xA) xB].map V.str)) := by
      rw [upd_same, Int.zero_sub]
      rfl
    refine ⟨.list ([two (-xA) xB, two (if xA < 0 then -xA else xA) xB].map PyData.str), .list ([two (-xA) xB, two (if xA < 0 then -xA else xA) xB].map PyData.str), .lst (SqL.of (s10 _ _ (s9 _ _ (s8 _ _ L7)))) (dp_strs _), .lst (SqL.of L10) (dp_strs _), sh, sh, _, rfl, ?_⟩
    rw [SeqAt.eqv_refl _ (SeqAt.canLay_of_shaped sh)]
    refine iteF ?_
    have S10 := ((S7.trans s8).trans s9).trans s10
    clear L10 sh
    generalize (upd (upd H8 t9 (.tup [.int (if xA < 0 then -xA else xA), .int xB])) l10 (.lst [.str (PyData.tuple [.int (0 - xA), .int xB]).shown, .str (PyData.tuple [.int (if xA < 0 then -xA else xA), .int xB]).shown])) = H10 at S10
    -- in place
    refine ⟨_, rfl, ?_⟩
    have R10 := R2.same S10
    have e10 := S10 _ _ e2
    refine ⟨_, rfl, x, d2, _, rfl, e10, .inr ⟨1, rfl⟩, x, xA, xB, _, 1, 1, rfl, R10, B0, .inr ⟨rfl, rfl⟩, by decide, wA.b2, wB.b2, B2.one, B2.one, fun q11 H11 r11 s11 => ?_⟩
    have b1 : xB * 1 ≠ 0 := by omega
    have c1 : (lowT (fAdd xA xB 1 1) (xB * 1)).natAbs < 2 ^ 210 := Nat.lt_of_le_of_lt (lowT_abs b1) (by
      show (xA * 1 + 1 * xB).natAbs < _
      rw [Int.mul_one, Int.one_mul]
      exact bd_le (bd_add tA tB) (by decide))
    have c2 : (lowB (fAdd xA xB 1 1) (xB * 1)).natAbs < 2 ^ 210 := Nat.lt_of_le_of_lt (lowB_abs b1) (by
      rw [Int.mul_one]
      exact bd_le tB (by decide))
    have p1 := lowB_pos (t := fAdd xA xB 1 1) b1
    have sq := sq_low (A := xA) B0
    obtain ⟨d11, e11⟩ := id r11
    have S11 := S10.trans s11
    have R11 := R2.same S11
    refine ⟨_, rfl, _, rfl, q11, d11, _, rfl, e11, .inl ⟨x, d2, _, rfl, S11 _ _ e2⟩, q11, _, _, _, xA, xB, rfl, r11, p1, .inl ⟨x, rfl, R11⟩, B0, bd_le c1 (by decide), bd_le c2 (by decide), wA.b2, wB.b2, fun q12 H12 r12 s12 => ?_⟩
    dsimp only at sq
    generalize lowT (fAdd xA xB 1 1) (xB * 1) = n1 at *
    generalize lowB (fAdd xA xB 1 1) (xB * 1) = d1 at *
    have b2 : d1 * xB ≠ 0 := pos_ne p1 B0
    have c3 : (lowT (fMul n1 d1 xA xB) (d1 * xB)).natAbs < 2 ^ 500 := Nat.lt_of_le_of_lt (lowT_abs b2) (bd_le (bd_mul c1 tA) (by decide))
    have c4 : (lowB (fMul n1 d1 xA xB) (d1 * xB)).natAbs < 2 ^ 500 := Nat.lt_of_le_of_lt (lowB_abs b2) (bd_le (bd_mul c2 tB) (by decide))
    have p2 := lowB_pos (t := fMul n1 d1 xA xB) b2
    obtain ⟨d12, e12⟩ := id r12
    have S12 := S11.trans s12
    refine ⟨_, rfl, _, rfl, q12, d12, _, rfl, e12, .inl ⟨x, d2, _, rfl, S12 _ _ e2⟩, q12, _, _, _, xA, xB, rfl, r12, p2, .inl ⟨x, rfl, R2.same S12⟩, B0, bd_le c3 (by decide), bd_le c4 (by decide), wA.b2, wB.b2, fun q13 H13 r13 s13 => ?_⟩
    rw [sq.1, sq.2] at r13
    have S13 := S12.trans s13
    have bb : xB * xB ≠ 0 := pos_ne B0 B0
    have c5 : (lowT (fMul xA xB xA xB) (xB * xB)).natAbs < 2 ^ 500 := Nat.lt_of_le_of_lt (lowT_abs bb) (bd_le (bd_mul tA tA) (by decide))
    have c6 : (lowB (fMul xA xB xA xB) (xB * xB)).natAbs < 2 ^ 500 := Nat.lt_of_le_of_lt (lowB_abs bb) (bd_le (bd_mul tB tB) (by decide))
    have p3 := lowB_pos (t := fMul xA xB xA xB) bb
    -- held != made * made
    obtain ⟨d13, e13⟩ := id r13
    refine ⟨_, rfl, _, rfl, _, rfl, x, d2, _, rfl, S13 _ _ e2, .inl ⟨x, d2, _, rfl, S13 _ _ e2⟩, x, xA, xB, _, xA, xB, rfl, R2.same S13, B0, .inl ⟨x, rfl, R2.same S13⟩, B0, wA.b2, wB.b2, wA.b2, wB.b2, fun q14 H14 r14 s14 => ?_⟩
    obtain ⟨nS, hn⟩ : ∃ n, lowT (fMul xA xB xA xB) (xB * xB) = n := ⟨_, rfl⟩
    obtain ⟨dS, hd'⟩ : ∃ n, lowB (fMul xA xB xA xB) (xB * xB) = n := ⟨_, rfl⟩
    rw [hn] at r13 r14 c5
    rw [hd'] at r13 r14 c6 p3
    have r13' := r13.same s14
    obtain ⟨d13', e13'⟩ := id r13'
    have tt : decide (nS = nS ∧ dS = dS) = true := decide_eq_true ⟨rfl, rfl⟩
    refine ⟨q13, d13', _, _, rfl, e13', T.ty r14, T.sf, q13, nS, dS, _, rfl, r13', .inl ⟨nS, dS, .inl ⟨q14, rfl, r14⟩, fun H15 s15 => ⟨_, rfl, ?_⟩⟩⟩
    rw [tt]
    refine ⟨_, rfl, iteF ?_⟩
    have S15 := (S13.trans s14).trans s15
    have R15 := R2.same S15
    refine ⟨_, rfl, x, xA, xB, rfl, R15, lA, lB, fun H16 s16 => ?_⟩
    refine ⟨_, rfl, _, rfl, (by show 2 ≤ sizeLine; decide), fun t17 h17 => ?_⟩
    obtain ⟨i1, i2, i3, i4⟩ := two_show (K := K) (H := upd H16 t17 (.tup [.int xA, .int xB])) (l := t17) lA lB upd_same
    refine ⟨_, _, rfl, i1, i2, i3, i4, rfl, _, rfl, ?_⟩
    rw [decide_eq_true (show V.str (two xA xB) = V.str (PyData.tuple [.int xA, .int xB]).shown from rfl)]
    refine iteF ?_
    clear i1 i2 i3 i4
    have S17 : Same H15 (upd H16 t17 (.tup [.int xA, .int xB])) := s16.trans (same_new h17)
    generalize (upd H16 t17 (.tup [.int xA, .int xB])) = H17 at S17
    have T17 := S15.trans S17
    have r17 := ((r13.same s14).same s15).same S17
    obtain ⟨d17, e17⟩ := id r17
    have R17 := R2.same T17
    have two0 : B2 2 := by
      show (2 : Int).natAbs < 2 ^ 2000
      exact Nat.lt_of_lt_of_le (by decide : (2 : Int).natAbs < 2 ^ 2) (pow_le (by decide))
    have three0 : B1 3 := by
      show (3 : Int).natAbs < 2 ^ 300
      exact Nat.lt_of_lt_of_le (by decide : (3 : Int).natAbs < 2 ^ 2) (pow_le (by decide))
    have one1 : B1 1 := by
      show (1 : Int).natAbs < 2 ^ 300
      exact Nat.lt_of_lt_of_le (by decide : (1 : Int).natAbs < 2 ^ 2) (pow_le (by decide))
    -- held //= 2
    refine ⟨_, rfl, q13, d17, _, rfl, e17, .inr ⟨2, rfl⟩, q13, nS, dS, _, 2, 1, rfl, r17, p3, .inr ⟨rfl, rfl⟩, by decide, bd_le c5 (by decide), bd_le c6 (by decide), two0, B2.one, fun _ H18 s18 => ?_, fun z => absurd z (by decide)⟩
    have T18 := T17.trans s18
    refine ⟨_, rfl, _, rfl, _, rfl, x, d2, _, rfl, T18 _ _ e2, .inl ⟨x, d2, _, rfl, T18 _ _ e2⟩, x, xA, xB, _, xA, xB, rfl, R2.same T18, B0, .inl ⟨x, rfl, R2.same T18⟩, B0, wA.b2, wB.b2, wA.b2, wB.b2, fun q19 H19 r19 s19 => ?_⟩
    rw [hn, hd'] at r19
    obtain ⟨d19, e19⟩ := id r19
    refine ⟨q19, d19, _, rfl, e19, .inr ⟨2, rfl⟩, q19, nS, dS, _, 2, 1, rfl, r19, p3, .inr ⟨rfl, rfl⟩, by decide, bd_le c5 (by decide), bd_le c6 (by decide), two0, B2.one, fun _ H20 s20 => ?_, fun z => absurd z (by decide)⟩
    refine ⟨rfl, _, rfl, iteNS rfl ?_⟩
    have T20 := (T18.trans s19).trans s20
    obtain ⟨o1, o2⟩ := low_self B0 gA
    have t2 : decide (xA = xA ∧ xB = xB) = true := decide_eq_true ⟨rfl, rfl⟩
    refine ⟨_, rfl, _, rfl, _, rfl, fun y dy hy hdy ney => init_at (a := xA) (b := xB) (by omega) (log9 tB) hy hdy ney fun H21 r21 s21 => ?_⟩
    rw [o1, o2] at r21
    have T21 := T20.trans s21
    refine ⟨x, d2, _, _, rfl, T21 _ _ e2, T.ty r21, T.sf, x, xA, xB, _, rfl, R2.same T21, .inl ⟨xA, xB, .inl ⟨y, rfl, r21⟩, fun H22 s22 => ⟨_, rfl, ?_⟩⟩⟩
    rw [t2]
    refine ⟨_, rfl, iteF ?_⟩
    have T22 := T21.trans s22
    refine ⟨_, rfl, ?_⟩
    -- held %= 3
    refine ⟨_, rfl, x, d2, _, rfl, T22 _ _ e2, .inr ⟨3, rfl⟩, x, xA, xB, _, 3, 1, rfl, R2.same T22, B0, .inr ⟨rfl, rfl⟩, by decide, wA, wB, three0, one1, fun _ q23 H23 r23 s23 => ?_, fun z => absurd z (by decide)⟩
    have T23 := T22.trans s23
    refine ⟨_, rfl, _, rfl, _, rfl, x, d2, _, rfl, T23 _ _ e2, .inr ⟨3, rfl⟩, x, xA, xB, _, 3, 1, rfl, R2.same T23, B0, .inr ⟨rfl, rfl⟩, by decide, wA.b2, wB.b2, three0.b2, B2.one, fun _ H24 s24 => ?_, fun z => absurd z (by decide)⟩
    have b3 : xB * 3 ≠ 0 := by omega
    have bk : ((xA * 1).fdiv (xB * 3)).natAbs < 2 ^ 201 := fdiv_bd (by rw [Int.mul_one]; exact tA) b3
    have kb : B2 ((xA * 1).fdiv (xB * 3)) := bd_le bk (by decide)
    have k3 : B2 (3 * (xA * 1).fdiv (xB * 3)) := bd_le (bd_mul three0 bk) (by decide)
    have T24 := T23.trans s24
    refine ⟨_, _, rfl, rfl, B2.mul three0.b2 kb, x, d2, _, rfl, T24 _ _ e2, .inr ⟨_, rfl⟩, x, xA, xB, _, 3 * (xA * 1).fdiv (xB * 3), 1, rfl, R2.same T24, B0, .inr ⟨rfl, rfl⟩, by decide, wA.b2, wB.b2, k3, B2.one, fun q25 H25 r25 s25 => ?_⟩
    have es : fSub xA xB (3 * (xA * 1).fdiv (xB * 3)) 1 = xA * 1 - (xA * 1).fdiv (xB * 3) * 3 * xB := by
      unfold fSub
      generalize (xA * 1).fdiv (xB * 3) = kk
      grind
    rw [es] at r25
    generalize lowT (xA * 1 - (xA * 1).fdiv (xB * 3) * 3 * xB) (xB * 1) = n5 at r23 r25
    generalize lowB (xA * 1 - (xA * 1).fdiv (xB * 3) * 3 * xB) (xB * 1) = d5 at r23 r25
    have t5 : decide (n5 = n5 ∧ d5 = d5) = true := decide_eq_true ⟨rfl, rfl⟩
    have r23' := (r23.same s24).same s25
    obtain ⟨d23, e23⟩ := id r23'
    refine ⟨q23, d23, _, _, rfl, e23, T.ty r25, T.sf, q23, n5, d5, _, rfl, r23', .inl ⟨n5, d5, .inl ⟨q25, rfl, r25⟩, fun H26 s26 => ?_⟩⟩
    rw [t5]
    refine ⟨_, rfl, iteT ?_⟩
    have T26 := (T24.trans s25).trans s26
    refine ⟨_, rfl, _, rfl, _, rfl, fun y dy hy hdy ney => init_at (a := xA) (b := xB) (by omega) (log9 tB) hy hdy ney fun H27 r27 s27 => ?_⟩
    rw [o1, o2] at r27
    have T27 := T26.trans s27
    refine ⟨x, d2, _, _, rfl, T27 _ _ e2, T.ty r27, T.sf, x, xA, xB, _, rfl, R2.same T27, .inl ⟨xA, xB, .inl ⟨y, rfl, r27⟩, fun H28 s28 => ?_⟩⟩
    rw [t2]
    exact k _ ((S2.trans T27).trans s28)
end
end My
namespace My
open PySem PySem.Spec PyProof.Rows L2
abbrev s_law : Stmt := topS 29
theorem sc_law : FnScope ["_law_script", "_law_pen_here", "_law_turn", "_law_one", "_law_other", "_law_yours"] ["_law_script"] (defScope s_law) := ⟨rfl, rfl, rfl, by decide +kernel, rfl, by decide +kernel, by decide +kernel⟩
def spLaw (K : PySem.W.Frag) (TS : List (Addr × Str)) : Sp := fun vs H Q _ => ∃ (a : Addr) (ns : List Int), vs = [.ref a] ∧ SqL K H a (ns.map V.int) ∧ LamX.Tabs TS H ∧ ∀ (H' : Hp), Q (.bl true) H'
theorem tup_ext {l : Addr} {H H' : Hp} {xs : List V} (h : H l = some (.tup xs)) (k : LamX.ExtN H H') : H' l = some (.tup xs) := k _ _ h (by intro ps z; cases z)
theorem right_of {K : PySem.W.Frag} {C : Addr} {TS : List (Addr × Str)} {H : Hp} {Q : VK} {E : XK} {p q x : Addr} {yv : V} {a b c d : Int} (hp : H p = some (.tup [.int a, .int b])) (hq : H q = some (.tup [.int c, .int d])) (wa : Wd a) (wb : Wd b) (wc : Wd c) (wd : Wd d) (b0 : b ≠ 0) (d0 : d ≠ 0)
    (hy : NumAt C H yv (lowT a b) (lowB a b)) (hx : RatAt C H x (lowT c d) (lowB c d)) (t : LamX.Tabs TS H) (k : ∀ H', LamX.ExtN H H' → LamX.Tabs TS H' → Q (.bl true) H') : spOr (spRightK K C TS okA) (spRightK K C TS okB) [.ref p, .ref q, yv, .ref x] H Q E := by
  rcases hy with ⟨py, rfl, hy⟩ | ⟨rfl, ey⟩
  · exact .inl ⟨p, q, _, _, a, b, c, d, rfl, ⟨py, rfl⟩, hp, hq, wa, wb, wc, wd, b0, d0, .inl ⟨py, rfl, hy⟩, .inl ⟨x, rfl, hx⟩, t, k⟩
  · exact .inr ⟨p, q, _, _, a, b, c, d, rfl, ⟨_, x, rfl, rfl⟩, hp, hq, wa, wb, wc, wd, b0, d0, .inr ⟨rfl, ey⟩, .inl ⟨x, rfl, hx⟩, t, k⟩
section
variable {P : Program} {w : World} {K : PySem.W.Frag} {mg : Str → Option Value} {base : Heap} {CE C CB fB CN : Addr}
theorem ok_law {f : Addr} {fd : FuncData} {TS : List (Addr × Str)} (F : Fun K "law" "law" s_law f fd) (T : RTx P K mg C CB fB CN)
    (D_pen : DefAt P w K mg base CX0 1 "_law_pen" ["_law_script"] (spPen K)) (D_draw : DefAt P w K mg base CX0 1 "_law_draw" ["_law_pen_here", "_law_many"] spDraw) (D_pair : DefAt P w K mg base CX0 4 "_law_pair" ["_law_pen_here"] spPairL) (D_real : DefAt P w K mg base CX0 5 "_law_real" ["_law_pen_here", "_law_pair_here"] (spReal C))
    (M_Ratio : MakeAt P w K mg base (L2.CX P w) 3 "Ratio" C ["self", "top", "bottom"] (spInit C CB CN) [])
    (D_rightR : DefG P w K mg base CX0 12 "_law_right" ["_law_one", "_law_other", "_law_mine", "_law_yours"] (spOr (spRightK K C TS okA) (spRightK K C TS okB))) (D_overR : DefG P w K mg base CX0 12 "_law_over_right" ["_law_one", "_law_other", "_law_yours"] (spOverL C TS)) (D_aloneR : DefG P w K mg base CX0 9 "_law_alone_right" ["_law_pair_here"] spAlone) :
    FnG P w K mg base CX0 14 f fd ["_law_script"] (spLaw K TS) := by
  refine okG F sc_law (fun vs H Q E h => ?_) (fun cdv A outer s H vs Q E hf hgd hr h => ?_)
  · obtain ⟨a, ns, rfl, _⟩ := h
    rfl
  · obtain ⟨sc, ns, rfl, hs, ht, k⟩ := h
    refine ⟨_, (pss_cons (ps_set (i := 1) sc_law.nd rfl (Or.inl rfl) (My.pe_d D_pen (hr.mono (by decide)) (by rfl) pass0 (pa_cons (pv 0) pa_nil)))
      (pss_cons (ps_for PassesOwn.never rfl (pi_range1 rfl T.z_range (pa_cons pe_int pa_nil)) (pg_name (i := 2) sc_law.nd rfl (Or.inl rfl)) (pss_cons (ps_par (i := 3) (j := 4) (by rfl) sc_law.nd rfl rfl (by decide) rfl rfl (pa_cons (My.pe_d D_pair (hr.mono (by decide)) (by rfl) pass0 (pa_cons (pv 1) pa_nil)) (pa_cons (My.pe_d D_pair (hr.mono (by decide)) (by rfl) pass0 (pa_cons (pv 1) pa_nil)) pa_nil)) (by rfl))
      (C8.pss_cut (ps_if (pt_cmpR op_eq (My.pe_d D_draw (hr.mono (by decide)) (by rfl) pass0 (pa_cons (pv 1) (pa_cons pe_int pa_nil))) pe_int (nomark _)) (pss_one (ps_set (i := 4) sc_law.nd rfl (Or.inl rfl) (pe_tup (pa_cons pe_int (pa_cons pe_int pa_nil))))) pss_nil)
      (pss_cons (ps_set (i := 5) sc_law.nd rfl (Or.inl rfl) (My.pe_d D_real (hr.mono (by decide)) (by rfl) pass0 (pa_cons (pv 1) (pa_cons (pv 4) pa_nil))))
      (pss_cons (ps_if (pt_not (pt_val (My.pe_dG D_rightR hgd (hr.mono (by decide)) (by rfl) pass0 (pa_cons (pv 3) (pa_cons (pv 4) (pa_cons (My.pe_mk M_Ratio (hr.mono (by decide)) (by rfl) passL (pa_cons (pe_ix ix_tup (pv 3) pe_int (fun _ _ => rfl)) (pa_cons (pe_ix ix_tup (pv 3) pe_int (fun _ _ => rfl)) pa_nil))) (pa_cons (pv 5) pa_nil))))))) (pss_one (ps_ret pe_bl)) pss_nil)
      (pss_cons (ps_if (pt_not (pt_val (My.pe_dG D_rightR hgd (hr.mono (by decide)) (by rfl) pass0 (pa_cons (pv 4) (pa_cons (pv 3) (pa_cons (pv 5) (pa_cons (My.pe_mk M_Ratio (hr.mono (by decide)) (by rfl) passL (pa_cons (pe_ix ix_tup (pv 3) pe_int (fun _ _ => rfl)) (pa_cons (pe_ix ix_tup (pv 3) pe_int (fun _ _ => rfl)) pa_nil))) pa_nil))))))) (pss_one (ps_ret pe_bl)) pss_nil)
      (pss_one (ps_if (PW.pt (pw_or (pt_not (pt_val (My.pe_dG D_overR hgd (hr.mono (by decide)) (by rfl) pass0 (pa_cons (pv 3) (pa_cons (pv 4) (pa_cons (pv 5) pa_nil)))))) (pw_or1 (pt_not (pt_val (My.pe_dG D_aloneR hgd (hr.mono (by decide)) (by rfl) pass0 (pa_cons (pv 3) pa_nil))))))) (pss_one (ps_ret pe_bl)) pss_nil))))))))
      (pss_one (ps_ret pe_bl)))), ?_⟩
    refine ⟨_, rfl, sc, ns, rfl, hs, fun pn H1 h1 p1 s1 => ?_⟩
    refine ⟨10, rfl, by decide, by decide, for_range (fun i σ H' => ∃ v2 v3 v4 v5, σ = [some (.ref sc), some (.ref pn), v2, v3, v4, v5] ∧ PenAt H' pn (40 * i) ∧ LamX.Tabs TS H') ⟨none, none, none, none, rfl, p1, ht.ext s1⟩ ?_ ?_⟩
    · rintro i σ H' hi ⟨v2, v3, v4, v5, rfl, hp, htb⟩
      have hi6 : i < 10 := hi
      refine ⟨_, rfl, pn, 40 * i, rfl, hp, by omega, fun a b q1 H2 wa wb b0 nr1 hq1 p2 u2 => ?_⟩
      refine ⟨_, rfl, pn, _, rfl, p2, by omega, fun c d q2 H3 wc wd d0 nr2 hq2 p3 u3 => ⟨_, _, rfl, ?_⟩⟩
      have t3 := tabs_but (tabs_but htb hp u2) p2 u3
      have hq1' := tup_but hq1 p2 u3
      refine ⟨fun σ Hz => ∃ (q2 : Addr) (c d : Int), σ = [some (.ref sc), some (.ref pn), some (.int (0 + i)), some (.ref q1), some (.ref q2), v5] ∧ Hz q1 = some (.tup [.int a, .int b]) ∧ Hz q2 = some (.tup [.int c, .int d]) ∧ Wd c ∧ Wd d ∧ d ≠ 0 ∧ PenAt Hz pn (40 * i + 27) ∧ LamX.Tabs TS Hz, ?_, ?_⟩
      · refine ⟨_, rfl, pn, 4, _, rfl, by decide, by decide, p3, by omega, fun d4 H4 a4 b4 p4 u4 => ⟨rfl, _, rfl, ?_⟩⟩
        have t4 := tabs_but t3 p3 u4
        refine ite2 (fun g => ?_) (fun g => ?_)
        · refine ⟨(by show 2 ≤ sizeLine; decide), fun t5 h5 => ?_⟩
          exact ⟨t5, 0, 1, rfl, same_new h5 _ _ (tup_but hq1' p3 u4), upd_same, ⟨by decide, by decide⟩, ⟨by decide, by decide⟩, by decide, (pen_new p4 h5).le (by omega), t4.ext (same_new h5)⟩
        · exact ⟨q2, c, d, rfl, tup_but hq1' p3 u4, tup_but hq2 p3 u4, wc, wd, d0, p4.le (by omega), t4⟩
      · rintro σ H4 ⟨q2, c, d, rfl, g1, g2, wc, wd, d0, p4, t4⟩
        refine ⟨_, rfl, _, rfl, pn, q2, _, c, d, rfl, p4, by omega, g2, wc, wd, d0, fun yv H5 ny p5 u5 => ?_⟩
        have t5 := tabs_but t4 p4 u5
        have g1 := tup_but g1 p4 u5
        have g2 := tup_but g2 p4 u5
        -- right(one, other, Ratio(one[0], one[1]), yours)
        refine ⟨_, rfl, _, rfl, _, rfl, q1, _, _, .int a, rfl, rfl, SqT.of g1, rfl, _, rfl, q1, _, _, .int b, rfl, rfl, SqT.of g1, rfl, fun x dx hx hd ne => init_at b0 (log9 wb.abs) hx hd ne fun H6 r6 s6 => ?_⟩
        refine ⟨_, rfl, .inl ⟨q1, q2, .ref x, yv, a, b, c, d, rfl, ⟨x, rfl⟩, s6 _ _ g1, s6 _ _ g2, wa, wb, wc, wd, b0, d0, .inl ⟨x, rfl, r6⟩, ny.same s6, t5.ext s6, fun H7 x7 t7 => ⟨_, rfl, iteF ?_⟩⟩⟩
        have X7 := (ext_same s6).trans x7
        have g1 := tup_ext g1 X7
        have g2 := tup_ext g2 X7
        have ny := ny.ext X7
        have p7 := pen_ext p5 X7
        -- the other way round
        refine ⟨_, rfl, _, rfl, _, rfl, _, rfl, q1, _, _, .int a, rfl, rfl, SqT.of g1, rfl, _, rfl, q1, _, _, .int b, rfl, rfl, SqT.of g1, rfl, fun x dx hx hd ne => init_at b0 (log9 wb.abs) hx hd ne fun H8 r8 s8 => ?_⟩
        refine right_of (s8 _ _ g2) (s8 _ _ g1) wc wd wa wb d0 b0 (ny.same s8) r8 (t7.ext s8) fun H9 x9 t9 => ?_
        refine ⟨_, rfl, iteF ?_⟩
        have X9 := (ext_same s8).trans x9
        have g1 := tup_ext g1 X9
        have g2 := tup_ext g2 X9
        have ny := ny.ext X9
        have p9 := pen_ext p7 X9
        refine ⟨_, rfl, _, rfl, _, rfl, q1, q2, yv, a, b, c, d, rfl, g1, g2, wa, wb, wc, wd, b0, d0, ny, t9, fun H10 x10 t10 => ⟨_, rfl, iteF ?_⟩⟩
        refine ⟨_, rfl, q1, a, b, rfl, tup_ext g1 x10, wa, wb, b0, fun H11 s11 => ⟨_, rfl, iteF ?_⟩⟩
        exact ⟨_, _, _, _, rfl, (pen_same (pen_ext p9 x10) s11).le (by omega), t10.ext s11⟩
    · rintro σ H' ⟨v2, v3, v4, v5, rfl, hp, htb⟩
      exact k _
end
end My
namespace My
open PySem PySem.Spec PyProof.Rows L2
theorem all_mk {l : PySem.W.OpenLaw} {w : World} {K : PySem.W.Frag} {h : Heap} {mg : Str → Option Value} {fa CE C CB fB CN : Addr} {c1 t1 : Addr} {e1 : Value} {dd1 : Option Addr} {vs1 : Array Value} {sx1 : Array (Option Value)} {c2 t2 : Addr} {e2 : Value} {dd2 : Option Addr} {vs2 : Array Value} {sx2 : Array (Option Value)} (hfa : mg "law" = some (.ref fa))
    (_gR : mg "Ratio" = some (.ref C))
    (_gB : mg "BadRatio" = some (.ref CB))
    (_gN : mg "NoDivisor" = some (.ref CN))
    (_gE : mg "ClipError" = some (.ref CE))
    (_iB : PySem.W.findIn K (.ref CB) "__init__" = some (some (.ref fB)))
    (T : RTx l.prog K mg C CB fB CN)
    (mk : PySem.W.makesIn K C = true)
    (kp : PySem.W.keepIn K (.ref C) = true)
    (su : PySem.W.subIn K (.ref C) (.type "int") = some false)
    (ne0 : PySem.W.findIn K (.ref C) "__ne__" = some (some (.builtin "object.__ne__")))
    (A_init : HasD K C "__init__" "Ratio.__init__" s_init [.int 1] [])
    (A_isnum : HasS K C "is_number" "Ratio.is_number" s_isnum)
    (A_of : HasS K C "of" "Ratio.of" s_of)
    (A_whole0 : Has K mg "is_whole" s_whole0)
    (A_cd : Has K mg "common_divisor" s_cd)
    (A_partsof : Has K mg "parts_of" s_partsof)
    (A_pen : Has K mg "_law_pen" s_pen)
    (A_draw : Has K mg "_law_draw" s_draw)
    (A_pick : Has K mg "_law_pick" s_pick)
    (TH : HTx l.prog K mg CE CN)
    (B_add : BinF K C (Operator.info .Add).2)
    (R_add : RefF K C (Operator.info .Add).2)
    (N_add : InpF K C (Operator.info .Add).2)
    (B_sub : BinF K C (Operator.info .Sub).2)
    (R_sub : RefF K C (Operator.info .Sub).2)
    (N_sub : InpF K C (Operator.info .Sub).2)
    (B_mul : BinF K C (Operator.info .Mult).2)
    (R_mul : RefF K C (Operator.info .Mult).2)
    (N_mul : InpF K C (Operator.info .Mult).2)
    (B_fdv : BinF K C (Operator.info .FloorDiv).2)
    (R_fdv : RefF K C (Operator.info .FloorDiv).2)
    (N_fdv : InpF K C (Operator.info .FloorDiv).2)
    (B_mod : BinF K C (Operator.info .Mod).2)
    (R_mod : RefF K C (Operator.info .Mod).2)
    (N_mod : InpF K C (Operator.info .Mod).2)
    (A_add : HasM K C "__add__" "Ratio.__add__" s_add)
    (A_sub : HasM K C "__sub__" "Ratio.__sub__" s_sub)
    (A_mul : HasM K C "__mul__" "Ratio.__mul__" s_mul)
    (A_fdv : HasM K C "__floordiv__" "Ratio.__floordiv__" s_fdv)
    (A_mod : HasM K C "__mod__" "Ratio.__mod__" s_mod)
    (A_radd : HasM K C "__radd__" "Ratio.__radd__" s_radd)
    (A_rsub : HasM K C "__rsub__" "Ratio.__rsub__" s_rsub)
    (A_rmul : HasM K C "__rmul__" "Ratio.__rmul__" s_rmul)
    (A_rfdv : HasM K C "__rfloordiv__" "Ratio.__rfloordiv__" s_rfdv)
    (A_rmod : HasM K C "__rmod__" "Ratio.__rmod__" s_rmod)
    (A_neg : HasM K C "__neg__" "Ratio.__neg__" s_neg)
    (A_abs : HasM K C "__abs__" "Ratio.__abs__" s_abs)
    (A_eq : HasM K C "__eq__" "Ratio.__eq__" s_eq)
    (A_over : HasM K C "over" "Ratio.over" s_over)
    (A_floorof : Has K mg "floor_of" s_floorof)
    (A_heard : Has K mg "_law_heard" s_heard)
    (A_lwhole : Has K mg "_law_whole" s_lwhole)
    (A_pair : Has K mg "_law_pair" s_pair)
    (A_lowest : Has K mg "_law_lowest" s_lowest)
    (A_parts : Has K mg "_law_parts" s_parts)
    (A_real : Has K mg "_law_real" s_real)
    (A_shown : Has K mg "_law_shown" s_shown)
    (A_due : Has K mg "_law_due" s_due)
    (A_aloneR : Has K mg "_law_alone_right" s_aloneR)
    (A_law : Has K mg "law" s_law)
    (A_rightR : HasC K mg "_law_right" s_rightR c1) (_p1 : K.lookup c1 = some ⟨e1, dd1, .fields vs1, sx1⟩) (_q1 : vs1[11]? = some (.ref t1)) (T1 : TabF K h (c1, t1))
    (A_overR : HasC K mg "_law_over_right" s_overR c2) (_p2 : K.lookup c2 = some ⟨e2, dd2, .fields vs2, sx2⟩) (_q2 : vs2[11]? = some (.ref t2)) (T2 : TabF K h (c2, t2))
    (_n1_2 : ¬ t1 = t2)
    : LawG l w K 14 63 "_law_script" mg fa h := by
  obtain ⟨fl, fdl, hl, Fl⟩ := A_law.ex
  have e := hfa.symm.trans hl
  cases e
  obtain ⟨f_1, oc_1, od_1, kV_1, dc_1, pm_1, an_1, ct_1, sl_1, m_1, l_1, d_1, k_1⟩ := A_rightR.ex
  obtain ⟨f_2, oc_2, od_2, kV_2, dc_2, pm_2, an_2, ct_2, sl_2, m_2, l_2, d_2, k_2⟩ := A_overR.ex
  obtain ⟨fh, fdh, hh, Fh⟩ := A_heard.ex
  refine ⟨fdl, [(c1, t1), (c2, t2)], spLaw K [(t1, (("_law_right" : Str) ++ ".<locals>.") ++ "<lambda>"), (t2, (("_law_over_right" : Str) ++ ".<locals>.") ++ "<lambda>")], fun p hp => ?_, fun s u => ?_, fun H a ns hn hb ht hs => ?_, fun base hK hN hT => ?_⟩
  · simp only [List.mem_cons, List.mem_nil_iff, or_false] at hp
    rcases hp with rfl | rfl
    · exact T1
    · exact T2
  · obtain ⟨oc, od, kV, doc, pm, an, cdv, ct, osl, rfl, _⟩ := Fl.ex
    exact .of_eq rfl
  · refine ⟨a, ns, rfl, hs, fun p hp => ?_, fun _ => rfl⟩
    simp only [List.mem_cons, List.mem_nil_iff, or_false] at hp
    rcases hp with rfl | rfl
    · exact LamX.TabS.nil (ht (c1, t1) (.head _))
    · exact LamX.TabS.nil (ht (c2, t2) (.tail _ (.head _)))
  · have TB1 := hT (c1, t1) (.head _)
    have TB2 := hT (c2, t2) (.tail _ (.head _))
    have D_whole0 : DefAt l.prog w K mg base CX0 1 "is_whole" ["value"] (spWhole0 C) := def_at A_whole0 (fun f fd F => ok_whole0 F T) fun _ _ _ _ _ _ us hl => match us, hl with | [_], _ => rfl
    have D_cd : DefAt l.prog w K mg base CX0 1 "common_divisor" ["one", "other"] spCd := def_at A_cd (fun f fd F => ok_cd F T.toBI) fun _ _ _ _ _ _ us hl => match us, hl with | [_, _], _ => rfl
    have D_partsof : DefAt l.prog w K mg base CX0 1 "parts_of" ["number"] (spParts0 C) := def_at A_partsof (fun f fd F => ok_partsof F T) fun _ _ _ _ _ _ us hl => match us, hl with | [_], _ => rfl
    have D_pen : DefAt l.prog w K mg base CX0 1 "_law_pen" ["_law_script"] (spPen K) := def_at A_pen (fun f fd F => ok_pen F T.toBI) fun _ _ _ _ _ _ us hl => match us, hl with | [_], _ => rfl
    have D_draw : DefAt l.prog w K mg base CX0 1 "_law_draw" ["_law_pen_here", "_law_many"] spDraw := def_at A_draw (fun f fd F => ok_draw F T.toBI) fun _ _ _ _ _ _ us hl => match us, hl with | [_, _], _ => rfl
    have D_pick : DefAt l.prog w K mg base CX0 2 "_law_pick" ["_law_pen_here", "_law_some"] spPick := def_at A_pick (fun f fd F => ok_pick F T.toBI D_draw) fun _ _ _ _ _ _ us hl => match us, hl with | [_, _], _ => rfl
    have M_Ratio : MakeAt l.prog w K mg base (L2.CX l.prog w) 3 "Ratio" C ["self", "top", "bottom"] (spInit C CB CN) [] := make_all A_init T.gR mk kp (fun f fd F => ok_init F T D_whole0 D_cd) (by simp) fun _ _ _ _ _ _ _ us its hl hi => match us, hl, its, hi with | [_, _, _], _, [_], _ => ⟨_, rfl, rfl⟩
    have M_Ratio1 : MakeAt l.prog w K mg base (L2.CX l.prog w) 3 "Ratio" C ["self", "top", "bottom"] (spInit C CB CN) [.int 1] := make_dfl (n := 2) A_init T.gR mk kp (fun f fd F => ok_init F T D_whole0 D_cd) (by simp) rfl fun _ _ _ _ _ _ _ us its hl hi => match us, hl, its, hi with | [_, _], _, [_], _ => ⟨_, rfl, rfl⟩
    have S_is_number : StatAt l.prog w K mg base CX0 2 C "is_number" ["thing"] (spIsnum C) := stat_at A_isnum (fun f fd F => ok_isnum F T D_whole0) fun _ _ _ _ _ _ us hl => match us, hl with | [_], _ => rfl
    have S_of : StatAt l.prog w K mg base (L2.CX l.prog w) 5 C "of" ["number"] (spOf C CB) := stat_at A_of (fun f fd F => ok_of F T S_is_number D_partsof M_Ratio) fun _ _ _ _ _ _ us hl => match us, hl with | [_], _ => rfl
    have D_floorof : DefAt l.prog w K mg base (L2.CX l.prog w) 1 "floor_of" ["top", "bottom"] (spFloor CN) := def_at A_floorof (fun f fd F => ok_floorof F T) fun _ _ _ _ _ _ us hl => match us, hl with | [_, _], _ => rfl
    have CE_eq : CmpAt l.prog w K mg base CX0 3 C "__eq__" ["self", "other"] (spEqR C) := cmp_at A_eq (fun f fd F => ok_eq F T S_is_number D_partsof) fun _ _ _ _ _ _ us hl => match us, hl with | [_, _], _ => rfl
    have O_add : CmpAt l.prog w K mg base CX0 5 C "__add__" ["self", "other"] (spBin C fAdd) := cmp_at A_add (fun f fd F => ok_add F T S_is_number D_partsof M_Ratio) fun _ _ _ _ _ _ us hl => match us, hl with | [_, _], _ => rfl
    have O_sub : CmpAt l.prog w K mg base CX0 5 C "__sub__" ["self", "other"] (spBin C fSub) := cmp_at A_sub (fun f fd F => ok_sub F T S_is_number D_partsof M_Ratio) fun _ _ _ _ _ _ us hl => match us, hl with | [_, _], _ => rfl
    have O_mul : CmpAt l.prog w K mg base CX0 5 C "__mul__" ["self", "other"] (spBin C fMul) := cmp_at A_mul (fun f fd F => ok_mul F T S_is_number D_partsof M_Ratio) fun _ _ _ _ _ _ us hl => match us, hl with | [_, _], _ => rfl
    have O_neg : CmpAt l.prog w K mg base CX0 5 C "__neg__" ["self"] (spNeg C) := cmp_at A_neg (fun f fd F => ok_neg F T M_Ratio) fun _ _ _ _ _ _ us hl => match us, hl with | [_], _ => rfl
    have O_abs : CmpAt l.prog w K mg base CX0 5 C "__abs__" ["self"] (spAbs C) := cmp_at A_abs (fun f fd F => ok_abs F T M_Ratio) fun _ _ _ _ _ _ us hl => match us, hl with | [_], _ => rfl
    have O_radd : CmpAt l.prog w K mg base CX0 6 C "__radd__" ["self", "other"] (spBin C fAdd) := cmp_at A_radd (fun f fd F => ok_radd F T O_add B_add) fun _ _ _ _ _ _ us hl => match us, hl with | [_, _], _ => rfl
    have O_rmul : CmpAt l.prog w K mg base CX0 6 C "__rmul__" ["self", "other"] (spBin C fMul) := cmp_at A_rmul (fun f fd F => ok_rmul F T O_mul B_mul) fun _ _ _ _ _ _ us hl => match us, hl with | [_, _], _ => rfl
    have O_rsub : CmpAt l.prog w K mg base CX0 6 C "__rsub__" ["self", "other"] (spRsub C) := cmp_at A_rsub (fun f fd F => ok_rsub F T O_neg O_add B_add) fun _ _ _ _ _ _ us hl => match us, hl with | [_, _], _ => rfl
    have O_fdv : CmpAt l.prog w K mg base (L2.CX l.prog w) 3 C "__floordiv__" ["self", "other"] (spFdv C CN) := cmp_at A_fdv (fun f fd F => ok_fdv F T S_is_number D_partsof D_floorof) fun _ _ _ _ _ _ us hl => match us, hl with | [_, _], _ => rfl
    have O_rfdv : CmpAt l.prog w K mg base (L2.CX l.prog w) 3 C "__rfloordiv__" ["self", "other"] (spRfdv C CN) := cmp_at A_rfdv (fun f fd F => ok_rfdv F T S_is_number D_partsof D_floorof) fun _ _ _ _ _ _ us hl => match us, hl with | [_, _], _ => rfl
    have O_mod : CmpAt l.prog w K mg base (L2.CX l.prog w) 7 C "__mod__" ["self", "other"] (spMod C CN) := cmp_at A_mod (fun f fd F => ok_mod (ok_modR F T O_sub O_fdv O_rmul B_sub B_fdv R_mul) (ok_modI F T O_sub O_fdv O_rmul B_sub B_fdv R_mul)) fun _ _ _ _ _ _ us hl => match us, hl with | [_, _], _ => rfl
    have O_rmod : CmpAt l.prog w K mg base (L2.CX l.prog w) 7 C "__rmod__" ["self", "other"] (spRmod C CN) := cmp_at A_rmod (fun f fd F => ok_rmod F T O_rsub O_rfdv O_rmul R_sub R_fdv R_mul) fun _ _ _ _ _ _ us hl => match us, hl with | [_, _], _ => rfl
    have X_over : MethAt l.prog w K mg base (L2.CX l.prog w) 5 C "over" ["self", "number"] (spOver C CN) := meth_at A_over (fun f fd F => ok_over F T D_partsof M_Ratio) fun _ _ _ _ _ _ us hl => match us, hl with | [_, _], _ => rfl
    have D_lwhole : DefAt l.prog w K mg base CX0 3 "_law_whole" ["_law_pen_here"] spWholeL := def_at A_lwhole (fun f fd F => ok_lwhole F T.toBI D_draw D_pick) fun _ _ _ _ _ _ us hl => match us, hl with | [_], _ => rfl
    have D_pair : DefAt l.prog w K mg base CX0 4 "_law_pair" ["_law_pen_here"] spPairL := def_at A_pair (fun f fd F => ok_pair F T.toBI D_draw D_lwhole) fun _ _ _ _ _ _ us hl => match us, hl with | [_], _ => rfl
    have D_lowest : DefAt l.prog w K mg base CX0 1 "_law_lowest" ["_law_top", "_law_bottom"] spLowest := def_at A_lowest (fun f fd F => ok_lowest F T.toBI) fun _ _ _ _ _ _ us hl => match us, hl with | [_, _], _ => rfl
    have D_parts : DefG l.prog w K mg base CX0 1 "_law_parts" ["_law_ratio"] (spPartsL C) := def_atG A_parts (fun f fd F => ok_parts F T) fun _ _ _ _ _ _ us hl => match us, hl with | [_], _ => rfl
    have D_real : DefAt l.prog w K mg base CX0 5 "_law_real" ["_law_pen_here", "_law_pair_here"] (spReal C) := def_at A_real (fun f fd F => ok_real F T D_draw D_lowest M_Ratio) fun _ _ _ _ _ _ us hl => match us, hl with | [_, _], _ => rfl
    have D_shown : DefG l.prog w K mg base CX0 2 "_law_shown" ["_law_heard_here"] (spShown C) := def_atG A_shown (fun f fd F => ok_shown F T D_parts) fun _ _ _ _ _ _ us hl => match us, hl with | [_], _ => rfl
    have D_due : DefG l.prog w K mg base CX0 2 "_law_due" ["_law_one", "_law_other"] (spDue K) := def_atG A_due (fun f fd F => ok_due F T D_lowest) fun _ _ _ _ _ _ us hl => match us, hl with | [_, _], _ => rfl
    have D_aloneR : DefG l.prog w K mg base CX0 9 "_law_alone_right" ["_law_pair_here"] spAlone := def_atG A_aloneR (fun f fd F => ok_aloneR F T ne0 D_lowest D_parts M_Ratio CE_eq O_neg O_abs O_add O_sub O_mul O_fdv O_mod B_add B_sub B_mul B_fdv B_mod N_add N_sub N_mul N_fdv N_mod) fun _ _ _ _ _ _ us hl => match us, hl with | [_], _ => rfl
    have DH : HeardAt K mg := ⟨⟨fh, fdh, Fh, hh, Fh.binds fun _ _ _ _ _ _ us hl => match us, hl with | [_], _ => rfl⟩⟩
    have un1 : ∀ p ∈ [(t1, (("_law_right" : Str) ++ ".<locals>.") ++ "<lambda>"), (t2, (("_law_over_right" : Str) ++ ".<locals>.") ++ "<lambda>")], p.1 = t1 → p.2 = (("_law_right" : Str) ++ ".<locals>.") ++ "<lambda>" := by
      intro p hp e
      simp only [List.mem_cons, List.mem_nil_iff, or_false] at hp
      rcases hp with rfl | rfl
      · exact rfl
      · exact absurd e (Ne.symm _n1_2)
    have D_rightR : DefG l.prog w K mg base CX0 12 "_law_right" ["_law_one", "_law_other", "_law_mine", "_law_yours"] (spOr (spRightK K C [(t1, (("_law_right" : Str) ++ ".<locals>.") ++ "<lambda>"), (t2, (("_law_over_right" : Str) ++ ".<locals>.") ++ "<lambda>")] okA) (spRightK K C [(t1, (("_law_right" : Str) ++ ".<locals>.") ++ "<lambda>"), (t2, (("_law_over_right" : Str) ++ ".<locals>.") ++ "<lambda>")] okB)) := ⟨f_1, _, okG_or (ok_rightA ⟨⟨oc_1, od_1, kV_1, dc_1, pm_1, an_1, ct_1, sl_1, rfl, l_1, d_1⟩, k_1⟩ T TH DH TB1 (.head _) un1 D_shown D_due O_add O_sub O_mul O_fdv O_mod B_add B_sub B_mul B_fdv B_mod) (ok_rightB ⟨⟨oc_1, od_1, kV_1, dc_1, pm_1, an_1, ct_1, sl_1, rfl, l_1, d_1⟩, k_1⟩ T TH DH TB1 (.head _) un1 D_shown D_due O_radd O_rsub O_rmul O_rfdv O_rmod R_add R_sub R_mul R_fdv R_mod), m_1, k_1, .all fun us hl => match us, hl with | [_, _, _, _], _ => rfl⟩
    have un2 : ∀ p ∈ [(t1, (("_law_right" : Str) ++ ".<locals>.") ++ "<lambda>"), (t2, (("_law_over_right" : Str) ++ ".<locals>.") ++ "<lambda>")], p.1 = t2 → p.2 = (("_law_over_right" : Str) ++ ".<locals>.") ++ "<lambda>" := by
      intro p hp e
      simp only [List.mem_cons, List.mem_nil_iff, or_false] at hp
      rcases hp with rfl | rfl
      · exact absurd e _n1_2
      · exact rfl
    have D_overR : DefG l.prog w K mg base CX0 12 "_law_over_right" ["_law_one", "_law_other", "_law_yours"] (spOverL C [(t1, (("_law_right" : Str) ++ ".<locals>.") ++ "<lambda>"), (t2, (("_law_over_right" : Str) ++ ".<locals>.") ++ "<lambda>")]) := ⟨f_2, _, ok_overR ⟨⟨oc_2, od_2, kV_2, dc_2, pm_2, an_2, ct_2, sl_2, rfl, l_2, d_2⟩, k_2⟩ T TH DH TB2 (.tail _ (.head _)) un2 D_shown D_lowest M_Ratio X_over, m_2, k_2, .all fun us hl => match us, hl with | [_, _, _], _ => rfl⟩
    exact ok_law Fl T D_pen D_draw D_pair D_real M_Ratio D_rightR D_overR D_aloneR
end My
open PySem PySem.W PyProof.Rows
set_option maxRecDepth 100000 in
set_option maxHeartbeats 0 in
theorem PySem.Challenge.cw_clipfades_k03_ratios_reckoned_holds : PySem.Challenge.rw_clipfades_k03_ratios_reckoned.Holds := by
  w_on; o_law; k_head; (case hw => w_witness2)
  k_fill
  refine My.walk_G (l := PySem.Challenge.rw_clipfades_k03_ratios_reckoned) (n := 63) (k := 14) (x := "_law_script") rfl (by decide) rfl ⟨rfl, by decide, by decide⟩ (fun w h Y => by first | exact PySem.W.km_in_of Y | exact PySem.W.kIn_of Y) ?F
  case F =>
    intro w mg fa h Y KX G hmg tf
    have bi : My.BI mg := ⟨mg_none_of KX G (by k_is), mg_none_of KX G (by k_is), mg_none_of KX G (by k_is), mg_none_of KX G (by k_is), mg_none_of KX G (by k_is), mg_none_of KX G (by k_is), mg_none_of KX G (by k_is), mg_none_of KX G (by k_is)⟩
    refine' My.all_mk hmg ?gR ?gB ?gN ?gE ?iB ?T ?mk ?kp ?su ?ne0 ?A_init ?A_isnum ?A_of ?A_whole0 ?A_cd ?A_partsof ?A_pen ?A_draw ?A_pick ?TH ?B_add ?R_add ?N_add ?B_sub ?R_sub ?N_sub ?B_mul ?R_mul ?N_mul ?B_fdv ?R_fdv ?N_fdv ?B_mod ?R_mod ?N_mod ?A_add ?A_sub ?A_mul ?A_fdv ?A_mod ?A_radd ?A_rsub ?A_rmul ?A_rfdv ?A_rmod ?A_neg ?A_abs ?A_eq ?A_over ?A_floorof ?A_heard ?A_lwhole ?A_pair ?A_lowest ?A_parts ?A_real ?A_shown ?A_due ?A_aloneR ?A_law ?A_rightR ?p1 ?q1 ?T1 ?A_overR ?p2 ?q2 ?T2 ?n1_2
    case gR => exact mg_of KX G (by k_is)
    case gB => exact mg_of KX G (by k_is)
    case gN => exact mg_of KX G (by k_is)
    case gE => exact mg_of KX G (by k_is)
    case iB => k_is
    case T => exact ⟨bi, ⟨by k_is, by k_is, by k_is, by k_is⟩, show PySem.W.findIn _ (.ref _) "top" = some none by k_is, show PySem.W.findIn _ (.ref _) "bottom" = some none by k_is, mg_of KX G (by k_is), by k_is, by k_is, by k_is, by k_is, by kernel_rfl,
      ⟨mg_of KX G (by k_is), ⟨⟨_, _, _, _, _, _, _, _, _, _, _, _, _, _, _, by k_is, by decide⟩, by k_is, by k_is, by k_is, by k_is⟩, ⟨by k_is, by k_is, by k_is, by k_is⟩, by k_is, My.nm_part, by k_is, by k_is,
      ⟨_, _, _, _, _, _, _, _, _, _, _, _, _, _, _, _, _, _, _, _, _, _, by k_is, by k_is, ⟨_, _, _, by k_is⟩, _, _, _, _, _, _, by k_is, rfl, by decide +kernel, rfl⟩, by ks_is, by k_is, by k_is, mg_none_of KX G (by k_is), by k_is, by decide +kernel⟩, ⟨mg_of KX G (by k_is), by k_exc, by k_is, by k_is, by k_is⟩, mg_none_of KX G (by k_is), mg_none_of KX G (by k_is), mg_none_of KX G (by k_is), by kernel_rfl, My.kinds7 (by kernel_rfl) (by k_is) (by kernel_rfl) (by k_is) (by kernel_rfl) (by k_is) (by kernel_rfl) (by k_is) (by kernel_rfl) (by k_is) (by kernel_rfl) (by k_is) (by kernel_rfl) (by k_is), by k_is⟩
    case mk => k_is
    case kp => k_is
    case su => k_is
    case ne0 => k_is
    case A_init => exact ⟨_, _, by k_is, by k_is, ⟨_, _, _, _, _, _, _, _, _, _, rfl, by k_is, by k_is, .inr ⟨by simp, _, _, [.int 1 _], _, rfl, by k_is, rfl, .cons ⟨_, rfl⟩ .nil⟩, .inl rfl⟩, by k_is⟩
    case A_isnum => exact ⟨_, _, ⟨by k_is, ⟨.type "type", _, _, by k_is, by k_is, by k_is⟩, by k_is⟩, L2.fun_mk (by k_is) (by k_is) (by k_is)⟩
    case A_of => exact ⟨_, _, ⟨by k_is, ⟨.type "type", _, _, by k_is, by k_is, by k_is⟩, by k_is⟩, L2.fun_mk (by k_is) (by k_is) (by k_is)⟩
    case A_whole0 => exact ⟨_, _, mg_of KX G (by k_is), L2.fun_mk (by k_is) (by k_is) (by k_is)⟩
    case A_cd => exact ⟨_, _, mg_of KX G (by k_is), L2.fun_mk (by k_is) (by k_is) (by k_is)⟩
    case A_partsof => exact ⟨_, _, mg_of KX G (by k_is), L2.fun_mk (by k_is) (by k_is) (by k_is)⟩
    case A_pen => exact ⟨_, _, mg_of KX G (by k_is), L2.fun_mk (by k_is) (by k_is) (by k_is)⟩
    case A_draw => exact ⟨_, _, mg_of KX G (by k_is), L2.fun_mk (by k_is) (by k_is) (by k_is)⟩
    case A_pick => exact ⟨_, _, mg_of KX G (by k_is), L2.fun_mk (by k_is) (by k_is) (by k_is)⟩
    case TH => exact ⟨bi, mg_of KX G (by k_is), ⟨mg_of KX G (by k_is), by k_exc, by k_is, by k_is, by k_is⟩, by kernel_rfl⟩
    case B_add => exact ⟨by k_is, ⟨_, by k_is, .inr ⟨_, rfl⟩⟩, ⟨_, by k_is⟩, ⟨_, by k_is⟩, by k_is⟩
    case R_add => exact ⟨by k_is, ⟨_, by k_is⟩, ⟨_, _, by k_is, by k_is, by decide +kernel⟩, by k_is⟩
    case N_add => exact ⟨⟨_, by k_is, rfl⟩, by k_is, by k_is⟩
    case B_sub => exact ⟨by k_is, ⟨_, by k_is, .inr ⟨_, rfl⟩⟩, ⟨_, by k_is⟩, ⟨_, by k_is⟩, by k_is⟩
    case R_sub => exact ⟨by k_is, ⟨_, by k_is⟩, ⟨_, _, by k_is, by k_is, by decide +kernel⟩, by k_is⟩
    case N_sub => exact ⟨⟨_, by k_is, rfl⟩, by k_is, by k_is⟩
    case B_mul => exact ⟨by k_is, ⟨_, by k_is, .inr ⟨_, rfl⟩⟩, ⟨_, by k_is⟩, ⟨_, by k_is⟩, by k_is⟩
    case R_mul => exact ⟨by k_is, ⟨_, by k_is⟩, ⟨_, _, by k_is, by k_is, by decide +kernel⟩, by k_is⟩
    case N_mul => exact ⟨⟨_, by k_is, rfl⟩, by k_is, by k_is⟩
    case B_fdv => exact ⟨by k_is, ⟨_, by k_is, .inr ⟨_, rfl⟩⟩, ⟨_, by k_is⟩, ⟨_, by k_is⟩, by k_is⟩
    case R_fdv => exact ⟨by k_is, ⟨_, by k_is⟩, ⟨_, _, by k_is, by k_is, by decide +kernel⟩, by k_is⟩
    case N_fdv => exact ⟨⟨_, by k_is, rfl⟩, by k_is, by k_is⟩
    case B_mod => exact ⟨by k_is, ⟨_, by k_is, .inr ⟨_, rfl⟩⟩, ⟨_, by k_is⟩, ⟨_, by k_is⟩, by k_is⟩
    case R_mod => exact ⟨by k_is, ⟨_, by k_is⟩, ⟨_, _, by k_is, by k_is, by decide +kernel⟩, by k_is⟩
    case N_mod => exact ⟨⟨_, by k_is, rfl⟩, by k_is, by k_is⟩
    case A_add => exact ⟨_, _, by k_is, by k_is, L2.fun_mk (by k_is) (by k_is) (by k_is)⟩
    case A_sub => exact ⟨_, _, by k_is, by k_is, L2.fun_mk (by k_is) (by k_is) (by k_is)⟩
    case A_mul => exact ⟨_, _, by k_is, by k_is, L2.fun_mk (by k_is) (by k_is) (by k_is)⟩
    case A_fdv => exact ⟨_, _, by k_is, by k_is, L2.fun_mk (by k_is) (by k_is) (by k_is)⟩
    case A_mod => exact ⟨_, _, by k_is, by k_is, L2.fun_mk (by k_is) (by k_is) (by k_is)⟩
    case A_radd => exact ⟨_, _, by k_is, by k_is, L2.fun_mk (by k_is) (by k_is) (by k_is)⟩
    case A_rsub => exact ⟨_, _, by k_is, by k_is, L2.fun_mk (by k_is) (by k_is) (by k_is)⟩
    case A_rmul => exact ⟨_, _, by k_is, by k_is, L2.fun_mk (by k_is) (by k_is) (by k_is)⟩
    case A_rfdv => exact ⟨_, _, by k_is, by k_is, L2.fun_mk (by k_is) (by k_is) (by k_is)⟩
    case A_rmod => exact ⟨_, _, by k_is, by k_is, L2.fun_mk (by k_is) (by k_is) (by k_is)⟩
    case A_neg => exact ⟨_, _, by k_is, by k_is, L2.fun_mk (by k_is) (by k_is) (by k_is)⟩
    case A_abs => exact ⟨_, _, by k_is, by k_is, L2.fun_mk (by k_is) (by k_is) (by k_is)⟩
    case A_eq => exact ⟨_, _, by k_is, by k_is, L2.fun_mk (by k_is) (by k_is) (by k_is)⟩
    case A_over => exact ⟨_, _, by k_is, by k_is, L2.fun_mk (by k_is) (by k_is) (by k_is)⟩
    case A_floorof => exact ⟨_, _, mg_of KX G (by k_is), L2.fun_mk (by k_is) (by k_is) (by k_is)⟩
    case A_heard => exact ⟨_, _, mg_of KX G (by k_is), L2.fun_mk (by k_is) (by k_is) (by k_is)⟩
    case A_lwhole => exact ⟨_, _, mg_of KX G (by k_is), L2.fun_mk (by k_is) (by k_is) (by k_is)⟩
    case A_pair => exact ⟨_, _, mg_of KX G (by k_is), L2.fun_mk (by k_is) (by k_is) (by k_is)⟩
    case A_lowest => exact ⟨_, _, mg_of KX G (by k_is), L2.fun_mk (by k_is) (by k_is) (by k_is)⟩
    case A_parts => exact ⟨_, _, mg_of KX G (by k_is), L2.fun_mk (by k_is) (by k_is) (by k_is)⟩
    case A_real => exact ⟨_, _, mg_of KX G (by k_is), L2.fun_mk (by k_is) (by k_is) (by k_is)⟩
    case A_shown => exact ⟨_, _, mg_of KX G (by k_is), L2.fun_mk (by k_is) (by k_is) (by k_is)⟩
    case A_due => exact ⟨_, _, mg_of KX G (by k_is), L2.fun_mk (by k_is) (by k_is) (by k_is)⟩
    case A_aloneR => exact ⟨_, _, mg_of KX G (by k_is), L2.fun_mk (by k_is) (by k_is) (by k_is)⟩
    case A_law => exact ⟨_, _, mg_of KX G (by k_is), L2.fun_mk (by k_is) (by k_is) (by k_is)⟩
    case A_rightR => exact ⟨_, _, _, _, _, _, _, _, _, mg_of KX G (by k_is), by k_is, by k_is, by k_is⟩
    (case p1 => k_is); (case q1 => rfl)
    case T1 => exact tf "_law_right" _ _ (by decide +kernel) (by kernel_rfl) (by kernel_rfl)
    case A_overR => exact ⟨_, _, _, _, _, _, _, _, _, mg_of KX G (by k_is), by k_is, by k_is, by k_is⟩
    (case p2 => k_is); (case q2 => rfl)
    case T2 => exact tf "_law_over_right" _ _ (by decide +kernel) (by kernel_rfl) (by kernel_rfl)
    case n1_2 => decide
