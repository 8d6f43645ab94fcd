import PyProof.Rows.All
import Wide.All
import OpenK.AllK
import Wide.FinOn
import HandS.ForExc
import HandS.ExcInit
import HandS.ExcField
import KE.KExcSuper
import HandS.ForMost
import HandS.Lambda
import HandS.IsInst
import KE.KExcIs
import PyProof.Rows.NestShow
import HandS.Wide
import HandS.Star
import HandS.Defaults
import PyProof.ListMulRight
import KE.KOpsOwn
import KE.KCallOwn
import KE.KFmtOwn
import PyProof.InstNe
import HandS.EndTab
import HandS.ClsMeth
import HandS.TupLe
import HandS.MakeKwOnly
import HandS.Codes
import HandS.FStr
import HandS.RaiseMore
import HandS.Dict
import HandS.Comp
import PyProof.ReprLen
import HandS.MakeKw
import PySem.Challenge.RW_clipfades_k15_lines_reckoned
set_option Elab.async false
set_option linter.all false
set_option maxRecDepth 100000
set_option maxHeartbeats 4000000
/-! An own error class E(Base(ValueError)) whose __init__ says super().__init__(f) and self.f = f. -/
namespace Sup
open PySem PySem.W PySem.Calls PyProof.Rows PySem.HandSPX
def a1 (f : Str) (p1 p2 : Pos) : Arguments :=
  { posonlyargs := [], args := [{ arg := "self", annotation := none, pos := p1 }, { arg := f, annotation := none, pos := p2 }], vararg := none, kwonlyargs := [], kw_defaults := [], kwarg := none, defaults := [] }
def b1 (f : Str) (q1 q2 q3 q4 q5 q6 r1 r2 r3 r4 : Pos) : List Stmt :=
  [.Expr (.Call (.Attribute (.Call (.Name "super" q1) [] [] q2) "__init__" q3) [.Name f q4] [] q5) q6, .Assign [.Attribute (.Name "self" r1) f r2] (.Name f r3) r4]
def s1 (f : Str) : Scope :=
  { kind := .function, names := [(PySem.Str.ofString "self", .local), (f, .local), (PySem.Str.ofString "__class__", .free), (PySem.Str.ofString "super", .globalImplicit)], isGenerator := false, isCoroutine := false, more := [] }
/-- the field's name is no other name of the text -/
structure Nm (f : Str) : Prop where
  n1 : (f == ("self" : Str)) = false
  n2 : (("__class__" : Str) == f) = false
  n3 : (("super" : Str) == f) = false
  n4 : (f == ("__debug__" : Str)) = false
  bd : ∀ (qual : Str) (body : List Stmt) (doc pm : Value) (an : Option Addr) (cdv ct : Value) (cc : Addr) (p1 p2 : Pos) (a b : Value),
    bindArgs (ksFn "__init__" qual (a1 f p1 p2) body (s1 f) .none .none doc pm an cdv ct cc) ⟨[a, b], []⟩ = pure [(("self" : Str), a), (f, b)]
/-- what the top has written of the class x, at C, and of its __init__, at fI -/
structure Err1 (prog : Program) (K : Frag) (mg : Str → Option Value) (x f : Str) (C fI : Addr) : Prop where
  gC : mg x = some (.ref C)
  ox : L2.OexC K C
  rd : L2.XfC K C
  nf : findIn K (.ref C) f = some none
  nm : Nm f
  iC : findIn K (.ref C) "__init__" = some (some (.ref fI))
  tI : typeIn K (.ref fI) = some (.type "function")
  fn : ∃ (qual : Str) (oc : Value) (od : Option Addr) (doc pm : Value) (an : Option Addr) (cda : Addr) (ct : Value) (cc : Addr) (osl : Array (Option Value)) (p1 p2 q1 q2 q3 q4 q5 q6 r1 r2 r3 r4 : Pos),
    K.lookup fI = some ⟨oc, od, .func (ksFn "__init__" qual (a1 f p1 p2) (b1 f q1 q2 q3 q4 q5 q6 r1 r2 r3 r4) (s1 f) .none .none doc pm an (.ref cda) ct cc), osl⟩ ∧ codeIn K (.ref cda) qual = true ∧
    (∃ cl cld csl, K.lookup cc = some ⟨cl, cld, .cell (some (.ref C)), csl⟩) ∧ ∃ ccl cdd vs ccs file tf, K.lookup cda = some ⟨ccl, cdd, .fields vs, ccs⟩ ∧ vs[2]? = some (.str file tf) ∧ ((prog.main.file : Str) == file) = true ∧ (q3.endLine == q5.line) = true
  su : ks_superIn K C C "__init__" = some (some (.builtin "ValueError.__init__"))
  sV : subIn K (.ref C) (.type "ValueError") = some true
  sC : mroIn K C (.ref C) = some true
  gS : mg "super" = none
  oq : nsIn K cStatics "thirdparty.any" = some none
  top : (prog.main.scope.names.lookup ("super" : Str)).isSome = false
/-- what __init__ leaves of a fresh exception at x -/
structure End1 (h h' : Heap) (f : Str) (x C dx t1 : Addr) (v : Value) : Prop where
  keep : ∀ b o, b ≠ x → h.get? b = some o → h'.get? b = some o
  obj : h'.get? x = some { cls := .ref C, dict := some dx, data := .fields #[.ref t1, .none, .none, .none, .bool false, .none] }
  dbig : h.objs.size ≤ dx
  dne : dx ≠ x
  ns : h'.Ns1 dx (fun y => if y = f then some v else none)
theorem lk2 {f : Str} (N : Nm f) : (s1 f).names.lookup f = some .local := by
  simp only [s1, List.lookup, N.n1, beq_self_eq_true]
theorem lk3 {f : Str} (N : Nm f) : (s1 f).names.lookup ("__class__" : Str) = some .free := by
  have e : (("__class__" : Str) == ("self" : Str)) = false := by decide +kernel
  have e2 : (("__class__" : Str) == ("__class__" : Str)) = true := by decide +kernel
  simp only [s1, List.lookup, N.n2, e, e2]
theorem lk4 {f : Str} (N : Nm f) : (s1 f).names.lookup ("super" : Str) = some .globalImplicit := by
  have e : (("super" : Str) == ("self" : Str)) = false := by decide +kernel
  have e2 : (("super" : Str) == ("__class__" : Str)) = false := by decide +kernel
  have e3 : (("super" : Str) == ("super" : Str)) = true := by decide +kernel
  simp only [s1, List.lookup, N.n3, e, e2, e3]
theorem meth_eq {o : Expr} {name f : Str} {q3 q4 q5 : Pos} {env : Env} (hp : (q3.endLine == q5.line) = true) :
    eval (.Call (.Attribute o name q3) [.Name f q4] [] q5) env = (do
      let ov ← attributeBase o name env (eval o env)
      standAt q3.atName
      let (g, first) ← holding [ov] (getMethod ov name (do return (← importBound o env).getD true))
      callWith q5 g first (backTo q5 (starEach [.Name f q4] env)) []) := by
  rw [arm_eval_Call]
  have hf : methodCallForm ([Expr.Name f q4].length + ([] : List Keyword).length) (backTo q5 (starEach [.Name f q4] env)) (backToKw q5 (keywordEach [] env)) = true := rfl
  have e : ∀ ov, methodCall o name q3 q5 env ov ([Expr.Name f q4].length + ([] : List Keyword).length) (backTo q5 (starEach [.Name f q4] env)) (backToKw q5 (keywordEach [] env)) = (do
      let (g, first) ← holding [ov] (getMethod ov name (do return (← importBound o env).getD true))
      callWith q5 g first (backTo q5 (starEach [.Name f q4] env)) []) := fun ov => by
    unfold methodCall
    rw [hf]
    unfold calleeOf methodCallPos
    simp only [hp, Bool.not_true, Bool.false_or, if_true]
    rfl
  simp only [e]
section
variable {prog : Program} {w : World} {A : Around} {E : Value → Shared → Prop} {R : Result → Shared → Prop} {s : Shared} {K : Frag} {mg : Str → Option Value} {x f : Str} {C fI : Addr}
/-- the bound ValueError.__init__ called -/
theorem call_mw {h : Heap} {g : Array GenState} {d : Drawn} {t : Nat} {os : OsState} {u e t0 : Addr} {rest : List Value} {Q : Value → Shared → Prop} {nm q : Str} {N : Addr} {bs bm : List Value} {hdct : Bool} {sn : List Str} {sub : List Value} {ab : Bool} {col : Option Bool} {dd : Option Addr} {k0 k1 k2 k3 k5 : Option Value}
    (hC : h.get? C = some (excClassObj nm q C N bs bm hdct sn sub ab col dd k0 k1 k2 k3 k5 "ValueError.__new__")) (he : h.get? e = some (excO C t0)) (hu : h.get? u = some (kxs_mw "ValueError.__init__" e)) (hz : rest.length ≤ sizeLine)
    (hq : ∀ h' t1, (∀ b o, b ≠ e → h.get? b = some o → h'.get? b = some o) → h'.get? e = some (excO C t1) → Q .none ⟨h', g, d, t, os⟩) :
    wpAny (model prog w) A (call (.ref u) rest) Q E ⟨h, g, d, t, os⟩ := by
  refine wpAny_call (codeAny_of_tree ?_)
  show wpAny _ A.in1 (callAny (.ref u) ⟨rest, []⟩) _ _ _
  simp only [callAny]
  refine wpAny_bind (wpAny_load hu ?_)
  simp only [kxs_mw, show (Value.type "method-wrapper" == Value.type "method" || Value.type "method-wrapper" == Value.type "builtin_function_or_method" || Value.type "method-wrapper" == Value.type "method-wrapper") = true by decide, if_true]
  refine KFB.if_so (by decide) ?_
  refine wpAny_bind (check_bound_init F.excBase_ValueError.toExcCallFacts hC he rfl ?_)
  refine wpAny_bind (wpAny_pure (wpAny_pure ?_))
  refine ⟨plainId_quiet F.excBase_ValueError.init.plain _, codeAny_builtin F.excBase_ValueError.initEntry ?_⟩
  exact exc_init_tree (cls := .ref C) (t0 := t0) (dv := none) (c2 := .none) (c3 := .none) (b4 := .bool false) he hz fun h' k e' _ => hq h' _ k e'
theorem init1 (T : Err1 prog K mg x f C fI) {e t0 : Addr} {v : Value} (X : K.In s.heap) (hlim : s.heap.NoLimit) (hg : s.heap.Ns mainGlobals mg) (hb : ∃ mb, s.heap.Ns builtinsNs mb ∧ ∀ x : Str, x ≠ "__name__" → mb x = bootBuiltins x)
    (he : s.heap.get? e = some (excO C t0)) (hnx : K.lookup e = none) (hroom : A.depth < recursionLimit)
    (hq : ∀ h' tk dx t1, End1 s.heap h' f e C dx t1 v → R (.ok (.ret .none)) { s with heap := h', toks := tk }) :
    codeAny (model prog w) A (.call (.ref fI) ⟨[.ref e, v], []⟩) R s := by
  obtain ⟨qual, oc, od, doc, pm, an, cda, ct, cc, osl, p1, p2, q1, q2, q3, q4, q5, q6, r1, r2, r3, r4, ho, hcd, ⟨cl, cld, csl, hcell⟩, ccl, cdd, vs, ccs, file, tf, hcode, hvs, hfile, hqq⟩ := T.fn
  obtain ⟨nm, q, N, bs, bm, sn, sub, ab, col, dd, k0, k1, k2, k3, k5, hC, hbm⟩ := T.ox.cls
  obtain ⟨mb, hb1, hb2⟩ := hb
  have hcl : clsIn K C = some { name := nm, bases := bs, mro := .ref C :: bm, ns := N, qualname := q, hasDict := true, slotNames := sn, subclasses := sub, abstract := ab, collection := col, hasDel := false } := by unfold clsIn; rw [hC] <;> rfl
  have hloc : ∀ y ∈ [(("self" : Str), Value.ref e), (f, v)], (s1 f).names.lookup y.1 = some .local := fun y hy => by
    rcases List.mem_cons.mp hy with z | z
    · rw [z]; rfl
    · rw [List.mem_singleton.mp z]; exact lk2 T.nm
  have hsu : alongIn K "__init__" ((((Value.ref C :: bm) : List Value).dropWhile (· != .ref C)).drop 1) = some (some (.builtin "ValueError.__init__")) := by
    have z := T.su
    unfold ks_superIn at z
    rw [hcl] at z
    exact z
  refine ks_codeAny_call_defAt (fd := ksFn "__init__" qual (a1 f p1 p2) (b1 f q1 q2 q3 q4 q5 q6 r1 r2 r3 r4) (s1 f) .none .none doc pm an (.ref cda) ct cc) (binds := [("self", .ref e), (f, v)]) hroom (X _ _ ho) rfl hlim (codeRec_of X hcd) rfl (BindsTo.of_eq (T.nm.bd _ _ _ _ _ _ _ _ _ _ _ _))
    (by intro y hy; simp only [s1, List.mem_cons, List.mem_nil_iff, or_false] at hy; rcases hy with z | z | z | z <;> rw [z] <;> exact (fun w => nomatch w)) hloc (fun h1 hns kp => ?_)
  have X1 : K.In h1 := X.keeps kp
  have he1 := kp _ _ he
  have hC1 := X1 _ _ hC
  have hx0 : e ≠ C := fun z => by
    have y := X _ _ hC
    rw [← z, he] at y
    cases y
  have mself : ([(("self" : Str), Value.ref e), (f, v)].reverse.lookup ("self" : Str)) = some (.ref e) := by
    have e1 : (("self" : Str) == f) = false := by
      have z := T.nm.n1
      rw [Bool.eq_false_iff] at z ⊢
      intro y
      exact z (by rw [beq_iff_eq] at y ⊢; exact y.symm)
    simp only [List.reverse_cons, List.reverse_nil, List.nil_append, List.cons_append, List.lookup, e1, beq_self_eq_true]
  have mf : ([(("self" : Str), Value.ref e), (f, v)].reverse.lookup f) = some v := by
    simp only [List.reverse_cons, List.reverse_nil, List.nil_append, List.cons_append, List.lookup, beq_self_eq_true]
  show _root_.PySem.wpAt _ _ _ (execs (b1 f q1 q2 q3 q4 q5 q6 r1 r2 r3 r4) _) _ _ _
  unfold b1
  refine ks_wpAt_execs_cons (ks_wpAt_Expr_any (ks_wpAt_MethodCall (ks_wpAt_super_base (lk4 T.nm) (lk3 T.nm) (by decide +kernel) rfl (X1 _ _ ho) rfl rfl rfl (X1 _ _ hcode) rfl hvs hfile T.top ?_) (meth_eq hqq)))
  refine ks_loadName_global rfl (lk4 T.nm) (loadGlobal_builtin (hg.keeps kp) T.gS (hb1.keeps kp) ((hb2 _ (by decide +kernel)).trans (by decide +kernel : bootBuiltins "super" = some (.type "super"))) ⟨rfl, ?_⟩)
  refine wpAny_loadName_free rfl (lk3 T.nm) rfl ⟨_, X1 _ _ hcell, rfl⟩ ?_
  refine wpAny_loadName_local rfl rfl hns mself ?_
  refine ks_wpAny_isType_cls hC1 rfl ⟨rfl, ?_⟩
  refine ks_wpAny_call_super hC1 rfl he1 rfl (fun c z => nomatch z) (looks_mroIn X1 T.sC) (fun h2 hso k2 => ?_)
  have X2 : K.In h2 := X1.keeps k2
  have he2 := k2 _ _ he1
  have I2 : InstAt h2 e (excO C t0) C none := ⟨he2, rfl, rfl, trivial⟩
  refine kxs_getMethod kxs_ValueError hso (looks_opaque X2 T.oq) (l₀ := .ref C :: bm) (fun A Q E s k q => wpAny_bind ((looks_clsIn X2 hcl) A _ E s k (wpAny_pure q))) rfl X2 hsu (I2.type.andThen (looks_subIn X2 T.sV)) hx0 (by decide +kernel) ?_
  refine kxs_callWith (i := "ValueError.__init__") (x := e) rfl ?_
  have hns2 := hns.keeps k2
  refine evalArgs_plain (Calls.spliced_cons (ldc rfl (lk2 T.nm) (hns2.keeps fun b o z => Heap.get?_push_of_some _ z) mf (Calls.spliced_nil ⟨Heap.get?_push_size _ rfl, ?_⟩) T.nm.n4))
  have k3 : ∀ b o, h2.get? b = some o → (h2.push (kxs_mw "ValueError.__init__" e)).get? b = some o := fun b o z => Heap.get?_push_of_some _ z
  show wpAny _ _ (call (.ref h2.objs.size) [v]) _ _ _
  refine call_mw (X2.keeps k3 _ _ hC) (k3 _ _ he2) (Heap.get?_push_size _ rfl) (by rw [sizeLine_eq]; exact (by decide : 1 ≤ 16777216)) fun h4 t1 k4 he4 => ?_
  have kall : ∀ b o, b ≠ e → s.heap.get? b = some o → h4.get? b = some o := fun b o hb z => k4 b o hb (k3 b o (k2 b o (kp b o z)))
  have X4 : K.In h4 := fun a o z => kall a o (fun y => by rw [y, hnx] at z; cases z) (X a o z)
  have hL : s.heap.objs.size ≠ e := Nat.ne_of_gt (Heap.lt_size he)
  have hns4 : h4.Ns s.heap.objs.size (fun y => [(("self" : Str), Value.ref e), (f, v)].reverse.lookup y) := by
    obtain ⟨oL, es, ep, hoL, r⟩ := hns2
    exact ⟨oL, es, ep, k4 _ _ hL (k3 _ _ hoL), r⟩
  show _root_.PySem.wpAt _ _ _ (execs [.Assign [.Attribute (.Name "self" r1) f r2] (.Name f r3) r4] _) _ _ _
  refine wpAt_of_wpAny (wpAny_execs_cons (plainObj_wpAny_Assign_Attribute (ldc rfl (lk2 T.nm) hns4 mf (ldc rfl rfl hns4 mself ?_) T.nm.n4)))
  refine set_plain X4 (ox := excO C t1) (od := none) ⟨he4, rfl, rfl, trivial⟩ T.ox.sa ?_
  refine exc_osa X4 he4 hcl (show refsVE (.ref C :: bm) = true from hbm) rfl T.nf (fun h5 tk5 dx k5 dn dne hx5 hn5 => ?_)
  have z1 : s.heap.objs.size ≤ h1.objs.size := Nat.le_of_lt hns.lt
  refine wpAny_execs_nil (hq h5 tk5 dx t1 ⟨fun b o hb z => k5 b o hb (kall b o hb z), hx5, ?_, dne, hn5⟩)
  have z2 := hns4.lt
  exact Nat.le_trans (Nat.le_of_lt z2) dn
/-- a made error -/
structure Made1 (h h' : Heap) (f : Str) (e C d : Addr) (v : Value) : Prop where
  keep : ∀ b o, h.get? b = some o → h'.get? b = some o
  new : h.objs.size ≤ e
  obj : ∃ oe vs, h'.get? e = some oe ∧ oe.cls = .ref C ∧ oe.dict = some d ∧ oe.data = .fields vs ∧ vs[1]? = some .none
  dbig : h.objs.size ≤ d
  dne : d ≠ e
  ns : h'.Ns1 d (fun y => if y = f then some v else none)
theorem made1 (T : Err1 prog K mg x f C fI) {v : Value} (X : K.In s.heap) (hlim : s.heap.NoLimit) (hg : s.heap.Ns mainGlobals mg) (hb : ∃ mb, s.heap.Ns builtinsNs mb ∧ ∀ x : Str, x ≠ "__name__" → mb x = bootBuiltins x) (hroom : A.depth + 1 < recursionLimit)
    (hq : ∀ h' tk e d, Made1 s.heap h' f e C d v → R (.ok (.ret (.ref e))) { s with heap := h', toks := tk }) :
    codeAny (model prog w) A (.call (.ref C) ⟨[v], []⟩) R s := by
  obtain ⟨nm, q, N, bs, bm, sn, sub, ab, col, dd, k0, k1, k2, k3, k5, hC, hbm⟩ := T.ox.cls
  obtain ⟨hp, g, dr, tk, os⟩ := s
  have kp : ∀ b o, hp.get? b = some o → ((hp.push (kdv_tup [v])).push (excO C hp.objs.size)).get? b = some o := fun b o z => Heap.get?_push_of_some _ (Heap.get?_push_of_some _ z)
  have hget : ((hp.push (kdv_tup [v])).push (excO C hp.objs.size)).get? (hp.objs.size + 1) = some (excO C hp.objs.size) := by heap_get
  have hnx : K.lookup (hp.objs.size + 1) = none := by
    cases z : K.lookup (hp.objs.size + 1) with
    | none => rfl
    | some o => exact absurd (Nat.lt_of_succ_lt (Heap.lt_size (X _ _ z))) (Nat.lt_irrefl _)
  refine call_own F.excBase_ValueError (fun Y => refsVE_contains Y bm hbm) (X _ _ hC) (looks_findIn X T.iC) (fun self => bind_fn X self T.tI) (by rw [sizeLine_eq]; exact (by decide : 1 ≤ 16777216)) ?_
  obtain ⟨mb, hb1, hb2⟩ := hb
  refine init1 (s := ⟨(hp.push (kdv_tup [v])).push (excO C hp.objs.size), g, dr, tk, os⟩) T (X.keeps kp) (hlim.keeps kp) (hg.keeps kp) ⟨mb, hb1.keeps kp, hb2⟩ hget hnx ?_ fun h' tk' dx t1 ⟨k', hx, dn, dne, hns⟩ => ?_
  · show A.depth + 1 < recursionLimit
    exact hroom
  · have old : ∀ b o, hp.get? b = some o → h'.get? b = some o := fun b o z => k' b o (Nat.ne_of_lt (Nat.lt_succ_of_lt (Heap.lt_size z))) (kp b o z)
    have z : hp.objs.size + 1 + 1 ≤ dx := by
      have y := dn
      first
        | (rw [Heap.size_push, Heap.size_push] at y; exact y)
        | exact y
    exact ⟨rfl, hq h' tk' (hp.objs.size + 1) dx ⟨old, Nat.le_succ _, ⟨_, _, hx, rfl, rfl, rfl, rfl⟩, Nat.le_trans (Nat.le_trans (Nat.le_succ _) (Nat.le_succ _)) z, dne, hns⟩⟩
end
end Sup
namespace L2
open PySem PySem.Spec PyProof.Rows
theorem relO_one {v : V} {v' : Value} {f : Str} (r : RelV v v') (g : Str) : RelO (List.lookup g [(f, v)]) (if g = f then some v' else none) := by
  by_cases hw : g = f
  · rw [if_pos hw, hw]
    have z : List.lookup f [(f, v)] = some v := by simp [List.lookup]
    rw [z]
    exact r
  · rw [if_neg hw]
    have y : (g == f) = false := by simpa using hw
    have z : List.lookup g [(f, v)] = none := by simp [List.lookup, y]
    rw [z]
    trivial
section
variable {X : Cx} {C fI : Addr} {x f : Str}
/-- E(e) -/
def tMk1 (C : Addr) (f : Str) (ta : TA) : St → Hp → XK → Prop := fun σ H Q => ta σ H fun vs H1 => ∃ v, vs = [v] ∧ ∀ d, H1 d = none → Q (.ref C) (some d) (upd H1 d (.xd [(f, v)]))
theorem pmk_1 {a : Expr} {ta : TA} {p pos : Pos} {k : Nat} (T : Sup.Err1 X.prog X.K X.mg x f C fI) (hr : Room k X.A) (ha : PA X [a] ta) (hg : Gl X x := by rfl) (hdb : (x == ("__debug__" : Str)) = false := by decide)
    (hs : starEach (a :: []) X.env = (false, eval a X.env) :: starEach [] X.env := by rfl) (hpl : (backTo pos (starEach [] X.env)).any (·.1) = false := by rfl) :
    PMk X (.Call (.Name x p) [a] [] pos) (tMk1 C f ta) := by
  intro pins s σ H Q I h
  refine wpAny_Call_Name_kw (ld_glob I hg T.gC ?_ hdb)
  refine PySem.W.callWith_K (h₀ := X.base) I.ok.mod.kin T.ox.kC (thn (ha.run pos pins s σ H _ I h) fun us s1 hh => ?_) hs hpl
  obtain ⟨vs, H1, I1, r1, v, ev, q1⟩ := hh
  subst ev
  refine ⟨I1.kIn, ?_⟩
  cases r1 with
  | cons rv rn =>
    rename_i v' us'
    cases rn
    show wpAny _ _ (call (.ref C) [v']) _ _ _
    have hlim := I1.nolimit
    obtain ⟨mb, hb1, hb2⟩ := I1.mod.blt
    have bk1 := I1.bk
    have gl1 := I1.mod.glob
    obtain ⟨hp, g, dr, tk, os⟩ := s1
    refine wpAny_call (Sup.made1 T I1.kIn hlim (gl1.keeps bk1) ⟨mb, hb1.keeps bk1, hb2⟩ (by have := hr.dp; omega) fun h' tk' e d M => ?_)
    show MkP X pins σ Q (.ref e) ⟨h', g, dr, tk', os⟩
    obtain ⟨oe, fv, hoe, hc, hd, hdat, h1⟩ := M.obj
    have hns := M.ns
    obtain ⟨G', g1, g2⟩ := restrict h' fun b => decide (b ≠ e)
    have gk : ∀ b, b ≠ e → G'.get? b = h'.get? b := fun b hb => g1 b (decide_eq_true hb)
    have ge : G'.get? e = none := g2 e (by simp)
    have old : ∀ b o, hp.get? b = some o → G'.get? b = some o := fun b o z => (gk b (Nat.ne_of_lt (Nat.lt_of_lt_of_le (Heap.lt_size z) M.new))).trans (M.keep b o z)
    have ob : ObjOk X.prog X.w (upd H1 d (.xd [(f, v)])) G' d (.xd [(f, v)]) :=
      ⟨_, hns.at (fun o z => (gk d M.dne).trans z), fun y => relO_one rv y⟩
    have J : Inv X pins σ (upd H1 d (.xd [(f, v)])) ⟨G', g, dr, tk', os⟩ := I1.laid (t' := tk') old M.dbig ob
    refine ⟨e, oe, fv, ⟨G', g, dr, tk', os⟩, _, .ref C, some d, rfl, J, fun b o z => ?_, ge, hoe, ⟨hc, hd⟩, hdat, h1, ?_, rfl, I1.bare, raises_own T.ox.exC T.ox.tyC, q1 d (I1.hok.fresh M.dbig)⟩
    · by_cases hb : b = e
      · have z' : G'.get? b = some o := z
        rw [hb, ge] at z'; cases z'
      · exact (gk b hb).symm.trans z
    · rw [upd_ne (Ne.symm M.dne)]
      exact I1.hok.fresh M.new
/-- raise E(e) -/
def tRaise1 (C : Addr) (f : Str) (W : WX) (ta : TA) : TS := fun _ σ H => tMk1 C f ta σ H fun cls d H' => W cls d σ H'
theorem ps_raise1 {a : Expr} {ta : TA} {W : WX} {p pos pos2 : Pos} {k : Nat} (hc : X.calm = true) (T : Sup.Err1 X.prog X.K X.mg x f C fI) (hr : Room k X.A) (tk : Takes X W) (ha : PA X [a] ta) (hg : Gl X x := by rfl) (hdb : (x == ("__debug__" : Str)) = false := by decide)
    (hs : starEach (a :: []) X.env = (false, eval a X.env) :: starEach [] X.env := by rfl) (hpl : (backTo pos (starEach [] X.env)).any (·.1) = false := by rfl) :
    PS X (.Raise (some (.Call (.Name x p) [a] [] pos)) none pos2) (tRaise1 C f W ta) := ps_raise hc tk (pmk_1 T hr ha hg hdb hs hpl)
end
end L2
/-! Rules of our own over the hand layer: defs whose guards are told (for repr), repr of data, an error kept behind its except suite. -/
namespace My
open PySem PySem.Spec PyProof.Rows L2
/-! ### a def that is run where no repr is under way -/
structure FnG (P : Program) (w : World) (K : PySem.W.Frag) (mg : Str → Option Value) (base : Heap) (CX : CXT) (k : Nat) (f : Addr) (fd : FuncData) (ps : List Str) (sp : Sp) : Prop where
  len : ∀ vs H Q E, sp vs H Q E → vs.length = ps.length
  run : ∀ (A : Around) (outer : List Env) (s : Shared) (H : Hp) (args : Args) (us : List Value) (vs : List V) (Q : VK) (E : XK), A.guards = some [] → Room k A → Env0 P w K mg base A outer s H → BindsTo s fd args (ps.zip us) → Vals vs us → sp vs H Q E →
    codeAny (model P w) A (.call (.ref f) args) (CR CX outer P w H s Q E) s
section
variable {P : Program} {w : World} {K : PySem.W.Frag} {mg : Str → Option Value} {base : Heap}
theorem okG {x qual : Str} {st : Stmt} {f : Addr} {fd : FuncData} {N ps : List Str} {k : Nat} {sp : Sp} (F : Fun K x qual st f fd) (S : FnScope N ps (defScope st)) (len : ∀ vs H Q E, sp vs H Q E → vs.length = ps.length)
    (hbody : ∀ (cdv : Value) (A : Around) (outer : List Env) (s : Shared) (H : Hp) (vs : List V) (Q : VK) (E : XK), K.lookup f ≠ none → A.guards = some [] → Room k (A.deeper (envOfC qual (defScope st) s.heap.objs.size f cdv)) → sp vs H Q E →
      ∃ t, PSs (cxOf CX0 P w K mg base N qual (defScope st) f cdv A outer s H E).nox (defBody st) t ∧ t { nx := fun _ H' => Q .non H', rt := Q } (start N vs) H) : FnG P w K mg base CX0 (k + 1) f fd ps sp := by
  obtain ⟨oc, od, kV, doc, pm, an, cdv, ct, osl, rfl, lk, hcd⟩ := F.ex
  refine ⟨len, fun A outer s H args us vs Q E hg hr e0 hb r hsp => LamX.run_ofS lk hcd S hr e0 hb r (len _ _ _ _ hsp) fun hr' => ?_⟩
  obtain ⟨t, h, q⟩ := hbody cdv A outer s H vs Q E (by rw [lk]; exact fun z => nomatch z) hg hr' hsp
  exact ⟨t, h.nox, q⟩
end
section
variable {X : Cx} {CX : CXT} {k : Nat} {f : Addr} {fd : FuncData} {ps : List Str} {sp : Sp} {E : XK} {x : Str} {e : Expr} {es : List Expr} {t : TA} {p pos : Pos} {ds : List Value} {dvs : List V}
/-- x(e, ..) -/
theorem pe_callG (F : FnG X.prog X.w X.K X.mg X.base CX k f fd ps sp) (hgd : X.A.guards = some []) (hr : Room k X.A) (hg : Gl X x) (hm : X.mg x = some (.ref f)) (hk : PySem.W.keepIn X.K (.ref f) = true) (hb : Binds X.K fd ps []) (hx : Passes CX X E)
    (ha : PA X (e :: es) t) (hdb : (x == ("__debug__" : Str)) = false := by decide) (hs : starEach (e :: es) X.env = (false, eval e X.env) :: starEach es X.env := by rfl) (hpl : (backTo pos (starEach es X.env)).any (·.1) = false := by rfl) :
    PE X (.Call (.Name x p) (e :: es) [] pos) (tCall sp [] E t) := by
  refine ⟨fun pins s σ H Q I h => ?_⟩
  refine wpAny_Call_Name_kw (ld_glob I hg hm ?_ hdb)
  refine PySem.W.callWith_K (h₀ := X.base) I.ok.mod.kin hk (thn (ha.run pos pins s σ H _ I h) fun us s1 ⟨vs, H1, I1, r, q⟩ => ⟨I1.kIn, ?_⟩) hs hpl
  have q' : sp vs H1 Q E := by
    have z : sp (vs ++ []) H1 Q E := q
    rw [List.append_nil] at z
    exact z
  have hl : us.length = ps.length := by rw [← r.length]; exact F.len _ _ _ _ q'
  have hb' : BindsTo s1 fd ⟨us, []⟩ (ps.zip us) := by
    have z := hb s1 us I1.kIn (by rw [List.append_nil]; exact hl)
    rw [List.append_nil] at z
    exact z
  refine wpAny_call (codeAny_mono (F.run X.A X.stack s1 H1 ⟨us, []⟩ us vs Q E hgd hr I1.env0 hb' r q') fun res s2 hq => ?_)
  cases res with
  | error er => exact hx pins σ H1 s1 er s2 I1 hq
  | ok fl =>
    cases fl with
    | ret u => exact I1.after hq
    | next => exact False.elim hq
    | brk => exact False.elim hq
    | cont => exact False.elim hq
end
/-! ### repr of data -/
theorem sqt_same {K : PySem.W.Frag} {H H' : Hp} {a : Addr} {xs : List V} (e : Same H H') (h : SqT K H a xs) : SqT K H' a xs := by
  rcases h with (h | ⟨o, h⟩) | h
  · exact .inl (.inl (e _ _ h))
  · exact .inl (.inr ⟨o, e _ _ h⟩)
  · exact .inr h
/-- data that repr shows: as for ==, and the empty dict -/
def Dr (K : PySem.W.Frag) (H : Hp) (v : V) (d : PyData) : Prop := Dp K H v d ∨ (∃ a, v = .ref a ∧ d = .dict [] ∧ H a = some (.dK []))
mutual
theorem dp_same {K : PySem.W.Frag} {H H' : Hp} (k : Same H H') : ∀ (d : PyData) (v : V), Dp K H v d → Dp K H' v d
  | _, _, .non => .non
  | _, _, .bl b => .bl b
  | _, _, .int i => .int i
  | _, _, .str x => .str x
  | .list ds, _, .lst h ha => .lst (k.seq h) (dp_sameAll k ds _ ha)
  | .tuple ds, _, .tup h ha => .tup (sqt_same k h) (dp_sameAll k ds _ ha)
theorem dp_sameAll {K : PySem.W.Frag} {H H' : Hp} (k : Same H H') : ∀ (ds : List PyData) (vs : List V), DpAll K H vs ds → DpAll K H' vs ds
  | [], _, .nil => .nil
  | d :: ds, _, .cons h1 h2 => .cons (dp_same k d _ h1) (dp_sameAll k ds _ h2)
end
theorem dr_same {K : PySem.W.Frag} {H H' : Hp} {v : V} {d : PyData} (k : Same H H') (h : Dr K H v d) : Dr K H' v d := by
  rcases h with h | ⟨a, e1, e2, e3⟩
  · exact .inl (dp_same k d v h)
  · exact .inr ⟨a, e1, e2, k _ _ e3⟩
def rRepr (K : PySem.W.Frag) : List V → Hp → VK → Prop := fun xs H Q => ∃ (v : V) (d : PyData), xs = [v] ∧ Dr K H v d ∧ d.showable = true ∧ d.depth ≤ 60 ∧ d.shown.length ≤ sizeLine ∧ Q (.str d.shown) H
mutual
theorem noDict {K : PySem.W.Frag} {H : Hp} : ∀ (d : PyData) (v : V), Dp K H v d → d.hasDict = false
  | .none, _, _ => rfl
  | .bool _, _, _ => rfl
  | .int _, _, _ => rfl
  | .str _, _, _ => rfl
  | .list ds, _, h => by
    cases h with
    | lst _ ha => exact noDictAll ds _ ha
  | .tuple ds, _, h => by
    cases h with
    | tup _ ha => exact noDictAll ds _ ha
  | .dict _, _, h => by cases h
theorem noDictAll {K : PySem.W.Frag} {H : Hp} : ∀ (ds : List PyData) (vs : List V), DpAll K H vs ds → PyData.hasDictAll ds = false
  | [], _, _ => rfl
  | d :: ds, _, h => by
    cases h with
    | cons h1 h2 =>
      show (d.hasDict || PyData.hasDictAll ds) = false
      rw [noDict d _ h1, noDictAll ds _ h2]
      rfl
end
section
variable {X : Cx} {k : Nat}
theorem call_repr (hgd : X.A.guards = some []) (hr : Room k X.A) : CallR X (.builtin "repr") (rRepr X.K) := by
  intro pins s σ H xs us Q I r h
  obtain ⟨v, d, rfl, hd, hs, hdp, hz, q⟩ := h
  obtain ⟨u, rfl, r1⟩ := vals1 r
  have hu : X.A.units + (d.depth + 1) < cLine := by
    have := hr.units
    omega
  have fin : ∀ (h' : Heap) (t : Tok) (tk : Nat), (∀ b o, s.heap.get? b = some o → h'.get? b = some o) → EP X pins σ Q (.str d.shown t) { s with heap := h', toks := tk } :=
    fun h' t tk hk => ⟨.str d.shown, H, I.kept (t' := tk) hk, ⟨t, rfl⟩, q⟩
  rcases hd with hd | ⟨a, rfl, rfl, ha⟩
  · have hn := noDict d v hd
    obtain ⟨as, rd⟩ := Dp.reads I d v u hd r1
    cases hd with
    | non => cases (show u = Value.none from r1); exact PySem.P.repr_of_none (fin s.heap _ _ fun _ _ e => e)
    | bl b => cases (show u = Value.bool b from r1); exact PySem.P.repr_of_bool (fin s.heap _ _ fun _ _ e => e)
    | int i =>
      obtain ⟨t, e⟩ := (show ∃ t, u = Value.int i t from r1)
      cases e
      exact PySem.P.repr_of_int (of_decide_eq_true hs) (fin s.heap _ _ fun _ _ e => e)
    | str z =>
      obtain ⟨t, e⟩ := (show ∃ t, u = Value.str z t from r1)
      cases e
      exact PySem.P.repr_of_str (fin s.heap _ _ fun _ _ e => e) hz
    | @lst a xs ds _ _ =>
      cases (show u = Value.ref a from r1)
      exact repr_of_reads' rd hs (PyData.noDict_hsm hn) hgd hu (fun _ _ e => e) (fun h' t tk hk => fin h' t tk hk) hz
    | @tup a xs ds _ _ =>
      cases (show u = Value.ref a from r1)
      exact repr_of_reads' rd hs (PyData.noDict_hsm hn) hgd hu (fun _ _ e => e) (fun h' t tk hk => fin h' t tk hk) hz
  · cases (show u = Value.ref a from r1)
    obtain ⟨_, hne, vs, kv, o, es, ep, e1, e2, e3, e4⟩ := (show ObjOk X.prog X.w H s.heap a (.dK []) from I.hok a _ ha)
    cases kv
    have hes : es.toList = [] := by
      obtain ⟨_, pr, _⟩ := e4
      revert pr
      generalize es.toList = l
      intro pr
      cases pr
      rfl
    have rd : Reads s.heap (.ref a) (.dict []) (a :: [] ++ []) := .dict e1 e2.1 e3 (by rw [hes]; exact .nil) (by rw [hes]; exact .nil)
    exact repr_of_reads' rd hs (fun _ hm => by simp at hm; simp [hm] at hne) hgd hu (fun _ _ e => e) (fun h' t tk hk => fin h' t tk hk) hz
end
/-! ### an error that stands behind its except suite -/
/-- at a: an error of the class cls, its own dict at d -/
def ExA (cls : Value) (d : Option Addr) (a : Addr) : HO := .ext fun h => ∃ (oe : Obj) (vs : Array Value), h.get? a = some oe ∧ Zc cls d oe ∧ oe.data = .fields vs
theorem exA_ok {P : Program} {w : World} {H : Hp} {h : Heap} {a : Addr} {cls : Value} {d : Option Addr} {oe : Obj} {vs : Array Value} (e : h.get? a = some oe) (z : Zc cls d oe) (hd : oe.data = .fields vs) : ObjOk P w H h a (ExA cls d a) :=
  ⟨⟨oe, vs, e, z, hd⟩, ⟨oe, e⟩, fun _ _ ⟨o, v, q, r⟩ k => ⟨o, v, k o q, r⟩⟩
section
variable {X : Cx} {pins : List (Addr × Obj)} {σ : L2.St} {H : Hp} {s : Shared}
/-- an object of the heap that was not there at the entry, tracked from now on -/
theorem track {a : Addr} {o : HO} (I : Inv X pins σ H s) (h0 : X.s_0.heap.get? a = none) (na : H a = none) (nL : a ≠ X.env.locals) (nC : ∀ x c, X.env.cells.lookup x = some c → c ≠ a) (nP : ∀ p ∈ X.pn ++ pins, p.1 ≠ a)
    (new : ObjOk X.prog X.w (upd H a o) s.heap a o) : Inv X pins σ (upd H a o) s := by
  have ne0 : ∀ b ob, X.s_0.heap.get? b = some ob → b ≠ a := fun b ob e z => by rw [z, h0] at e; cases e
  refine ⟨I.ok, I.os, I.bare, ⟨I.base.keep, I.base.slot, fun b ob e n hx => ?_, I.base.there, fun b xs e => ?_, fun b ob u e => ?_, fun b ps e => ?_⟩, I.loc, I.cell, ?_, fun x c e => ?_, fun p hp => ?_, fun b u e => ?_, I.len⟩
  · rw [upd_ne (ne0 b ob e)]
    exact I.base.free b ob e n hx
  · have z := I.base.tups b xs e
    rw [upd_ne (ne_of_none z na)]
    exact z
  · have z := I.base.frzs b ob u e
    rw [upd_ne (ne_of_none z na)]
    exact z
  · obtain ⟨m, z⟩ := I.base.tbls b ps e
    exact ⟨m, by rw [upd_ne (ne_of_none z na)]; exact z⟩
  · rw [upd_ne (Ne.symm nL)]
    exact I.free
  · rw [upd_ne (nC x c e)]
    exact I.freeC x c e
  · obtain ⟨e, n, r⟩ := I.pin p hp
    exact ⟨e, by rw [upd_ne (nP p hp)]; exact n, r⟩
  · by_cases hb : b = a
    · subst hb
      rw [upd_same] at e
      cases e
      exact new
    · rw [upd_ne hb] at e
      exact (I.hok b u e).stay (fun _ _ _ q => q) (fun c q => by rw [upd_ne (ne_of_none q na)]; exact q) fun c xs q => by rw [upd_ne (ne_of_none q na)]; exact q
end
/-- the wish of «except c as n: y = n»: slot i is n's, slot j is y's -/
def wKeep (K : PySem.W.Frag) (c : Value) (i j n : Nat) (Wout : WX) (D : Ends) : WX := fun cls d σ H =>
  ∃ b, PySem.W.exmOne K cls c = some b ∧ (b = true → ∀ a, H a = none → σ.length = n → D.nx (((σ.set i (some (.ref a))).set j (some (.ref a))).set i none) (upd H a (ExA cls d a))) ∧ (b = false → Wout cls d σ H)
section
variable {X : Cx} {x n y : Str} {c : Value} {i j : Nat} {body : List Stmt} {np p1 p2 p3 pos pos' : Pos} {tb : WX → TS} {Wout : WX}
theorem ps_try_keep (hs : X.stack = X.env :: X.outer) (hf : X.env.frame = some X.env.locals) (hN : X.N.Nodup) (hi : X.N[i]? = some n) (hln : X.env.kindOf n = some .local) (hj : X.N[j]? = some y) (hly : X.env.kindOf y = some .local) (hex : X.ex = []) (hc : Names X x c) (tk : Takes X Wout)
    (hb : ∀ (W : WX) (pn : List (Addr × Obj)) (xe : Value → Shared → Prop), Takes (X.tr pn xe) W → PassesOwn (model X.prog X.w) X.A X.env xe → PSs (X.tr pn xe) body (tb W)) (hd1 : (n == ("__debug__" : Str)) = false := by decide) (hd2 : (n == ("__classdict__" : Str)) = false := by decide) :
    PS X (.Try body [.ExceptHandler (some (.Name x np)) (some n) [.Assign [.Name y p1] (.Name n p2) p3] pos'] [] [] pos) (fun D σ H => tb (wKeep X.K c i j X.N.length Wout D) D σ H) := by
  refine ⟨fun pins s σ H D I h => ?_⟩
  have ok := I.ok
  have hfr : X.A.frames = some (X.env :: X.outer) := by rw [ok.frames, hs]
  refine wpAny_Try_except ?_
  refine wpAny_mono ((hb (wKeep X.K c i j X.N.length Wout D) (X.pn ++ pins) (fun e t1 => wpAny (model X.prog X.w) X.A (noteFrame e X.env) (fun _ t2 => wpAny (model X.prog X.w) X.A (setFlight e none) (fun _ t3 =>
    wpAny (model X.prog X.w) X.A (handleBy e X.env [.ExceptHandler (some (.Name x np)) (some n) [.Assign [.Name y p1] (.Name n p2) p3] pos']) (SP X pins D) X.xe t3) X.xe t2) X.xe t1) (fun u s' xx => ?_) PassesOwn.looking).run [] s σ H D (I.toTry _) h) (fun fl t1 hsp => ?_) (fun _ _ he => he)
  · obtain ⟨a, B, sI, pins', σ1, H1, cls, d, rfl, J0, nb, up, sky, na, os, ag, b, hb1, hyes, hno⟩ := xx
    have J : Inv X pins σ1 H1 sI := J0.ofTry ok
    have sky' : Sky B (X.env :: X.outer) a (Zc cls d) X.env.locals s'.heap := by rw [← hs]; exact sky
    show wpAny (model X.prog X.w) X.A (noteFrame (.ref a) X.env) _ _ _
    refine Sky.land Zc.steady hfr hf sky' fun h3 fl3 up3 => ?_
    have J3 : Inv X pins σ1 H1 { s' with heap := h3 } := J.landed nb fl3.1 (up.trans up3) os ag
    obtain ⟨oe3, vs3, he3, hz3, hd3⟩ := fl3.there
    have nfr : a ∉ frs (X.env :: X.outer) := fun hm => by
      obtain ⟨_, o', e', hnf⟩ := fl3.2.2.1.mem hm
      rw [he3] at e'
      cases e'
      exact hnf _ hd3
    have nL : a ≠ X.env.locals := fun z => nfr (List.mem_filterMap.mpr ⟨X.env, List.mem_cons_self, by rw [hf, z]⟩)
    have nF : a ∉ X.fs := fun hm => by
      obtain ⟨e1, he1, q1⟩ := List.mem_filterMap.mp hm
      exact nfr (List.mem_filterMap.mpr ⟨e1, List.mem_cons_of_mem _ he1, q1⟩)
    -- the error was not there at the entry, and is no pin
    have Ba : B.get? a = none := fl3.2.1
    have sIa : sI.heap.get? a = none := by
      cases z : sI.heap.get? a with
      | none => rfl
      | some o =>
        have y := nb a o z (by rw [hs]; exact nfr)
        rw [Ba] at y
        cases y
    have s0a : X.s_0.heap.get? a = none := by
      cases z : X.s_0.heap.get? a with
      | none => rfl
      | some o =>
        obtain ⟨o', y⟩ := J.base.there a o z (by rw [hex]; exact fun w => nomatch w)
        rw [sIa] at y
        cases y
    have nPin : ∀ p ∈ X.pn ++ pins, p.1 ≠ a := fun p hp z => by
      have y := (J.pin p hp).1
      rw [z, sIa] at y
      cases y
    have S3 := J3.suite he3 hd3 na nL nF
    refine wpAny_handleBy_cons (codeAny_handlers_test ?_) (by intro q; cases q)
    have LT : PySem.W.Looks (model X.prog X.w) h3 (typeOf (.ref a)) cls := fun A Q E s k q => wpAny_typeOf_ref (k _ _ he3) (by rw [hz3.1]; exact q)
    have LM := PySem.W.exm_one (M := model X.prog X.w) (J3.kIn) LT hb1
    have test : ∀ {Q : Value → Shared → Prop} {E : Value → Shared → Prop}, Q c { s' with heap := h3 } → wpAny (model X.prog X.w) (X.A.mark (some (.ref a))) (eval (.Name x np) X.env) Q E { s' with heap := h3 } := fun {Q E} q => by
      obtain ⟨hg, hdbg, hm | ⟨hm, hv, hnn⟩⟩ := hc
      · exact ld_glob (X := X.suite a ((a, oe3) :: (X.pn ++ pins))) S3 hg hm q hdbg
      · exact ld_blt (X := X.suite a ((a, oe3) :: (X.pn ++ pins))) S3 hg hm hv q hnn hdbg
    refine test (LM.here ?_)
    cases b with
    | true =>
      refine codeAny_handlers_suite_as ?_
      refine HandSPX.lands_againZ fl3 fun h4 fl4 up4 => ?_
      have J4 : Inv X pins σ1 H1 { s' with heap := h4 } := J.landed nb fl4.1 ((up.trans up3).trans up4) os ag
      obtain ⟨oe4, vs4, he4, hz4, hd4⟩ := fl4.there
      have S4 := J4.suite he4 hd4 na nL nF
      refine store_ok (X := X.suite a ((a, oe4) :: (X.pn ++ pins))) (v := .ref a) S4 hN hi (.inl hln) rfl (fun s5 S5 => ?_) (.inr hln)
      have suite : PSs (X.suite a ((a, oe4) :: (X.pn ++ pins))) [.Assign [.Name y p1] (.Name n p2) p3] (tAsg (tVar i) (gName j)) :=
        pss_one (ps_asg (pe_var (i := i) hi (.inl hln) hd1 hd2) (pg_name (i := j) hN hj (.inl hly) (hf := .inr hly)))
      have hlen : i < σ1.length := by
        rw [J.len]
        exact (List.getElem?_eq_some_iff.mp hi).1
      refine wpAny_mono (suite.run [] s5 _ H1 { nx := fun σ' H' => σ' = (σ1.set i (some (.ref a))).set j (some (.ref a)) ∧ H' = H1, rt := fun _ _ => False } S5 ⟨.ref a, by rw [List.getElem?_set_self hlen], rfl, rfl⟩) (fun fl s6 hsp => ?_) (fun _ _ z => False.elim z)
      cases fl with
      | next =>
        obtain ⟨σ6, H6, S6, eσ, eH⟩ := hsp
        subst eσ
        subst eH
        refine gone_ok (X := X.suite a ((a, oe4) :: (X.pn ++ pins))) S6 hN hi hln fun s7 S7 => ?_
        have ha7 : s7.heap.get? a = some oe4 := (S7.pin (a, oe4) (List.mem_append_left _ List.mem_cons_self)).1
        have J7 := S7.unsuite ok
        have nC : ∀ (x : Str) (c : Addr), X.env.cells.lookup x = some c → c ≠ a := fun x c e z => by
          obtain ⟨v, o, ho, hdc⟩ := J7.cell x c e
          rw [z, ha7] at ho
          cases ho
          rw [hd4] at hdc
          cases hdc
        exact ⟨_, _, track J7 s0a na nL nC nPin (exA_ok ha7 hz4 hd4), hyes rfl a na J.len⟩
      | brk => obtain ⟨_, _, _, z⟩ := hsp; exact z.elim
      | cont => obtain ⟨_, _, _, z⟩ := hsp; exact z.elim
      | ret u => obtain ⟨_, _, _, _, _, z⟩ := hsp; exact z.elim
    | false =>
      show wpAny _ X.A (handleBy (.ref a) X.env []) _ _ _
      refine wpAny_handleBy_nil ?_
      obtain ⟨w1, w2, w3, oe, vs, T, oT, ts', he, hz, hdd, h1, hr⟩ := id fl3
      unfold PySem.passOn
      refine wpAny_bind (wpAny_field he hdd h1 ?_)
      rw [if_neg (show ¬ ((Value.ref T == Value.none) = true) from by simp)]
      have fin : wpAny (model X.prog X.w) X.A (setFlight (.ref a) X.env.frame) (fun _ s4 => wpAny (model X.prog X.w) X.A (throw (.ref a) : Sem Flow) (SP X pins D) X.xe s4) X.xe { s' with heap := h3 } := by
        rw [hf]
        refine HandSPX.setFlight_upZ fl3 fun h4 hh4 up4 => wpAny_throw (tk _ _ ?_)
        exact ⟨a, B, sI, pins, σ1, H1, cls, d, rfl, J, nb, (up.trans up3).trans up4, .inr (.inr (by rw [hs]; exact hh4)), na, os, ag, hno rfl⟩
      first
        | exact wpAny_bind (wpAny_pure (wpAny_bind fin))
        | exact wpAny_bind fin
  · cases fl with
    | next =>
      obtain ⟨σ', H', J', q⟩ := hsp
      exact wpAny_execs_nil ⟨σ', H', J'.ofTry ok, q⟩
    | brk =>
      obtain ⟨σ', H', J', q⟩ := hsp
      exact ⟨σ', H', J'.ofTry ok, q⟩
    | cont =>
      obtain ⟨σ', H', J', q⟩ := hsp
      exact ⟨σ', H', J'.ofTry ok, q⟩
    | ret u =>
      obtain ⟨v, σ', H', J', r, q⟩ := hsp
      exact ⟨v, σ', H', J'.ofTry ok, r, q⟩
end
/-! ### isinstance and fields of such an error -/
structure ExcK (K : PySem.W.Frag) (C : Addr) : Prop where
  cl : (PySem.W.clsIn K C).isSome = true
  ga : PySem.W.findIn K (.ref C) "__getattribute__" = some (some (.builtin "BaseException.__getattribute__"))
  gg : PySem.W.findIn K (.ref C) "__getattr__" = some none
  sb : PySem.W.subIn K (.ref C) (.type "BaseException") = some true
  ha : PySem.W.findIn K (.ref C) "__class__" = some (some (.builtin "object.__class__"))
  hn : PySem.W.specialIn K (.builtin "object.__class__") "__get__" = some (some (.builtin "getset_descriptor.__get__"))
  ht : PySem.W.takesIn K (.builtin "object.__class__") = some true
  hm : PySem.W.mroIn K C (.type "object") = some true
/-- isinstance(e, D) -/
def rIsA (K : PySem.W.Frag) : List V → Hp → VK → Prop := fun xs H Q => ∃ (a C d : Addr) (fs : List (Str × V)) (c : V) (cv : Value) (b : Bool), xs = [.ref a, c] ∧ ClsV c cv ∧ ExcK K C ∧ H a = some (ExA (.ref C) (some d) a) ∧ H d = some (.xd fs) ∧ PySem.W.kitOne K (.ref C) cv = some b ∧ Q (.bl b) H
section
variable {X : Cx} {pins : List (Addr × Obj)} {σ : L2.St} {H : Hp} {s : Shared}
theorem exA_at {a C d : Addr} {fs : List (Str × V)} (I : Inv X pins σ H s) (ha : H a = some (ExA (.ref C) (some d) a)) (hd : H d = some (.xd fs)) :
    ∃ (oe od : Obj) (mA : Str → Option Value), PySem.W.InstAt s.heap a oe C (some od) ∧ (∀ name, PySem.W.lookIn name od = some (mA name)) ∧ ∀ f, RelO (fs.lookup f) (mA f) := by
  obtain ⟨⟨oe, vs, ho, hz, hdat⟩, _, _⟩ := I.hok a _ ha
  obtain ⟨mA, hns, hr⟩ := (show ObjOk X.prog X.w H s.heap d (.xd fs) from I.hok d _ hd)
  obtain ⟨od, hod, hl⟩ := lookIn_ns hns
  exact ⟨oe, od, mA, ⟨ho, hz.1, by unfold PySem.W.notCls; rw [hdat] <;> rfl, by rw [hz.2]; exact hod⟩, hl, hr⟩
theorem call_isA : CallR X (.builtin "isinstance") (rIsA X.K) := by
  intro pins s σ H xs us Q I r h
  obtain ⟨a, C, d, fs, c, cv, b, rfl, k, T, ha, hd, e, q⟩ := h
  obtain ⟨u1, u2, rfl, r1, r2⟩ := vals2 r
  cases (show u1 = Value.ref a from r1)
  have e2 := k.eq r2
  subst e2
  obtain ⟨oe, od, mA, J, _, _⟩ := exA_at I ha hd
  exact PySem.W.kia_one (PySem.W.kitx_exc T.cl T.ga T.gg T.sb T.ha T.hn T.ht T.hm) I.kIn J e (fun z => nomatch z) fun t => ⟨.bl b, H, I.tok t, rfl, q⟩
/-- e.f -/
def tXa (K : PySem.W.Frag) (f : Str) (te : TE) : TE := fun σ H Q => te σ H fun x H1 => ∃ (a C d : Addr) (fs : List (Str × V)) (v : V), x = .ref a ∧ H1 a = some (ExA (.ref C) (some d) a) ∧ H1 d = some (.xd fs) ∧ XfC K C ∧ PySem.W.findIn K (.ref C) f = some none ∧ fs.lookup f = some v ∧ Q v H1
theorem pe_xa {e : Expr} {te : TE} {n : Str} {pos : Pos} (he : PE X e te) (hb : attributeBase e n X.env (eval e X.env) = eval e X.env := by rfl) : PE X (.Attribute e n pos) (tXa X.K n te) := by
  refine ⟨fun pins s σ H Q I h => ?_⟩
  refine attr_of hb (thn (he.run pins s σ H _ I h) fun u s1 hh => ?_)
  obtain ⟨x, H1, I1, rx, a, C, d, fs, v, ex, ha, hd, T, hno, l, q⟩ := hh
  subst ex
  obtain rfl : u = Value.ref a := rx
  obtain ⟨oe, od, mA, J, hl, hr⟩ := exA_at I1 ha hd
  obtain ⟨u, hu, ru⟩ := RelO.some_of (v := v) (o := mA n) (by rw [← l]; exact hr n)
  exact HandSPX.exc_get I1.kIn J T.ga T.gg T.exC (PySem.W.findObj_own T.hdC hno rfl (by rw [hl, hu])) (handed_of ru) ⟨v, H1, I1.tok _, ru, q⟩
end
end My
/-! Defs by name, the pen. -/
namespace My
open PySem PySem.Spec PyProof.Rows L2
/-- a def of the module that keeps its promise -/
structure DefAt (P : Program) (w : World) (K : PySem.W.Frag) (mg : Str → Option Value) (base : Heap) (CX : CXT) (k : Nat) (x : Str) (ps : List Str) (sp : Sp) : Prop where
  ex : ∃ f fd, FnOk P w K mg base CX k f fd ps sp ∧ mg x = some (.ref f) ∧ PySem.W.keepIn K (.ref f) = true ∧ L2.Binds K fd ps []
structure DefG (P : Program) (w : World) (K : PySem.W.Frag) (mg : Str → Option Value) (base : Heap) (CX : CXT) (k : Nat) (x : Str) (ps : List Str) (sp : Sp) : Prop where
  ex : ∃ f fd, FnG P w K mg base CX k f fd ps sp ∧ mg x = some (.ref f) ∧ PySem.W.keepIn K (.ref f) = true ∧ L2.Binds K fd ps []
section
variable {X : Cx} {CX : CXT} {k : Nat} {ps : List Str} {sp : Sp} {E : XK} {x : Str} {e : Expr} {es : List Expr} {t : TA} {p pos : Pos}
theorem pe_d (D : DefAt X.prog X.w X.K X.mg X.base CX k x ps sp) (hr : Room k X.A) (hg : Gl X x) (hx : Passes CX X E) (ha : PA X (e :: es) t) (hdb : (x == ("__debug__" : Str)) = false := by decide)
    (hs : starEach (e :: es) X.env = (false, eval e X.env) :: starEach es X.env := by rfl) (hpl : (backTo pos (starEach es X.env)).any (·.1) = false := by rfl) : PE X (.Call (.Name x p) (e :: es) [] pos) (tCall sp [] E t) := by
  obtain ⟨f, fd, F, m, hk, b⟩ := D.ex
  exact pe_call F hr hg m hk b .nil hx ha hdb hs hpl
theorem pe_dG (D : DefG X.prog X.w X.K X.mg X.base CX k x ps sp) (hgd : X.A.guards = some []) (hr : Room k X.A) (hg : Gl X x) (hx : Passes CX X E) (ha : PA X (e :: es) t) (hdb : (x == ("__debug__" : Str)) = false := by decide)
    (hs : starEach (e :: es) X.env = (false, eval e X.env) :: starEach es X.env := by rfl) (hpl : (backTo pos (starEach es X.env)).any (·.1) = false := by rfl) : PE X (.Call (.Name x p) (e :: es) [] pos) (tCall sp [] E t) := by
  obtain ⟨f, fd, F, m, hk, b⟩ := D.ex
  exact pe_callG F hgd hr hg m hk b hx ha hdb hs hpl
end
/-- a class of the module that is made by its __init__, some defaults filled up -/
structure MakeAt (P : Program) (w : World) (K : PySem.W.Frag) (mg : Str → Option Value) (base : Heap) (CX : CXT) (k : Nat) (x : Str) (C : Addr) (ps : List Str) (sp : Sp) (dvs : List V) : Prop where
  ex : ∃ f fd ds, Mk K C f ∧ FnOk P w K mg base CX k f fd ps sp ∧ mg x = some (.ref C) ∧ L2.Binds K fd ps ds ∧ Vals dvs ds
structure MethAt (P : Program) (w : World) (K : PySem.W.Frag) (mg : Str → Option Value) (base : Heap) (CX : CXT) (k : Nat) (C : Addr) (m : Str) (ps : List Str) (sp : Sp) : Prop where
  ex : ∃ f fd, Meth K C m f ∧ FnOk P w K mg base CX k f fd ps sp ∧ L2.Binds K fd ps []
/-- .. called with keywords alone: their names ks, gV puts them in the parameters' order -/
structure MethK (P : Program) (w : World) (K : PySem.W.Frag) (mg : Str → Option Value) (base : Heap) (CX : CXT) (k : Nat) (C : Addr) (m : Str) (ps ks : List Str) (sp : Sp) (gV : List V → List V → List V) : Prop where
  ex : ∃ f fd g, Meth K C m f ∧ FnOk P w K mg base CX k f fd ps sp ∧ KBn K fd ps 1 ks g gV
structure CallAt (P : Program) (w : World) (K : PySem.W.Frag) (mg : Str → Option Value) (base : Heap) (CX : CXT) (k : Nat) (C : Addr) (ps : List Str) (sp : Sp) : Prop where
  ex : ∃ f fd, StX.CallO K C f ∧ FnOk P w K mg base CX k f fd ps sp ∧ L2.Binds K fd ps []
section
variable {X : Cx} {CX : CXT} {k : Nat} {C : Addr} {ps ks : List Str} {sp : Sp} {E : XK} {x m : Str} {e o fe : Expr} {es : List Expr} {kws : List Keyword} {t tk : TA} {ta tf : TE} {p pos apos : Pos} {dvs : List V} {gV : List V → List V → List V}
theorem pe_mk (M : MakeAt X.prog X.w X.K X.mg X.base CX k x C ps sp dvs) (hr : Room (k + 1) X.A) (hg : Gl X x) (hx : Passes CX X E) (ha : PA X (e :: es) t) (hdb : (x == ("__debug__" : Str)) = false := by decide)
    (hs : starEach (e :: es) X.env = (false, eval e X.env) :: starEach es X.env := by rfl) (hpl : (backTo pos (starEach es X.env)).any (·.1) = false := by rfl) : PE X (.Call (.Name x p) (e :: es) [] pos) (tMake C sp dvs E t) := by
  obtain ⟨f, fd, ds, mk, F, hm, b, d⟩ := M.ex
  exact pe_make mk F hr hg hm b d hx ha hdb hs hpl
theorem pe_mt {pl : Sem Bool} (c : Cls X.K C) (M : MethAt X.prog X.w X.K X.mg X.base CX k C m ps sp) (hr : Room k X.A) (hx : Passes CX X E) (he : PE X o ta) (ha : PA X (e :: es) t)
    (hst : starEach (e :: es) X.env = (false, eval e X.env) :: starEach es X.env := by rfl) (hpl : (backTo pos (starEach es X.env)).any (·.1) = false := by rfl)
    (ht : eval (.Call (.Attribute o m apos) (e :: es) [] pos) X.env = (do
      let ov ← eval o X.env
      standAt apos.atName
      let (f, first) ← holding [ov] (getMethod ov m pl)
      callWith pos f first (backTo pos (starEach (e :: es) X.env)) (backToKw pos (keywordEach [] X.env))) := by rfl) :
    PE X (.Call (.Attribute o m apos) (e :: es) [] pos) (tMeth C m sp [] E ta t) := by
  obtain ⟨f, fd, hm, F, b⟩ := M.ex
  exact pe_meth he c hm F hr b .nil hx ha hst hpl ht
theorem pe_mt0 {pl : Sem Bool} (c : Cls X.K C) (M : MethAt X.prog X.w X.K X.mg X.base CX k C m ps sp) (hr : Room k X.A) (hx : Passes CX X E) (he : PE X o ta)
    (ht : eval (.Call (.Attribute o m apos) [] [] pos) X.env = (do
      let ov ← eval o X.env
      standAt apos.atName
      let (f, first) ← holding [ov] (getMethod ov m pl)
      callWith pos f first (backTo pos (starEach [] X.env)) (backToKw pos (keywordEach [] X.env))) := by rfl) :
    PE X (.Call (.Attribute o m apos) [] [] pos) (tMeth C m sp [] E ta tNil) := by
  obtain ⟨f, fd, hm, F, b⟩ := M.ex
  exact pe_meth0 he c hm F hr b .nil hx ht
/-- o.m(k = v, ..) -/
def tMethK (C : Addr) (m : Str) (j : Nat) (sp : Sp) (gV : List V → List V → List V) (E : XK) (ta : TE) (tk : TA) : TE := fun σ H Q => ta σ H fun x H1 => ∃ a dx fs, x = .ref a ∧ H1 a = some (.ins C dx fs) ∧ fs.lookup m = none ∧
  tk σ H1 fun zs H2 => zs.length = j ∧ sp (gV [.ref a] zs) H2 Q E
theorem pe_mtK {pl : Sem Bool} (c : Cls X.K C) (M : MethK X.prog X.w X.K X.mg X.base CX k C m ps ks sp gV) (hr : Room k X.A) (hx : Passes CX X E) (he : PE X o ta) (hkw : PK X kws tk)
    (hall : (backToKw pos (keywordEach kws X.env)).all (·.1.isSome) = true := by rfl) (hks : (backToKw pos (keywordEach kws X.env)).filterMap (·.1) = ks := by rfl)
    (hpl : ((backTo pos (starEach [] X.env)).any (·.1) || (backToKw pos (keywordEach kws X.env)).any (·.1.isNone)) = false := by rfl)
    (ht : eval (.Call (.Attribute o m apos) [] kws pos) X.env = (do
      let ov ← eval o X.env
      standAt apos.atName
      let (f, first) ← holding [ov] (getMethod ov m pl)
      callWith pos f first (backTo pos (starEach [] X.env)) (backToKw pos (keywordEach kws X.env))) := by rfl) :
    PE X (.Call (.Attribute o m apos) [] kws pos) (tMethK C m ks.length sp gV E ta tk) := by
  obtain ⟨f, fd, g, hm, F, b⟩ := M.ex
  refine ⟨fun pins s σ H Q I h => ?_⟩
  refine PySem.W.methodCall_KW (pl := pl) (thn (he.run pins s σ H _ I h) fun u s1 ⟨x, H1, I1, rx, a, dx, fs, ex, ea, l, q⟩ => ?_) ht
  subst ex
  obtain rfl : u = Value.ref a := rx
  refine getmeth_ok I1 ea c hm l ?_
  refine PySem.W.callWith_KW0 (first := [.ref a]) (h₀ := X.base) I.ok.mod.kin hm.kp hall (thn (hkw.run pos pins s1 σ H1 _ I1 q) fun ws s2 ⟨zs, H2, I2, rz, l2, q2⟩ => ⟨I2.kIn, ?_⟩) hpl
  rw [hks]
  exact run_fnN (us := [.ref a]) (vs := [.ref a]) F hr b hx I2 (.cons rfl .nil) rz rfl l2 q2
theorem pe_cl (M : CallAt X.prog X.w X.K X.mg X.base CX k C ps sp) (hr : Room k X.A) (hx : Passes CX X E) (hf : PE X fe tf) (ha : PA X (e :: es) t)
    (ht : eval (.Call fe (e :: es) [] pos) X.env = (do callWith pos (← eval fe X.env) [] (backTo pos (starEach (e :: es) X.env)) (backToKw pos (keywordEach [] X.env))) := by rfl)
    (hs : starEach (e :: es) X.env = (false, eval e X.env) :: starEach es X.env := by rfl) (hpl : (backTo pos (starEach es X.env)).any (·.1) = false := by rfl) : PE X (.Call fe (e :: es) [] pos) (StX.tCallO X C sp E tf t) := by
  obtain ⟨f, fd, c, F, b⟩ := M.ex
  refine StX.pe_callO hf c (fun A outer s H us vs Q E hr e0 r hsp => ?_) hr hx ha ht hs hpl
  have hl : (us ++ []).length = ps.length := by rw [List.append_nil, ← r.length]; exact F.len _ _ _ _ hsp
  have hb := b s us (e0.mod.kin.keeps fun b o e => (e0.bs b o e).1) hl
  rw [List.append_nil] at hb
  exact F.run A outer s H ⟨us, []⟩ us vs Q E hr e0 hb r hsp
end
/-- an own comparison -/
structure CmpAt (P : Program) (w : World) (K : PySem.W.Frag) (mg : Str → Option Value) (base : Heap) (CX : CXT) (k : Nat) (C : Addr) (m : Str) (ps : List Str) (sp : Sp) : Prop where
  ex : ∃ f fd, PySem.W.findIn K (.ref C) m = some (some (.ref f)) ∧ PySem.W.isFn K (.ref f) = true ∧ FnOk P w K mg base CX k f fd ps sp ∧ L2.Binds K fd ps []
def rCmpO (K : PySem.W.Frag) (C : Addr) (sp : Sp) (E : XK) : R2 := fun x y H Q => ∃ a dx fs t, x = .ref a ∧ H a = some (.ins C dx fs) ∧ TyX K H y t ∧ PySem.W.notFirst K C t = true ∧ sp [.ref a, y] H Q E
theorem op_cmpO {X : Cx} {CX : CXT} {k : Nat} {C : Addr} {m : Str} {ps : List Str} {sp : Sp} {E : XK} {op : CmpOp} (M : CmpAt X.prog X.w X.K X.mg X.base CX k C m ps sp) (hr : Room k X.A) (hx : Passes CX X E) (hop : (cmpInfo op).2.1 = m := by rfl)
    (hco : ∀ v u, compareOp op v u = richCompare op v u := by intro _ _; rfl) : OpR X (compareOp op) (rCmpO X.K C sp E) := by
  intro pins s σ H x y v u Q I rx ry h
  obtain ⟨f, fd, hs, hf, F, hb⟩ := M.ex
  obtain ⟨a, dx, fs, t, rfl, ha, ty, hn, hsp⟩ := h
  obtain rfl : v = Value.ref a := rx
  obtain ⟨mA, J, _⟩ := ins_get I.hok ha
  obtain ⟨od, J, _⟩ := J.look
  obtain ⟨m', hF⟩ := I.fr
  obtain ⟨Pz, Z, pz, _⟩ := kit_of I ry ty
  rw [hco]
  refine PySem.W.cmp_K (op := op) (tb := t) hr.units0 hF I.ok.mod.kin J (Z.ty _ _ I.kIn pz) hn (by rw [hop]; exact hs) hf ?_
  have hl := F.len _ _ _ _ hsp
  have r2 : Vals [V.ref a, y] [Value.ref a, u] := .cons rfl (.cons ry .nil)
  refine wpAny_call (codeAny_mono (F.run X.A X.stack s H ⟨[.ref a, u], []⟩ [.ref a, u] [.ref a, y] _ E hr I.env0 (by
    have := hb s [.ref a, u] I.kIn (by simpa using hl)
    simpa using this) r2 hsp) fun r s' hq => ?_)
  cases r with
  | error e => exact hx pins σ H s e s' I hq
  | ok fl =>
    cases fl with
    | ret z =>
      have q := I.after hq
      obtain ⟨zv, H', I', rz, q'⟩ := id q
      cases z with
      | notImplemented => cases zv <;> first | (cases rz; done) | (obtain ⟨_, rz⟩ := rz; cases rz)
      | _ => exact q
    | next => exact False.elim hq
    | brk => exact False.elim hq
    | cont => exact False.elim hq
/-! ### the pen: a list of the cells, an index, what is left of a great cell -/
def PenAt (H : Hp) (pn : Addr) (n : Nat) : Prop := ∃ (cl : Addr) (ns : List Int) (at_ rest : Int), H pn = some (.lst [.ref cl, .int at_, .int rest]) ∧ H cl = some (.lst (ns.map V.int)) ∧ ns.length ≤ 63 ∧ 0 ≤ at_ ∧ at_ ≤ n
/-- all but pn stays -/
def But (pn : Addr) (H H' : Hp) : Prop := ∀ b o, H b = some o → b ≠ pn → H' b = some o
theorem But.refl (pn : Addr) (H : Hp) : But pn H H := fun _ _ h _ => h
theorem But.trans {pn : Addr} {H H1 H2 : Hp} (a : But pn H H1) (b : But pn H1 H2) : But pn H H2 := fun c o h n => b c o (a c o h n) n
theorem But.new {pn p : Addr} {H : Hp} {o : HO} (h : H p = none) : But pn H (upd H p o) := fun b u e _ => by rw [upd_ne (ne_of_none e h)]; exact e
theorem But.put {pn : Addr} {H : Hp} {o : HO} : But pn H (upd H pn o) := fun b u e n => by rw [upd_ne n]; exact e
theorem pen_new {H : Hp} {pn p : Addr} {n : Nat} {o : HO} (h : PenAt H pn n) (hp : H p = none) : PenAt (upd H p o) pn n := by
  obtain ⟨cl, ns, a, r, h1, h2, h3⟩ := h
  exact ⟨cl, ns, a, r, by rw [upd_ne (ne_of_none h1 hp)]; exact h1, by rw [upd_ne (ne_of_none h2 hp)]; exact h2, h3⟩
theorem PenAt.le {H : Hp} {pn : Addr} {n m : Nat} (h : PenAt H pn n) (le : n ≤ m) : PenAt H pn m := by
  obtain ⟨cl, ns, a, r, h1, h2, h3, h4, h5⟩ := h
  exact ⟨cl, ns, a, r, h1, h2, h3, h4, by omega⟩
def spDraw : Sp := fun vs H Q _ => ∃ (pn : Addr) (m : Int) (n : Nat), vs = [.ref pn, .int m] ∧ 0 < m ∧ m.natAbs.log2 < 9000 ∧ PenAt H pn n ∧ n < 100000 ∧
  ∀ (d : Int) (H' : Hp), 0 ≤ d → d < m → PenAt H' pn (n + 1) → But pn H H' → Q (.int d) H'
/-- pick(pen, some): one of some -/
def spPick : Sp := fun vs H Q _ => ∃ (pn l : Addr) (n : Nat) (xs : List V), vs = [.ref pn, .ref l] ∧ H l = some (.lst xs) ∧ l ≠ pn ∧ 0 < xs.length ∧ xs.length ≤ 1000 ∧ PenAt H pn n ∧ n < 100000 ∧
  ∀ (v : V) (H' : Hp), v ∈ xs → PenAt H' pn (n + 1) → But pn H H' → Q v H'
def spPen (K : PySem.W.Frag) : Sp := fun vs H Q _ => ∃ (a : Addr) (ns : List Int), vs = [.ref a] ∧ SqL K H a (ns.map V.int) ∧
  ∀ (pn : Addr) (H' : Hp), H pn = none → PenAt H' pn 0 → Same H H' → Q (.ref pn) H'
/-! ### lists of ints as data -/
theorem dp_ints {K : PySem.W.Frag} {H : Hp} : ∀ ns : List Int, DpAll K H (ns.map V.int) (ns.map PyData.int)
  | [] => .nil
  | n :: ns => .cons (.int n) (dp_ints ns)
theorem lay_ints : ∀ ns : List Int, PyData.canLayAll0 (ns.map PyData.int) = true
  | [] => rfl
  | n :: ns => by
    show (true && PyData.canLayAll0 (ns.map PyData.int)) = true
    rw [lay_ints ns]
    rfl
theorem dep_ints : ∀ ns : List Int, PyData.depthAll (ns.map PyData.int) = 0
  | [] => rfl
  | n :: ns => by
    show max 0 (PyData.depthAll (ns.map PyData.int)) = 0
    rw [dep_ints ns]
    rfl
theorem shaped_ints (ns : List Int) : SeqAt.shaped (.list (ns.map PyData.int)) = true := by
  show (PyData.canLayAll0 (ns.map PyData.int) && decide (PyData.depthAll (ns.map PyData.int) + 1 ≤ 64)) = true
  rw [lay_ints, dep_ints]
  rfl
theorem pow_lt {i : Int} {b : Nat} (h0 : 0 ≤ i) (h : i < 2 ^ b) : i.natAbs < 2 ^ b := by
  have e : ((2 ^ b : Nat) : Int) = (2 : Int) ^ b := by simp
  omega
theorem mix_lt {x a c d e : Int} (x0 : 0 ≤ x) (x1 : x < 2147483648) (a0 : 0 ≤ a) (a1 : a < 100000) (c0 : 0 ≤ c) (c1 : c ≤ 1000) (d0 : 0 ≤ d) (d1 : d ≤ 100000) (e0 : 0 ≤ e) (e1 : e ≤ 100000) : (x * (2 * a + c) + d * a * a + e).natAbs < 2 ^ 64 := by
  have h1 : x * (2 * a + c) ≤ 2147483648 * 201000 := Int.mul_le_mul (by omega) (by omega) (by omega) (by decide)
  have h2 : 0 ≤ x * (2 * a + c) := Int.mul_nonneg x0 (by omega)
  have h3 : d * a ≤ 100000 * 100000 := Int.mul_le_mul d1 (by omega) a0 (by decide)
  have h4 : 0 ≤ d * a := Int.mul_nonneg d0 a0
  have h5 : d * a * a ≤ (100000 * 100000) * 100000 := Int.mul_le_mul h3 (by omega) a0 (by decide)
  have h6 : 0 ≤ d * a * a := Int.mul_nonneg h4 a0
  generalize x * (2 * a + c) = y at *
  generalize d * a * a = z at *
  refine pow_lt (by omega) (by omega)
theorem cut_ints (ns : List Int) (k : Nat) : cutV (ns.map V.int) none (some (k : Int)) = (ns.take k).map V.int := by
  unfold cutV
  rw [HT.sIx_none, HT.sIx_nat, List.drop_zero, Nat.sub_zero, List.map_take, List.length_map]
  by_cases h : k ≤ ns.length
  · rw [Nat.min_eq_left h]
  · rw [Nat.min_eq_right (by omega), List.take_of_length_le (by rw [List.length_map]; exact Nat.le_refl _), List.take_of_length_le (by rw [List.length_map]; omega)]
/-- names that are still the built-in ones -/
structure BI (mg : Str → Option Value) : Prop where
  z_len : mg "len" = none
  z_abs : mg "abs" = none
  z_int : mg "int" = none
  z_bool : mg "bool" = none
  z_list : mg "list" = none
  z_repr : mg "repr" = none
  z_isinstance : mg "isinstance" = none
  z_range : mg "range" = none
end My
/-! Ints beside instances: the int's own slots decline. -/
namespace My
open PySem PySem.Spec PyProof.Rows
def Plain (h : Heap) (l : Addr) : Prop := ∃ (c : Value) (d : Option Addr) (sl : Array (Option Value)), h.get? l = some { cls := c, dict := d, data := .plain, slots := sl }
def Declines (B : Builtin) (a : Int) (t : Tok) (l : Addr) : Prop := Meets (B ⟨[.int a t, .ref l], []⟩) fun _ R s => Plain s.heap l ∧ R (.ok (.ret Value.notImplemented)) s
theorem dec_add (a : Int) (t : Tok) (l : Addr) : Declines Builtin.«int.__add__» a t l :=
  .of_wp fun prog w A R s h => by obtain ⟨hp, g, d, tk, os⟩ := s; obtain ⟨⟨c, dd, sl, hl⟩, h⟩ := h; wp_walk; exact ⟨_, rfl, h⟩
theorem dec_sub (a : Int) (t : Tok) (l : Addr) : Declines Builtin.«int.__sub__» a t l :=
  .of_wp fun prog w A R s h => by obtain ⟨hp, g, d, tk, os⟩ := s; obtain ⟨⟨c, dd, sl, hl⟩, h⟩ := h; wp_walk; exact ⟨_, rfl, h⟩
theorem dec_mul (a : Int) (t : Tok) (l : Addr) : Declines Builtin.«int.__mul__» a t l :=
  .of_wp fun prog w A R s h => by obtain ⟨hp, g, d, tk, os⟩ := s; obtain ⟨⟨c, dd, sl, hl⟩, h⟩ := h; wp_walk; exact ⟨_, rfl, h⟩
theorem dec_floordiv (a : Int) (t : Tok) (l : Addr) : Declines Builtin.«int.__floordiv__» a t l :=
  .of_wp fun prog w A R s h => by obtain ⟨hp, g, d, tk, os⟩ := s; obtain ⟨⟨c, dd, sl, hl⟩, h⟩ := h; wp_walk; exact ⟨_, rfl, h⟩
theorem dec_mod (a : Int) (t : Tok) (l : Addr) : Declines Builtin.«int.__mod__» a t l :=
  .of_wp fun prog w A R s h => by obtain ⟨hp, g, d, tk, os⟩ := s; obtain ⟨⟨c, dd, sl, hl⟩, h⟩ := h; wp_walk; exact ⟨_, rfl, h⟩
theorem dec_lt (a : Int) (t : Tok) (l : Addr) : Declines Builtin.«int.__lt__» a t l :=
  .of_wp fun prog w A R s h => by obtain ⟨hp, g, d, tk, os⟩ := s; obtain ⟨⟨c, dd, sl, hl⟩, h⟩ := h; wp_walk; exact ⟨_, rfl, h⟩
theorem dec_le (a : Int) (t : Tok) (l : Addr) : Declines Builtin.«int.__le__» a t l :=
  .of_wp fun prog w A R s h => by obtain ⟨hp, g, d, tk, os⟩ := s; obtain ⟨⟨c, dd, sl, hl⟩, h⟩ := h; wp_walk; exact ⟨_, rfl, h⟩
theorem dec_gt (a : Int) (t : Tok) (l : Addr) : Declines Builtin.«int.__gt__» a t l :=
  .of_wp fun prog w A R s h => by obtain ⟨hp, g, d, tk, os⟩ := s; obtain ⟨⟨c, dd, sl, hl⟩, h⟩ := h; wp_walk; exact ⟨_, rfl, h⟩
theorem dec_ge (a : Int) (t : Tok) (l : Addr) : Declines Builtin.«int.__ge__» a t l :=
  .of_wp fun prog w A R s h => by obtain ⟨hp, g, d, tk, os⟩ := s; obtain ⟨⟨c, dd, sl, hl⟩, h⟩ := h; wp_walk; exact ⟨_, rfl, h⟩
theorem dec_eq (a : Int) (t : Tok) (l : Addr) : Declines Builtin.«int.__eq__» a t l :=
  .of_wp fun prog w A R s h => by obtain ⟨hp, g, d, tk, os⟩ := s; obtain ⟨⟨c, dd, sl, hl⟩, h⟩ := h; wp_walk; exact ⟨_, rfl, h⟩
end My
/-! Own operators: an instance beside an instance, beside an int, an int beside it, in place, the sign. -/
namespace My
open PySem PySem.Spec PySem.Calls PyProof.Rows L2
section
open PySem.W
variable {prog : Program} {w : World} {A : Around} {E : Value → Shared → Prop} {s : Shared} {K : Frag} {x C L f f0 : Addr} {h₀ : Heap} {m : Str → Option Value} {ox : Obj} {od : Option Obj}
/-- what is known of the int's slot -/
structure IntSlot (K : Frag) (nm : String) (id : String) (B : Builtin) : Prop where
  slot : Slot "int" (PySem.dunder nm) id
  entry : entryFor table id = some B
  args : ∀ a b : Value, argsOk id ⟨[a, b], []⟩
  dec : ∀ a t l, Declines B a t l
theorem int_plain (i : Int) (t : Tok) (s : Shared) : s.TypeIs (.int i t) "int" := by
  first | exact .int | exact trivial | rfl | exact ⟨_, rfl⟩
theorem int_call {i : Int} {t : Tok} {nm id : String} {B : Builtin} {Q : Value → Shared → Prop} (S : IntSlot K nm id B) (hp : Plain s.heap x) (h : Q .notImplemented s) : wpAny (model prog w) A (call (.builtin id) [.int i t, .ref x]) Q E s :=
  call_meets S.slot (int_plain i t s) S.entry (S.args _ _) (S.dec i t x) ⟨hp, h⟩
/-- an int beside an instance: the reflected method -/
theorem binR_K {op : Operator} {i : Int} {t : Tok} {id : String} {B : Builtin} {fo ro : Option Value} {Q : Value → Shared → Prop} (S : IntSlot K op.info.2 id B) (F : Fr h₀ L s.heap m) (X₀ : K.In h₀) (I : InstAt s.heap x ox C od) (hp : Plain s.heap x) (hc : selfFirst K C = true)
    (hs : findIn K (.ref C) (PySem.dunder op.info.2) = some (some (.ref f0))) (hr : findIn K (.ref C) (dunderR op.info.2) = some (some (.ref f))) (hf : isFn K (.ref f) = true)
    (h1 : findIn K (.type "int") (PySem.dunder op.info.2) = some fo) (h2 : findIn K (.type "int") (dunderR op.info.2) = some ro) (hl : ((fo.isSome && !isSeqSlot fo) || (ro.isSome && !isSeqSlot ro)) = true) (hsub : subIn K (.ref C) (.type "int") = some false)
    (h : wpAny (model prog w) A (call (.ref f) [.ref x, .int i t]) (PySem.W.CmpBack Q) E s) : wpAny (model prog w) A (binaryOp op (.int i t) (.ref x)) Q E s := by
  have X := X₀.keeps F.keep
  obtain ⟨cd, rest, hcd, hm⟩ := ksp_first hc
  have two := ksp_try X I hr hf h
  rcases hi : op.info with ⟨sym, nm'⟩
  rw [hi] at hs hr h1 h2 S two
  dsimp only at hs hr h1 h2 S two
  have one : wpAny (model prog w) A (tryMethod (.int i t) (PySem.dunder nm') (.ref x)) (fun r s' => r = none ∧ s' = s) E s := wpAny_tryMethod_declines (int_plain i t s) S.slot (int_call S hp ⟨rfl, rfl, rfl⟩)
  obtain ⟨hh, g, d, tt, os⟩ := s
  have L1 : Looks (model prog w) hh (typeOf (.ref x)) (.ref C) := I.type
  have L2 : Looks (model prog w) hh (typeOf (.int i t)) (.type "int") := Looks.of_pure rfl
  have L3 : Looks (model prog w) hh (fillsNumberSlot (.ref C) nm') true := fills_K X hcd hm hs
  have L4 : Looks (model prog w) hh (fillsNumberSlot (.type "int") nm') true := hl ▸ ksp_fillsT X h1 h2
  have L5 : Looks (model prog w) hh (isSubtype (.ref C) (.type "int")) false := looks_subIn X hsub
  have L7 : Looks (model prog w) hh (numberSlotInPython (.type "int") nm') false := Looks.of_pure rfl
  have hne : (Value.type "int" == Value.ref C) = false := Bool.eq_false_iff.mpr fun q => by cases beq_iff_eq.mp q
  simp only [binaryOp, hi]
  refine wpAny_holding (wpAny_bind ?_)
  unfold binaryOp1
  refine wpAny_bind (L2.at (wpAny_bind (L1.at (wpAny_bind (L4.at ?_)))))
  simp only [hne, Bool.false_eq_true, if_false]
  ksp_lk
  refine wpAny_mono one (fun r s' hr' => ?_) fun _ _ e => e
  obtain ⟨rfl, rfl⟩ := hr'
  ksp_lk
  refine wpAny_mono two (fun r s' hr' => ?_) fun _ _ e => e
  obtain ⟨v, rfl, hq⟩ := hr'
  ksp_lk
  exact hq
/-- an int compared with an instance: the reflected method -/
theorem cmpR_K {op : CmpOp} {i : Int} {t : Tok} {id : String} {B : Builtin} {Q : Value → Shared → Prop} (hu : A.units < cLine) (sl : Slot "int" (cmpInfo op).2.1 id) (en : entryFor table id = some B) (ar : ∀ a b : Value, argsOk id ⟨[a, b], []⟩) (de : ∀ a t l, Declines B a t l)
    (F : Fr h₀ L s.heap m) (X₀ : K.In h₀) (I : InstAt s.heap x ox C od) (hp : Plain s.heap x) (hs : findIn K (.ref C) (cmpInfo op).2.2 = some (some (.ref f))) (hf : isFn K (.ref f) = true) (hsub : subIn K (.ref C) (.type "int") = some false)
    (h : wpAny (model prog w) A (call (.ref f) [.ref x, .int i t]) (PySem.W.CmpBack Q) E s) (h1 : oneThing? op (.int i t) (.ref x) = none) : wpAny (model prog w) A (richCompare op (.int i t) (.ref x)) Q E s := by
  have X := X₀.keeps F.keep
  have two : wpAny (model prog w) A (tryCompare (.ref x) (cmpInfo op).2.2 (.int i t)) (fun r s' => ∃ v, r = some v ∧ Q v s') E s := by
    unfold tryCompare
    refine wpAny_bind (ifBound_K X I hs hf (wpAny_mono h (fun v s' hv => ?_) fun _ _ e => e))
    cases v <;> first | exact hv.elim | exact wpAny_pure ⟨_, rfl, hv⟩
  have one : wpAny (model prog w) A (tryCompare (.int i t) (cmpInfo op).2.1 (.ref x)) (fun r s' => r = none ∧ s' = s) E s :=
    wpAny_tryCompare_declines (int_plain i t s) sl (call_meets sl (int_plain i t s) en (ar _ _) (de i t x) ⟨hp, rfl, rfl, rfl⟩)
  have hne : (Value.type "int" != Value.ref C) = true := by
    have : (Value.type "int" == Value.ref C) = false := Bool.eq_false_iff.mpr fun q => by cases beq_iff_eq.mp q
    simp [bne, this]
  unfold richCompare
  simp only [h1]
  refine wpAny_holding (wpAny_bind (wpAny_cRoomFor hu ?_))
  refine wpAny_bind ((Looks.of_pure (show typeOf (.int i t) = pure (.type "int") from rfl)).here (wpAny_bind (I.type.here ?_)))
  simp only [hne, if_true]
  refine wpAny_bind ((looks_subIn X hsub).here ?_)
  simp only [Bool.false_eq_true, if_false, Bool.not_false, if_true]
  refine wpAny_bind (wpAny_mono one (fun r s' z => ?_) fun _ _ e => e)
  obtain ⟨rfl, rfl⟩ := z
  refine wpAny_bind (wpAny_mono two (fun r s' z => ?_) fun _ _ e => e)
  obtain ⟨v, rfl, hq⟩ := z
  exact wpAny_pure hq
end
/-! ### a method run somewhere below the body -/
structure Und (X : Cx) (n : Nat) (A : Around) : Prop where
  room : Room n A
  fr : A.frames = X.A.frames
theorem Und.here {X : Cx} {n : Nat} (hr : Room n X.A) : Und X n X.A := ⟨hr, rfl⟩
theorem Und.in1 {X : Cx} {n : Nat} {A : Around} (u : Und X (n + 1) A) : Und X n A.in1 := ⟨u.room.in1, u.fr⟩
section
variable {X : Cx} {pins : List (Addr × Obj)} {σ : L2.St} {H : Hp} {s : Shared} {CX : CXT} {k : Nat} {ps : List Str} {sp : Sp} {E : XK} {C : Addr} {m : Str}
theorem run_at {f : Addr} {fd : FuncData} {A : Around} {vs : List V} {us : List Value} {Q : VK} (F : FnOk X.prog X.w X.K X.mg X.base CX k f fd ps sp) (hb : L2.Binds X.K fd ps []) (hx : Passes CX X E) (u : Und X k A) (I : Inv X pins σ H s) (r : Vals vs us) (hsp : sp vs H Q E) :
    wpAny (model X.prog X.w) A (call (.ref f) us) (EP X pins σ Q) X.xe s := by
  have e0 : Env0 X.prog X.w X.K X.mg X.base A X.stack s H := by
    have e := I.env0
    exact ⟨by rw [u.fr]; exact e.frames, e.mod, e.bs, e.bsz, e.funs, e.frf, e.hok, e.bare⟩
  have hl : (us ++ []).length = ps.length := by rw [List.append_nil, ← r.length]; exact F.len _ _ _ _ hsp
  have bd := hb s us I.kIn hl
  rw [List.append_nil] at bd
  refine wpAny_call (codeAny_mono (F.run A X.stack s H ⟨us, []⟩ us vs _ E u.room e0 bd r hsp) fun r s' hq => ?_)
  match r, hq with
  | .error e, hq => exact hx pins σ H s e s' I hq
  | .ok (.ret z), hq => exact I.after hq
  | .ok .next, hq => exact False.elim hq
  | .ok .brk, hq => exact False.elim hq
  | .ok .cont, hq => exact False.elim hq
theorem ep_back {Q : VK} {v : Value} {s' : Shared} (h : EP X pins σ Q v s') : PySem.W.CmpBack (EP X pins σ Q) v s' := by
  cases v with
  | notImplemented =>
    obtain ⟨zv, H', I', rz, q'⟩ := h
    cases zv <;> first | (cases rz; done) | (obtain ⟨_, rz⟩ := rz; cases rz)
  | _ => exact h
theorem ins_plain {a dx : Addr} {fs : List (Str × V)} (I : Inv X pins σ H s) (ha : H a = some (.ins C dx fs)) : ∃ (ox od : Obj), PySem.W.InstAt s.heap a ox C (some od) ∧ Plain s.heap a := by
  obtain ⟨mA, J, _⟩ := ins_get I.hok ha
  have g : Plain s.heap a := ⟨_, _, _, J.1⟩
  obtain ⟨od, J, _⟩ := J.look
  exact ⟨_, od, J, g⟩
/-- a two-place method of C beside an instance of C or an int -/
structure BinF (K : PySem.W.Frag) (C : Addr) (nm : String) : Prop where
  sf : PySem.W.selfFirst K C = true
  rc : ∃ rc, PySem.W.findIn K (.ref C) (dunderR nm) = some rc ∧ (rc = none ∨ ∃ g : Addr, rc = some (.ref g))
  i1 : ∃ fo, PySem.W.findIn K (.type "int") (PySem.dunder nm) = some fo
  i2 : ∃ ro, PySem.W.findIn K (.type "int") (dunderR nm) = some ro
  su : PySem.W.subIn K (.type "int") (.ref C) = some false
def OrInt (H : Hp) (C : Addr) (y : V) : Prop := (∃ b dy gs, y = .ref b ∧ H b = some (.ins C dy gs)) ∨ ∃ j, y = .int j
def rBinO (C : Addr) (sp : Sp) (E : XK) : R2 := fun x y H Q => ∃ a dx fs, x = .ref a ∧ H a = some (.ins C dx fs) ∧ OrInt H C y ∧ sp [x, y] H Q E
theorem op_binO {op : Operator} (M : CmpAt X.prog X.w X.K X.mg X.base CX k C m ps sp) (B : BinF X.K C op.info.2) (hr : Room k X.A) (hx : Passes CX X E) (hm : PySem.dunder op.info.2 = m := by rfl) : OpR X (binaryOp op) (rBinO C sp E) := by
  intro pins s σ H x y v u Q I rx ry h
  obtain ⟨f, fd, hs, hf, F, hb⟩ := M.ex
  obtain ⟨a, dx, fs, rfl, ha, oi, hsp⟩ := h
  obtain rfl : v = Value.ref a := rx
  obtain ⟨ox, od, J, _⟩ := ins_plain I ha
  obtain ⟨m', hF⟩ := I.fr
  subst hm
  have go : wpAny (model X.prog X.w) X.A (call (.ref f) [.ref a, u]) (PySem.W.CmpBack (EP X pins σ Q)) X.xe s := wpAny_mono (run_at (vs := [.ref a, y]) F hb hx (Und.here hr) I (.cons rfl (.cons ry .nil)) hsp) (fun _ _ z => ep_back z) fun _ _ z => z
  rcases oi with ⟨b, dy, gs, rfl, hb'⟩ | ⟨j, rfl⟩
  · obtain rfl : u = Value.ref b := ry
    obtain ⟨oy, od', J', _⟩ := ins_plain I hb'
    exact PySem.W.binop_K hF I.ok.mod.kin J J'.type B.sf hs hf go
  · obtain ⟨t, rfl⟩ := ry
    obtain ⟨rc, r1, r2⟩ := B.rc
    obtain ⟨fo, i1⟩ := B.i1
    obtain ⟨ro, i2⟩ := B.i2
    exact PySem.W.ksp_binT hF I.ok.mod.kin J rfl B.sf hs hf r1 r2 i1 i2 B.su go
/-- an int beside an instance: the reflected method -/
structure RefF (K : PySem.W.Frag) (C : Addr) (nm : String) : Prop where
  sf : PySem.W.selfFirst K C = true
  f0 : ∃ f : Addr, PySem.W.findIn K (.ref C) (PySem.dunder nm) = some (some (.ref f))
  ii : ∃ fo ro, PySem.W.findIn K (.type "int") (PySem.dunder nm) = some fo ∧ PySem.W.findIn K (.type "int") (dunderR nm) = some ro ∧ ((fo.isSome && !isSeqSlot fo) || (ro.isSome && !isSeqSlot ro)) = true
  su : PySem.W.subIn K (.ref C) (.type "int") = some false
def rBinR (C : Addr) (sp : Sp) (E : XK) : R2 := fun x y H Q => ∃ i b dy gs, x = .int i ∧ y = .ref b ∧ H b = some (.ins C dy gs) ∧ sp [y, x] H Q E
theorem op_binR {op : Operator} {id : String} {Bu : Builtin} (M : CmpAt X.prog X.w X.K X.mg X.base CX k C m ps sp) (S : IntSlot X.K op.info.2 id Bu) (B : RefF X.K C op.info.2) (hr : Room k X.A) (hx : Passes CX X E) (hm : dunderR op.info.2 = m := by rfl) : OpR X (binaryOp op) (rBinR C sp E) := by
  intro pins s σ H x y v u Q I rx ry h
  obtain ⟨f, fd, hs, hf, F, hb⟩ := M.ex
  obtain ⟨i, b, dy, gs, rfl, rfl, hb', hsp⟩ := h
  obtain rfl : u = Value.ref b := ry
  obtain ⟨t, rfl⟩ := rx
  obtain ⟨ox, od, J, pl⟩ := ins_plain I hb'
  obtain ⟨m', hF⟩ := I.fr
  subst hm
  obtain ⟨f0, h0⟩ := B.f0
  obtain ⟨fo, ro, i1, i2, i3⟩ := B.ii
  exact binR_K S hF I.ok.mod.kin J pl B.sf h0 hs hf i1 i2 i3 B.su (wpAny_mono (run_at (vs := [.ref b, .int i]) F hb hx (Und.here hr) I (.cons rfl (.cons ⟨t, rfl⟩ .nil)) hsp) (fun _ _ z => ep_back z) fun _ _ z => z)
theorem is_add {K : PySem.W.Frag} : IntSlot K (Operator.info .Add).2 "int.__add__" Builtin.«int.__add__» := ⟨PySem.F.slot_int_add, PySem.F.entry_int_add, PySem.F.args_int_add_2, dec_add⟩
theorem is_sub {K : PySem.W.Frag} : IntSlot K (Operator.info .Sub).2 "int.__sub__" Builtin.«int.__sub__» := ⟨PySem.F.slot_int_sub, PySem.F.entry_int_sub, PySem.F.args_int_sub_2, dec_sub⟩
theorem is_mul {K : PySem.W.Frag} : IntSlot K (Operator.info .Mult).2 "int.__mul__" Builtin.«int.__mul__» := ⟨PySem.F.slot_int_mul, PySem.F.entry_int_mul, PySem.F.args_int_mul_2, dec_mul⟩
/-- an int compared with an instance -/
def rCmpR (C : Addr) (sp : Sp) (E : XK) : R2 := fun x y H Q => ∃ i b dy gs, x = .int i ∧ y = .ref b ∧ H b = some (.ins C dy gs) ∧ sp [y, x] H Q E
theorem op_cmpRv {op : CmpOp} {id : String} {Bu : Builtin} (M : CmpAt X.prog X.w X.K X.mg X.base CX k C m ps sp) (su : PySem.W.subIn X.K (.ref C) (.type "int") = some false) (hr : Room k X.A) (hx : Passes CX X E) (hm : (cmpInfo op).2.2 = m) (hco : ∀ v u, compareOp op v u = richCompare op v u)
    (h1 : ∀ i t b, oneThing? op (.int i t) (.ref b) = none) (sl : Slot "int" (cmpInfo op).2.1 id) (en : entryFor table id = some Bu) (ar : ∀ a b : Value, argsOk id ⟨[a, b], []⟩) (de : ∀ a t l, Declines Bu a t l) : OpR X (compareOp op) (rCmpR C sp E) := by
  intro pins s σ H x y v u Q I rx ry h
  obtain ⟨f, fd, hs, hf, F, hb⟩ := M.ex
  obtain ⟨i, b, dy, gs, rfl, rfl, hb', hsp⟩ := h
  obtain rfl : u = Value.ref b := ry
  obtain ⟨t, rfl⟩ := rx
  obtain ⟨ox, od, J, pl⟩ := ins_plain I hb'
  obtain ⟨m', hF⟩ := I.fr
  subst hm
  rw [hco]
  exact cmpR_K hr.units0 sl en ar de hF I.ok.mod.kin J pl hs hf su (wpAny_mono (run_at (vs := [.ref b, .int i]) F hb hx (Und.here hr) I (.cons rfl (.cons ⟨t, rfl⟩ .nil)) hsp) (fun _ _ z => ep_back z) fun _ _ z => z) (h1 i t b)
theorem op_ltR (M : CmpAt X.prog X.w X.K X.mg X.base CX k C "__gt__" ps sp) (su : PySem.W.subIn X.K (.ref C) (.type "int") = some false) (hr : Room k X.A) (hx : Passes CX X E) : OpR X (compareOp .Lt) (rCmpR C sp E) := op_cmpRv M su hr hx rfl (fun _ _ => rfl) (fun _ _ _ => rfl) PySem.F.slot_int_lt PySem.F.entry_int_lt PySem.F.args_int_lt_2 dec_lt
theorem op_leR (M : CmpAt X.prog X.w X.K X.mg X.base CX k C "__ge__" ps sp) (su : PySem.W.subIn X.K (.ref C) (.type "int") = some false) (hr : Room k X.A) (hx : Passes CX X E) : OpR X (compareOp .LtE) (rCmpR C sp E) := op_cmpRv M su hr hx rfl (fun _ _ => rfl) (fun _ _ _ => rfl) PySem.F.slot_int_le PySem.F.entry_int_le PySem.F.args_int_le_2 dec_le
theorem op_gtR (M : CmpAt X.prog X.w X.K X.mg X.base CX k C "__lt__" ps sp) (su : PySem.W.subIn X.K (.ref C) (.type "int") = some false) (hr : Room k X.A) (hx : Passes CX X E) : OpR X (compareOp .Gt) (rCmpR C sp E) := op_cmpRv M su hr hx rfl (fun _ _ => rfl) (fun _ _ _ => rfl) PySem.F.slot_int_gt PySem.F.entry_int_gt PySem.F.args_int_gt_2 dec_gt
theorem op_geR (M : CmpAt X.prog X.w X.K X.mg X.base CX k C "__le__" ps sp) (su : PySem.W.subIn X.K (.ref C) (.type "int") = some false) (hr : Room k X.A) (hx : Passes CX X E) : OpR X (compareOp .GtE) (rCmpR C sp E) := op_cmpRv M su hr hx rfl (fun _ _ => rfl) (fun _ _ _ => rfl) PySem.F.slot_int_ge PySem.F.entry_int_ge PySem.F.args_int_ge_2 dec_ge
/-- - of an instance -/
def rNegO (C : Addr) (sp : Sp) (E : XK) : V → Hp → VK → Prop := fun x H Q => ∃ a dx fs, x = .ref a ∧ H a = some (.ins C dx fs) ∧ sp [x] H Q E
theorem un_negO (M : CmpAt X.prog X.w X.K X.mg X.base CX k C "__neg__" ps sp) (hr : Room k X.A) (hx : Passes CX X E) : UnR X (unaryOp .USub) (rNegO C sp E) := by
  intro pins s σ H x v Q I rx h
  obtain ⟨f, fd, hs, hf, F, hb⟩ := M.ex
  obtain ⟨a, dx, fs, rfl, ha, hsp⟩ := h
  obtain rfl : v = Value.ref a := rx
  obtain ⟨ox, od, J, _⟩ := ins_plain I ha
  obtain ⟨m', hF⟩ := I.fr
  exact PySem.W.ksp_neg hF I.ok.mod.kin J hs hf (run_at (vs := [.ref a]) F hb hx (Und.here hr) I (.cons rfl .nil) hsp)
/-- str(x) of an instance with its own __str__ -/
def rStrO (C : Addr) (sp : Sp) (E : XK) : List V → Hp → VK → Prop := fun xs H Q => ∃ a dx fs, xs = [.ref a] ∧ H a = some (.ins C dx fs) ∧ sp [.ref a] H (fun v H' => ∃ x, v = .str x ∧ Q v H') E
theorem call_strO (M : CmpAt X.prog X.w X.K X.mg X.base CX k C "__str__" ps sp) (hr : Room (k + 2) X.A) (hx : Passes CX X E) : CallR X (.type "str") (rStrO C sp E) := by
  intro pins s σ H xs us Q I r h
  obtain ⟨f, fd, hs, hf, F, hb⟩ := M.ex
  obtain ⟨a, dx, fs, rfl, ha, hsp⟩ := h
  obtain ⟨u, rfl, r1⟩ := vals1 r
  obtain rfl : u = Value.ref a := r1
  obtain ⟨ox, od, J, _⟩ := ins_plain I ha
  have U : Und X k X.A.in1.in1 := (Und.here hr).in1.in1
  refine PySem.W.kso_call U.room.units0 (I.kIn) J hs hf (wpAny_mono (run_at (vs := [.ref a]) F hb hx U I (.cons rfl .nil) hsp) (fun v s' z => ?_) fun _ _ z => z)
  obtain ⟨z, H', I', rz, x, rfl, q⟩ := z
  obtain ⟨t, rfl⟩ := rz
  exact ⟨.str x, H', I', ⟨t, rfl⟩, q⟩
end
end My
/-! != by an own ==. -/
namespace My
open PySem PySem.Spec PySem.Calls PyProof.Rows L2
theorem slot_one : Slot "object" "__ne__" "object.__ne__" :=
  .of (owner := "object") (n := "__ne__") (by rw [typeLookup_type, builtinLookup_eq_fast]; kernel_rfl) (by decide +kernel) (by decide +kernel) (by decide +kernel) (.inl (by decide +kernel)) (by rw [isSubtype_type]; kernel_rfl)
section
open PySem.W
variable {prog : Program} {w : World} {A : Around} {E : Value → Shared → Prop} {s : Shared} {K : Frag} {x C L f : Addr} {h₀ : Heap} {m : Str → Option Value} {ox : Obj} {od : Option Obj} {b tb : Value}
/-- what an own == hands back, turned about -/
def NotBack (Q : Value → Shared → Prop) (v : Value) (s' : Shared) : Prop := ∃ c, v = .bool c ∧ Q (.bool (!c)) s'
theorem one_call {Q : Value → Shared → Prop} (hu : A.in1.units < cLine) (X : K.In s.heap) (I : InstAt s.heap x ox C od) (hm : mroIn K C (.type "object") = some true) (hs : findIn K (.ref C) "__eq__" = some (some (.ref f))) (hf : isFn K (.ref f) = true)
    (h : wpAny (model prog w) A.in1 (call (.ref f) [.ref x, b]) (NotBack Q) E s) : wpAny (model prog w) A (call (.builtin "object.__ne__") [.ref x, b]) Q E s := by
  refine wpAny_call (codeAny_call_builtin slot_one.plain PySem.F.cmpEntry_ne (check_slot (i := "object.__ne__") (owner := "object") (n := "__ne__") PySem.F.cmpKind_ne PySem.F.cmpSplit_ne (I.type.andThen (looks_mroIn X hm)) (PySem.F.cmpArgs_ne _ _) ?_))
  unfold Builtin.«object.__ne__»
  refine wpAny_bind (m := slotArgs "__ne__" 1 _) (wpAny_pure ?_)
  refine wpAny_bind (m := cRoomFor _ _) (wpAny_cRoomFor hu ?_)
  refine wpAny_bind (m := callSpecialIfBound? (.ref x) (Str.ofString "__eq__") _) (ifBound_K X I hs hf (wpAny_mono h (fun r s' hq => ?_) fun _ _ y => y))
  obtain ⟨c, rfl, hq⟩ := hq
  refine wpAny_bind (m := truthy (.bool c)) (wpAny_truthy_bool ?_)
  exact wpAny_pure hq
theorem ne_K {Q : Value → Shared → Prop} (hu : A.units < cLine) (hu1 : A.in1.units < cLine) (F : Fr h₀ L s.heap m) (X₀ : K.In h₀) (I : InstAt s.heap x ox C od) (hb : Looks (model prog w) s.heap (typeOf b) tb) (hn : notFirst K C tb = true)
    (hm : mroIn K C (.type "object") = some true) (h1 : findIn K (.ref C) "__ne__" = some (some (.builtin "object.__ne__"))) (hs : findIn K (.ref C) "__eq__" = some (some (.ref f))) (hf : isFn K (.ref f) = true)
    (h : wpAny (model prog w) A.in1 (call (.ref f) [.ref x, b]) (NotBack Q) E s) : wpAny (model prog w) A (richCompare .NotEq (.ref x) b) Q E s := by
  have X := X₀.keeps F.keep
  have one : wpAny (model prog w) A (tryCompare (.ref x) "__ne__" b) (fun r s' => ∃ v, r = some v ∧ Q v s') E s := by
    unfold tryCompare
    refine wpAny_bind ?_
    simp only [callSpecialIfBound?, bindSpecialIfBound?]
    refine wpAny_holding (wpAny_bind (wpAny_bind (wpAny_bind (I.type.here ((looks_findIn X h1).here ?_)))))
    refine wpAny_bind (wpAny_askSetting (wpAny_ite ?_))
    have fin : wpAny (model prog w) A (call (.builtin "object.__ne__") ([.ref x] ++ [b]) >>= fun v => pure (some v)) (fun r s' => wpAny (model prog w) A (match r with | some .notImplemented | none => pure none | some v => pure (some v)) (fun r s' => ∃ v, r = some v ∧ Q v s') E s') E s := by
      refine wpAny_bind (one_call hu1 X I hm hs hf (wpAny_mono h (fun v s' z => ?_) fun _ _ z => z))
      obtain ⟨c, rfl, hq⟩ := z
      exact ⟨c, rfl, wpAny_pure (wpAny_pure ⟨_, rfl, hq⟩)⟩
    split
    · exact wpAny_bind ((Looks.of_pure (slot_one.bind (.ref x))).here (wpAny_pure (by exact fin)))
    · exact wpAny_tryCatch (wpAny_bind ((Looks.of_pure (slot_one.bind (.ref x))).here (wpAny_pure (by exact fin))))
  unfold richCompare
  simp only [oneThing_ref]
  refine wpAny_holding (wpAny_bind (wpAny_cRoomFor hu ?_))
  refine wpAny_bind (I.type.here (wpAny_bind (hb.here ?_)))
  split
  · rename_i q
    have e : subIn K tb (.ref C) = some false := by
      rcases Bool.or_eq_true_iff.mp hn with e | e
      · rw [beq_iff_eq.mp e] at q; simp at q
      · exact beq_iff_eq.mp e
    refine wpAny_bind ((looks_subIn X e).here ?_)
    simp only [Bool.false_eq_true, if_false]
    refine wpAny_bind (wpAny_mono one (fun r s' z => ?_) fun _ _ e => e)
    obtain ⟨v, rfl, hq⟩ := z
    exact wpAny_pure hq
  · refine wpAny_bind (wpAny_pure ?_)
    simp only [Bool.false_eq_true, if_false]
    refine wpAny_bind (wpAny_mono one (fun r s' z => ?_) fun _ _ e => e)
    obtain ⟨v, rfl, hq⟩ := z
    exact wpAny_pure hq
end
section
variable {X : Cx} {CX : CXT} {k : Nat} {ps : List Str} {sp : Sp} {E : XK} {C : Addr}
def rNeO (K : PySem.W.Frag) (C : Addr) (sp : Sp) (E : XK) : R2 := fun x y H Q => ∃ a dx fs t, x = .ref a ∧ H a = some (.ins C dx fs) ∧ TyX K H y t ∧ PySem.W.notFirst K C t = true ∧ sp [.ref a, y] H (fun v H' => ∃ b, v = .bl b ∧ Q (.bl (!b)) H') E
theorem op_neO (M : CmpAt X.prog X.w X.K X.mg X.base CX k C "__eq__" ps sp) (hm : PySem.W.mroIn X.K C (.type "object") = some true) (h1 : PySem.W.findIn X.K (.ref C) "__ne__" = some (some (.builtin "object.__ne__"))) (hr : Room (k + 1) X.A) (hx : Passes CX X E) : OpR X (compareOp .NotEq) (rNeO X.K C sp E) := by
  intro pins s σ H x y v u Q I rx ry h
  obtain ⟨f, fd, hs, hf, F, hb⟩ := M.ex
  obtain ⟨a, dx, fs, t, rfl, ha, ty, hn, hsp⟩ := h
  obtain rfl : v = Value.ref a := rx
  obtain ⟨ox, od, J, _⟩ := ins_plain I ha
  obtain ⟨m', hF⟩ := I.fr
  obtain ⟨Pz, Z, pz, _⟩ := kit_of I ry ty
  have U : Und X k X.A.in1 := (Und.here hr).in1
  refine ne_K hr.units0 U.room.units0 hF I.ok.mod.kin J (Z.ty _ _ I.kIn pz) hn hm h1 hs hf (wpAny_mono (run_at (vs := [.ref a, y]) F hb hx U I (.cons rfl (.cons ry .nil)) hsp) (fun v s' z => ?_) fun _ _ z => z)
  obtain ⟨z, H', I', rz, b, rfl, q⟩ := z
  obtain rfl : v = Value.bool b := rz
  exact ⟨b, rfl, .bl (!b), H', I', rfl, q⟩
end
end My
/-! The end of a law whose def shows containers: a def that keeps its promise where nothing is being shown. -/
namespace My
open PySem PySem.Spec PyProof.Rows L2
/-- the heap h at the law's start as the walk sees it: the script's list at a, the tables of code objects -/
structure Begin (P : Program) (w : World) (K : PySem.W.Frag) (cs : List (Addr × Addr)) (a : Addr) (ns : List Int) (H : Hp) (h : Heap) : Prop where
  tbl : ∀ p ∈ cs, H p.2 = some (.tbl #[])
  kind : ∀ b, H b = none ∨ b ∈ cs.map (·.2) ∨ ∃ o xs, H b = some (.frz o (.lst xs))
  seq : SqL K H a (ns.map V.int)
  ok : HOk P w H h
  only : ∀ b, H b ≠ none → b = a ∨ b ∈ cs.map (·.2)
  out : H a ≠ none → K.lookup a = none
/-- what is known of a table and its code object -/
structure TabF (K : PySem.W.Frag) (h : Heap) (p : Addr × Addr) : Prop where
  get : h.get? p.2 = some { cls := .none, data := .fields #[] }
  out : K.lookup p.2 = none
  hd : PySem.W.CodeHd h p.1 p.2
def Goal (l : Program) (w : World) (fa a : Addr) (s₁ : Shared) : Prop := codeAny (model l w) callerA (.call (.ref fa) ⟨[.ref a], []⟩) (fun r s' => r = .ok (.ret (.bool true)) ∧ OldK s₁.heap s'.heap ∧ s'.os = s₁.os ∧ AllBare s'.gens) s₁
theorem tab_get {K : PySem.W.Frag} {h : Heap} {cs : List (Addr × Addr)} (t : ∀ p ∈ cs, TabF K h p) {b : Addr} (hb : b ∈ cs.map (·.2)) : h.get? b = some { cls := .none, data := .fields #[] } := by
  obtain ⟨p, hp, rfl⟩ := List.mem_map.mp hb
  exact (t p hp).get
section
variable {P : Program} {w : World} {K : PySem.W.Frag} {mg mb : Str → Option Value} {k : Nat} {fa a : Addr} {cs : List (Addr × Addr)} {fd : FuncData} {x : Str} {sp : Sp} {s₁ : Shared} {vs : List Value} {ns : List Int}
theorem from_begin {H : Hp} (B : Begin P w K cs a ns H s₁.heap) (hK : K.In s₁.heap) (gN : s₁.heap.Ns mainGlobals mg) (bN : s₁.heap.Ns builtinsNs mb) (bB : ∀ x : Str, x ≠ "__name__" → mb x = bootBuiltins x) (lim : s₁.heap.NoLimit) (gens : s₁.gens = #[])
    (ts : ∀ p ∈ cs, TabF K s₁.heap p) (mB : ∃ (bm : Addr) (ob : Obj), mg "__builtins__" = some (.ref bm) ∧ bm ≠ builtinsNs ∧ s₁.heap.get? bm = some ob ∧ ob.cls = .type "module" ∧ ob.dict = some builtinsNs ∧ ob.data = .plain)
    (la : s₁.heap.get? a = some { cls := .type "list", data := .seq vs.toArray }) (hr : Room k callerA)
    (F : ∀ base : Heap, K.In base → base.Ns mainGlobals mg → (∀ p ∈ cs, LamX.TabB base mg p.1 p.2) → FnG P w K mg base CX0 k fa fd [x] sp) (bd : ∀ (s : Shared) (u : Value), BindsTo s fd ⟨[u], []⟩ [(x, u)])
    (go : sp [.ref a] H (fun v _ => v = .bl true) fun _ _ _ => False) : Goal P w fa a s₁ := by
  have away : ∀ {b : Addr} {o : Obj}, s₁.heap.get? b = some o → (∀ ys n, o.data ≠ .seq ys n) → o.data ≠ .fields #[] → H b = none := fun {b o} e n1 n2 => by
    by_cases q : H b = none
    · exact q
    · exfalso
      rcases B.only b q with rfl | hb
      · rw [la] at e
        injection e with e
        subst e
        exact n1 _ _ rfl
      · rw [tab_get ts hb] at e
        injection e with e
        subst e
        exact n2 rfl
  have seen : ∀ {b : Addr} {o : Obj}, s₁.heap.get? b = some o → H b = none → (hidT s₁.heap H).get? b = some o := fun e n => hidT_get e n
  have nsOf : ∀ {b : Addr} {m : Str → Option Value}, s₁.heap.Ns b m → (hidT s₁.heap H).Ns b m := fun {b m} ⟨o, es, ep, e, d, r⟩ =>
    ⟨o, es, ep, seen e (away e (fun ys n z => by rw [d] at z; cases z) (fun z => by rw [d] at z; cases z)), d, r⟩
  have inK : K.In (hidT s₁.heap H) := fun b o e => by
    refine seen (hK b o e) ?_
    by_cases q : H b = none
    · exact q
    · exfalso
      rcases B.only b q with rfl | hb
      · rw [B.out q] at e
        cases e
      · obtain ⟨p, hp, rfl⟩ := List.mem_map.mp hb
        rw [(ts p hp).out] at e
        cases e
  have modK : L2.Mod K mg (hidT s₁.heap H) := ⟨inK, nsOf gN, ⟨mb, nsOf bN, bB⟩, let ⟨mc, h1, h2⟩ := lim; ⟨mc, nsOf h1, h2⟩⟩
  have tabs : ∀ p ∈ cs, LamX.TabB (hidT s₁.heap H) mg p.1 p.2 := fun p hp => by
    have tp := ts p hp
    refine ⟨?_, ?_, fun z => ?_⟩
    · obtain ⟨o, us, file, tf, flags, tg, inF, text, tt, e1, r1, r2, r3, rs⟩ := tp.hd
      exact ⟨o, us, file, tf, flags, tg, inF, text, tt, seen e1 (away e1 (fun ys n z => by rw [r2] at z; cases z) (fun z => by rw [r2] at z; cases z; simp at r3)), r1, r2, r3, rs⟩
    · obtain ⟨bm, ob, m1, m2, m3, m4, m5, m6⟩ := mB
      refine ⟨bm, ob, m1, m2, fun z => ?_, fun z => ?_, seen m3 (away m3 (fun ys n z => by rw [m6] at z; cases z) (fun z => by rw [m6] at z; cases z)), m4, m5, m6⟩
      · obtain ⟨o, es, ep, e, hd, _⟩ := gN
        rw [z, e] at m3
        cases m3
        rw [hd] at m6
        cases m6
      · rw [z, tp.get] at m3
        cases m3
        cases m6
    · obtain ⟨o, es, ep, e, hd, _⟩ := gN
      rw [z, tp.get] at e
      cases e
      cases hd
  have env0 : Env0 P w K mg (hidT s₁.heap H) callerA [] s₁ H := ⟨rfl, modK, fun b o e => of_hidT e, Nat.le_of_eq (hidT_size _ _), trivial, fun b hb => absurd (show b ∈ ([] : List Addr) from hb) (by simp), B.ok, .of_eq gens⟩
  unfold Goal
  refine codeAny_mono ((F _ inK (nsOf gN) tabs).run callerA [] s₁ H ⟨[.ref a], []⟩ [.ref a] [.ref a] _ _ rfl hr env0 (bd s₁ (.ref a)) (.cons rfl .nil) go) fun r s' done => ?_
  match r, done with
  | .error e, z => exact False.elim z
  | .ok .next, z => exact False.elim z
  | .ok .brk, z => exact False.elim z
  | .ok .cont, z => exact False.elim z
  | .ok (.ret u), ⟨v, H', os, bare, un, ok', r', q⟩ =>
    have q2 : v = .bl true := q
    subst q2
    have q3 : u = Value.bool true := r'
    subst q3
    have stays : ∀ b o, b ∉ cs.map (·.2) → s₁.heap.get? b = some o → s'.heap.get? b = some o := fun b o nb e => by
      rcases B.kind b with z | z | ⟨ob, xs, z⟩
      · exact un.keep b o e z (by intro z; exact absurd (show b ∈ ([] : List Addr) from z) (by simp)) (by simp)
      · exact absurd z nb
      · obtain ⟨e1, _⟩ := B.ok b _ z
        obtain ⟨e2, _⟩ := ok' b _ (un.frzs b ob _ z)
        rw [e] at e1
        cases e1
        exact e2
    have more : ∀ p ∈ cs, ∃ ys : Array Value, s'.heap.get? p.2 = some { cls := .none, data := .fields ys } := fun p hp => by
      obtain ⟨ys, z⟩ := un.tbls p.2 #[] (B.tbl p hp)
      exact ⟨_, ok' p.2 _ z⟩
    refine ⟨rfl, ⟨fun b o e => ?_, fun b o e => ?_⟩, os, bare⟩
    · by_cases hb : b ∈ cs.map (·.2)
      · obtain ⟨p, hp, rfl⟩ := List.mem_map.mp hb
        obtain ⟨ys, hm⟩ := more p hp
        rw [(ts p hp).get] at e
        cases e
        exact .inr (.inl ⟨((ts p hp).hd.tab (ts p hp).get).isCodeTable, rfl, #[], ys, rfl, by rw [Array.empty_append]; exact hm⟩)
      · exact .inl (stays b o hb e)
    · by_cases hb : b ∈ cs.map (·.2)
      · obtain ⟨p, hp, rfl⟩ := List.mem_map.mp hb
        obtain ⟨ys, hm⟩ := more p hp
        exact ⟨_, hm⟩
      · exact ⟨o, stays b o hb e⟩
/-- such a beginning is to be had -/
theorem begins (hK : K.In s₁.heap) (ts : ∀ p ∈ cs, TabF K s₁.heap p) (la : s₁.heap.get? a = some { cls := .type "list", data := .seq vs.toArray }) (hi : IntsAre vs ns) (hl : ns.length ≤ sizeLine) : ∃ H, Begin P w K cs a ns H s₁.heap := by
  have nt : a ∉ cs.map (·.2) := fun z => by
    have q := tab_get ts z
    rw [la] at q
    injection q with q
    injection q with _ _ q _
    cases q
  have rv := vals_ints hi
  let O : Option HO := if (K.lookup a).isSome = true then none else some (.frz { cls := .type "list", data := .seq vs.toArray } (.lst (ns.map V.int)))
  have atT : ∀ b, b ∈ cs.map (·.2) → (if b ∈ cs.map (·.2) then some (HO.tbl #[]) else if b = a then O else none) = some (HO.tbl #[]) := fun b h => if_pos h
  have atA : (if a ∈ cs.map (·.2) then some (HO.tbl #[]) else if a = a then O else none) = O := (if_neg nt).trans (if_pos rfl)
  have atN : ∀ b, b ∉ cs.map (·.2) → b ≠ a → (if b ∈ cs.map (·.2) then some (HO.tbl #[]) else if b = a then O else none) = none := fun b h1 h2 => (if_neg h1).trans (if_neg h2)
  refine ⟨fun b => if b ∈ cs.map (·.2) then some (.tbl #[]) else if b = a then O else none, fun p hp => atT _ (List.mem_map.mpr ⟨p, hp, rfl⟩), fun b => ?_, ?_, fun b u z => ?_, fun b z => ?_, fun z => ?_⟩
  · by_cases h1 : b ∈ cs.map (·.2)
    · exact .inr (.inl h1)
    · by_cases h2 : b = a
      · subst h2
        by_cases h3 : (K.lookup b).isSome = true
        · exact .inl (atA.trans (if_pos h3))
        · exact .inr (.inr ⟨_, _, atA.trans (if_neg h3)⟩)
      · exact .inl (atN b h1 h2)
  · cases h3 : K.lookup a with
    | none =>
      refine .inl (.inr ⟨_, atA.trans (if_neg ?_)⟩)
      rw [h3]
      exact Bool.noConfusion
    | some o =>
      have e := hK a o h3
      rw [la] at e
      cases e
      exact .inr ⟨_, vs.toArray, _, h3, rfl, rfl, rfl, by rw [List.size_toArray, hi.length]; exact hl, by simpa using rv⟩
  · by_cases h1 : b ∈ cs.map (·.2)
    · have z' := (atT b h1).symm.trans z
      cases z'
      exact tab_get ts h1
    · by_cases h2 : b = a
      · subst h2
        have z' := atA.symm.trans z
        by_cases h3 : (K.lookup b).isSome = true
        · have z2 := (if_pos h3).symm.trans z'
          cases z2
        · have z2 := (if_neg h3).symm.trans z'
          cases z2
          exact ⟨la, by rw [List.length_map]; exact hl, vs, _, rv, la⟩
      · have z' := (atN b h1 h2).symm.trans z
        cases z'
  · by_cases h1 : b ∈ cs.map (·.2)
    · exact .inr h1
    · by_cases h2 : b = a
      · exact .inl h2
      · exact absurd (atN b h1 h2) z
  · cases h3 : K.lookup a with
    | none => rfl
    | some o => exact absurd (atA.trans (if_pos (by rw [h3]; rfl))) z
end
/-- what is known of the law's promise at the head's heap h; TF: what the top says of the tables -/
def LawG (l : PySem.W.OpenLaw) (w : World) (K : PySem.W.Frag) (k n : Nat) (x : Str) (mg : Str → Option Value) (fa : Addr) (h : Heap) : Prop :=
  ∃ (fd : FuncData) (cs : List (Addr × Addr)) (sp : Sp), (∀ p ∈ cs, TabF K h p) ∧ (∀ (s : Shared) (u : Value), BindsTo s fd ⟨[u], []⟩ [(x, u)]) ∧
    (∀ (H : Hp) (a : Addr) (ns : List Int), ns.length ≤ n → (∀ z ∈ ns, Builtin.Int.intBits z ≤ 1048576) → (∀ p ∈ cs, H p.2 = some (.tbl #[])) → SqL K H a (ns.map V.int) → sp [.ref a] H (fun v _ => v = .bl true) fun _ _ _ => False) ∧
    ∀ base : Heap, K.In base → base.Ns mainGlobals mg → (∀ p ∈ cs, LamX.TabB base mg p.1 p.2) → FnG l.prog w K mg base CX0 k fa fd [x] sp
theorem walk_G {l : PySem.W.OpenLaw} {n k : Nat} {q : Program} {loose : List Str} {XP : (Str → Option Value) → Heap → Prop} {YP : World → Heap → Prop} {d : DefRec} {K : Params → PySem.W.Frag} {x : Str}
    (hn : l.most = some n) (hn2 : n ≤ sizeLine) (hdf : d.params.defaults = []) (hr : Room k callerA) (hY : ∀ (w : World) (h : Heap), YP w h → (K w.params).In h)
    (F : ∀ (w : World) (mg : Str → Option Value) (fa : Addr) (h : Heap), YP w h → (K w.params).In h → h.Ns mainGlobals mg → mg d.name = some (.ref fa) →
      (∀ (y : Str) (c T : Addr), ((recsOf q).any fun e => e.name == y) = true → PySem.W.tabIn (K w.params) y = some (c, T) → (K w.params).lookup T = none → TabF (K w.params) h (c, T)) → LawG l w (K w.params) k n x mg fa h) :
    PySem.W.WalkO q loose XP YP l.row.toRowW d [] (fun f vs => PySem.call f vs) := by
  refine Att.attach_callB hn hdf fun w s₀ s₁ mg mb fa o pm cd doc a vs ns G Y ho hd hcd hmg hobj hints hlen hbits hg => ?_
  have KX := hY w _ Y
  obtain ⟨fd, cs, sp, ts, hb, hsp, hF⟩ := F w mg fa _ Y KX G.T.g hmg fun y c T hrec hT hN => by
    obtain ⟨e, he⟩ := Option.isSome_iff_exists.mp (show ((recsOf q).find? fun e => e.name == y).isSome = true by rw [List.find?_isSome]; obtain ⟨e, h1, h2⟩ := List.any_eq_true.mp hrec; exact ⟨e, h1, h2⟩)
    obtain ⟨h1, h2⟩ := PySem.W.tab_of G.T KX he hT
    exact ⟨h2, hN, h1⟩
  obtain ⟨H, B⟩ := begins (P := l.prog) (w := w) KX ts hobj hints (Nat.le_trans hlen hn2)
  exact from_begin B KX G.T.g G.T.b G.T.builtins G.T.nolimit hg ts G.T.bmain hobj hr hF hb (hsp H a ns hlen hbits B.tbl B.seq)
end My
/-! What the top has written, by name. -/
namespace My
open PySem PySem.Spec PyProof.Rows L2
/-- the module has the def -/
structure Has (K : PySem.W.Frag) (mg : Str → Option Value) (x : Str) (st : Stmt) : Prop where
  ex : ∃ f fd, mg x = some (.ref f) ∧ Fun K x x st f fd
/-- a def that makes functions, its code object at c -/
structure HasC (K : PySem.W.Frag) (mg : Str → Option Value) (x : Str) (st : Stmt) (c : Addr) : Prop where
  ex : ∃ (f : Addr) (oc : Value) (od : Option Addr) (kV doc pm : Value) (an : Option Addr) (ct : Value) (osl : Array (Option Value)), mg x = some (.ref f) ∧
    K.lookup f = some ⟨oc, od, .func (PySem.W.fnOf x x (defArgs st) (defBody st) (defScope st) .none kV doc pm an (.ref c) ct), osl⟩ ∧ PySem.W.codeIn K (.ref c) x = true ∧ PySem.W.keepIn K (.ref f) = true
/-- the class has the method -/
structure HasM (K : PySem.W.Frag) (C : Addr) (m qual : Str) (st : Stmt) : Prop where
  ex : ∃ f fd, PySem.W.findIn K (.ref C) m = some (some (.ref f)) ∧ PySem.W.isFn K (.ref f) = true ∧ Fun K m qual st f fd
/-- the class has the method, with defaults -/
structure HasD (K : PySem.W.Frag) (C : Addr) (m qual : Str) (st : Stmt) (dvs : List V) (kws : List (Str × V)) : Prop where
  ex : ∃ f fd, PySem.W.findIn K (.ref C) m = some (some (.ref f)) ∧ PySem.W.isFn K (.ref f) = true ∧ FunD K m qual (defArgs st) (defBody st) (defScope st) dvs kws f fd
section
variable {P : Program} {w : World} {K : PySem.W.Frag} {mg : Str → Option Value} {base : Heap} {CX : CXT} {k : Nat} {x m qual : Str} {st : Stmt} {ps ks : List Str} {sp : Sp} {C c : Addr}
def BindW (x qual : Str) (st : Stmt) (ps : List Str) : Prop := ∀ (kV doc pm : Value) (an : Option Addr) (cdv ct : Value) (us : List Value), us.length = ps.length → bindArgs (PySem.W.fnOf x qual (defArgs st) (defBody st) (defScope st) .none kV doc pm an cdv ct) ⟨us, []⟩ = pure (ps.zip us)
theorem def_at (A : Has K mg x st) (ok : ∀ f fd, Fun K x x st f fd → FnOk P w K mg base CX k f fd ps sp) (b : BindW x x st ps) : DefAt P w K mg base CX k x ps sp := by
  obtain ⟨f, fd, h1, F⟩ := A.ex
  exact ⟨f, fd, ok f fd F, h1, F.kp, F.binds b⟩
theorem def_atG (A : Has K mg x st) (ok : ∀ f fd, Fun K x x st f fd → FnG P w K mg base CX k f fd ps sp) (b : BindW x x st ps) : DefG P w K mg base CX k x ps sp := by
  obtain ⟨f, fd, h1, F⟩ := A.ex
  exact ⟨f, fd, ok f fd F, h1, F.kp, F.binds b⟩
theorem meth_at (A : HasM K C m qual st) (ok : ∀ f fd, Fun K m qual st f fd → FnOk P w K mg base CX k f fd ps sp) (b : BindW m qual st ps) : MethAt P w K mg base CX k C m ps sp := by
  obtain ⟨f, fd, h1, h2, F⟩ := A.ex
  exact ⟨f, fd, ⟨h1, h2, F.kp⟩, ok f fd F, F.binds b⟩
theorem call_at (A : HasM K C "__call__" qual st) (ok : ∀ f fd, Fun K "__call__" qual st f fd → FnOk P w K mg base CX k f fd ps sp) (b : BindW "__call__" qual st ps) : CallAt P w K mg base CX k C ps sp := by
  obtain ⟨f, fd, h1, h2, F⟩ := A.ex
  obtain ⟨oc, od, kV, doc, pm, an, cdv, ct, osl, e, lk, _⟩ := F.ex
  refine ⟨f, fd, ⟨h1, h2, ?_⟩, ok f fd F, F.binds b⟩
  unfold PySem.W.fnIn
  rw [lk]
theorem cmp_at (A : HasM K C m qual st) (ok : ∀ f fd, Fun K m qual st f fd → FnOk P w K mg base CX k f fd ps sp) (b : BindW m qual st ps) : CmpAt P w K mg base CX k C m ps sp := by
  obtain ⟨f, fd, h1, h2, F⟩ := A.ex
  exact ⟨f, fd, h1, h2, ok f fd F, F.binds b⟩
/-- called with keywords alone -/
theorem methK_at {gV : List V → List V → List V} {g : List Value → List Value → List Value} (A : HasM K C m qual st) (ok : ∀ f fd, Fun K m qual st f fd → FnOk P w K mg base CX k f fd ps sp)
    (b : ∀ (kV doc pm : Value) (an : Option Addr) (cdv ct : Value) (us ws : List Value), us.length = 1 → ws.length = ks.length → bindArgs (PySem.W.fnOf m qual (defArgs st) (defBody st) (defScope st) .none kV doc pm an cdv ct) ⟨us, ks.zip ws⟩ = pure (ps.zip (g us ws)))
    (r : ∀ {vs : List V} {us : List Value} {zs : List V} {ws : List Value}, Vals vs us → Vals zs ws → Vals (gV vs zs) (g us ws)) : MethK P w K mg base CX k C m ps ks sp gV := by
  obtain ⟨f, fd, h1, h2, F⟩ := A.ex
  obtain ⟨oc, od, kV, doc, pm, an, cdv, ct, osl, rfl, lk, hcd⟩ := id F.ex
  exact ⟨f, _, g, ⟨h1, h2, F.kp⟩, ok f _ F, ⟨fun s us ws _ l1 l2 => .of_eq (b kV doc pm an cdv ct us ws l1 l2), r⟩⟩
/-- the class is made with all its arguments -/
theorem make_all {dvs : List V} (A : HasD K C "__init__" qual st dvs []) (hx : mg x = some (.ref C)) (mk : PySem.W.makesIn K C = true) (kp : PySem.W.keepIn K (.ref C) = true) (ok : ∀ f fd, FunD K "__init__" qual (defArgs st) (defBody st) (defScope st) dvs [] f fd → FnOk P w K mg base CX k f fd ps sp) (hd : dvs ≠ [])
    (b : ∀ (T : Addr) (kV doc pm : Value) (an : Option Addr) (cdv ct : Value) (us its : List Value), us.length = ps.length → its.length = dvs.length →
      ∃ k, bindArgs (PySem.W.fnOf "__init__" qual (defArgs st) (defBody st) (defScope st) (.ref T) kV doc pm an cdv ct) ⟨us, []⟩ = seqItems? (.ref T) >>= k ∧ k (some its.toArray) = pure (ps.zip (us ++ its.drop dvs.length))) : MakeAt P w K mg base CX k x C ps sp [] := by
  obtain ⟨f, fd, h1, h2, F⟩ := A.ex
  obtain ⟨ds, r, bs⟩ := F.binds1 ps.length dvs.length hd (by omega) b
  rw [List.drop_length] at r
  exact ⟨f, fd, ds, ⟨mk, h1, h2, kp⟩, ok f fd F, hx, bs, r⟩
end
end My
/-! Static methods by the class's name; ints divided by ints of any sign; lists beside the empty one. -/
namespace My
open PySem PySem.Spec PySem.Calls PyProof.Rows L2
/-- C.m is a staticmethod with the def at f -/
structure Stat (K : PySem.W.Frag) (C : Addr) (m : Str) (f : Addr) : Prop where
  ga : PySem.W.specialIn K (.ref C) "__getattribute__" = some (some (.builtin "type.__getattribute__"))
  rc : ∃ (mc : Value) (p : Addr) (rest : List Value), PySem.W.readsIn K C mc = true ∧ PySem.W.findCls K (.ref C) mc m = some (.get (.builtin "staticmethod.__get__") (.ref p) .none (.ref C)) ∧ PySem.W.recIn K p "staticmethod" = some (.ref f :: rest)
  kp : PySem.W.keepIn K (.ref f) = true
structure StatAt (P : Program) (w : World) (K : PySem.W.Frag) (mg : Str → Option Value) (base : Heap) (CX : CXT) (k : Nat) (C : Addr) (m : Str) (ps : List Str) (sp : Sp) : Prop where
  ex : ∃ f fd, Stat K C m f ∧ FnOk P w K mg base CX k f fd ps sp ∧ L2.Binds K fd ps []
structure StatK (P : Program) (w : World) (K : PySem.W.Frag) (mg : Str → Option Value) (base : Heap) (CX : CXT) (k : Nat) (C : Addr) (m : Str) (ps ks : List Str) (sp : Sp) (gV : List V → List V → List V) : Prop where
  ex : ∃ f fd g, Stat K C m f ∧ FnOk P w K mg base CX k f fd ps sp ∧ KBn K fd ps 0 ks g gV
section
variable {X : Cx} {CX : CXT} {k : Nat} {C : Addr} {ps ks : List Str} {sp : Sp} {E : XK} {m : Str} {e o : Expr} {es : List Expr} {kws : List Keyword} {t tk : TA} {ta : TE} {pos apos : Pos} {gV : List V → List V → List V}
theorem getstat_ok {pins : List (Addr × Obj)} {σ : L2.St} {H : Hp} {s : Shared} {f : Addr} {pl : Sem Bool} {A : Around} {Er : Value → Shared → Prop} {Q : Value × List Value → Shared → Prop} (I : Inv X pins σ H s) (c : Stat X.K C m f) (h : ∀ s', Inv X pins σ H s' → Q (.ref f, []) s') : wpAny (model X.prog X.w) A (getMethod (.ref C) m pl) Q Er s := by
  obtain ⟨mc, p, rest, h1, h2, h3⟩ := c.rc
  refine PySem.W.method_cls I.kIn c.ga (PySem.W.cls_bind I.kIn h1 h2 ?_)
  exact wpAny_call (PySem.W.sm_get (s := { s with toks := s.toks + 1 }) I.kIn h3 (PySem.W.handed_on rfl (h _ (I.tok _))))
def tStat (C : Addr) (sp : Sp) (E : XK) (ta : TE) (t : TA) : TE := fun σ H Q => ta σ H fun x H1 => x = .ref C ∧ t σ H1 fun vs H2 => sp vs H2 Q E
theorem pe_st {pl : Sem Bool} (M : StatAt X.prog X.w X.K X.mg X.base CX k C m ps sp) (hr : Room k X.A) (hx : Passes CX X E) (he : PE X o ta) (ha : PA X (e :: es) t)
    (hst : starEach (e :: es) X.env = (false, eval e X.env) :: starEach es X.env := by rfl) (hpl : (backTo pos (starEach es X.env)).any (·.1) = false := by rfl)
    (ht : eval (.Call (.Attribute o m apos) (e :: es) [] pos) X.env = (do
      let ov ← eval o X.env
      standAt apos.atName
      let (f, first) ← holding [ov] (getMethod ov m pl)
      callWith pos f first (backTo pos (starEach (e :: es) X.env)) (backToKw pos (keywordEach [] X.env))) := by rfl) :
    PE X (.Call (.Attribute o m apos) (e :: es) [] pos) (tStat C sp E ta t) := by
  obtain ⟨f, fd, c, F, b⟩ := M.ex
  refine ⟨fun pins s σ H Q I h => ?_⟩
  refine PySem.W.methodCall_KW (pl := pl) (thn (he.run pins s σ H _ I h) fun u s1 ⟨x, H1, I1, rx, ex, q⟩ => ?_) ht
  subst ex
  obtain rfl : u = Value.ref C := rx
  refine getstat_ok I1 c fun s1 I1 => ?_
  refine PySem.W.callWith_K (first := []) (h₀ := X.base) I.ok.mod.kin c.kp (thn (ha.run pos pins s1 σ H1 _ I1 q) fun us s2 ⟨vs, H2, I2, r, q2⟩ => ⟨I2.kIn, ?_⟩) hst hpl
  exact run_fn (us := us) (vs := vs) F hr b .nil hx I2 r (by rw [List.append_nil]; exact q2)
def tStatK (C : Addr) (j : Nat) (sp : Sp) (gV : List V → List V → List V) (E : XK) (ta : TE) (tk : TA) : TE := fun σ H Q => ta σ H fun x H1 => x = .ref C ∧ tk σ H1 fun zs H2 => zs.length = j ∧ sp (gV [] zs) H2 Q E
theorem pe_stK {pl : Sem Bool} (M : StatK X.prog X.w X.K X.mg X.base CX k C m ps ks sp gV) (hr : Room k X.A) (hx : Passes CX X E) (he : PE X o ta) (hkw : PK X kws tk)
    (hall : (backToKw pos (keywordEach kws X.env)).all (·.1.isSome) = true := by rfl) (hks : (backToKw pos (keywordEach kws X.env)).filterMap (·.1) = ks := by rfl)
    (hpl : ((backTo pos (starEach [] X.env)).any (·.1) || (backToKw pos (keywordEach kws X.env)).any (·.1.isNone)) = false := by rfl)
    (ht : eval (.Call (.Attribute o m apos) [] kws pos) X.env = (do
      let ov ← eval o X.env
      standAt apos.atName
      let (f, first) ← holding [ov] (getMethod ov m pl)
      callWith pos f first (backTo pos (starEach [] X.env)) (backToKw pos (keywordEach kws X.env))) := by rfl) :
    PE X (.Call (.Attribute o m apos) [] kws pos) (tStatK C ks.length sp gV E ta tk) := by
  obtain ⟨f, fd, g, c, F, b⟩ := M.ex
  refine ⟨fun pins s σ H Q I h => ?_⟩
  refine PySem.W.methodCall_KW (pl := pl) (thn (he.run pins s σ H _ I h) fun u s1 ⟨x, H1, I1, rx, ex, q⟩ => ?_) ht
  subst ex
  obtain rfl : u = Value.ref C := rx
  refine getstat_ok I1 c fun s1 I1 => ?_
  refine PySem.W.callWith_KW0 (first := []) (h₀ := X.base) I.ok.mod.kin c.kp hall (thn (hkw.run pos pins s1 σ H1 _ I1 q) fun ws s2 ⟨zs, H2, I2, rz, l2, q2⟩ => ⟨I2.kIn, ?_⟩) hpl
  rw [hks]
  exact run_fnN (us := []) (vs := []) F hr b hx I2 .nil rz rfl l2 q2
/-! ### // and % by any int but 0 -/
def CDivX (_ j : Int) : Prop := j ≠ 0 ∧ j.natAbs.log2 < 9000
theorem op_fdivX : OpR X (binaryOp .FloorDiv) (rI CDivX fun i j => .int (i.fdiv j)) := opI fun _ _ _ _ _ _ _ hc q => floordiv_int hc.1 q (.inl (PyProof.noPylong_of_log2 hc.2))
/-! ### lists of unlike lengths -/
def rEqL : R2 := fun x y H Q => ∃ l b xs ys, x = .ref l ∧ y = .ref b ∧ H l = some (.lst xs) ∧ H b = some (.lst ys) ∧ xs.length ≠ ys.length ∧ Q (.bl false) H
theorem op_eqL (hu : X.A.units < cLine) : OpR X (compareOp .Eq) rEqL := by
  intro pins s σ H x y v u Q I rx ry h
  obtain ⟨l, b, xs, ys, rfl, rfl, h1, h2, hn, q⟩ := h
  obtain rfl : v = Value.ref l := rx
  obtain rfl : u = Value.ref b := ry
  obtain ⟨z, its, n, r, hl, e⟩ := I.lstM h1
  obtain ⟨z2, its2, n2, r2, hl2, e2⟩ := I.lstM h2
  have hs : (its.toArray.size != its2.toArray.size) = true := by
    have a1 := r.length
    have a2 := r2.length
    simp only [List.size_toArray, bne_iff_ne, ne_eq]
    omega
  show wpAny (model X.prog X.w) X.A (richCompare .Eq (.ref l) (.ref b)) _ _ s
  refine wpAny_richCompare_same_room (op := .Eq) ⟨_, e, rfl⟩ ⟨_, e2, rfl⟩ PySem.F.slot_list_eq (call_meets PySem.F.slot_list_eq ⟨_, e, rfl⟩ PySem.F.entry_list_eq (PySem.F.args_list_eq_2 _ _) (AutoSeq1.list___eq___list_list_0 l its.toArray n b its2.toArray n2 hs) ⟨e, e2, ?_⟩) hu
  exact ⟨(fun x => nomatch x), .bl false, H, I, rfl, q⟩
end
end My
/-! The order of two pairs of ints; two promises of one def. -/
namespace My
open PySem PySem.Spec PySem.Calls PyProof.Rows L2
def ordP (r : Int → Int → Bool) (z : Bool) (a b c d : Int) : Bool := if a = c then (if b = d then z else r b d) else r a c
def rOrd (K : PySem.W.Frag) (r : Int → Int → Bool) (z : Bool) : R2 := fun x y H Q => ∃ (l m : Addr) (a b c d : Int), x = .ref l ∧ y = .ref m ∧ SqT K H l [.int a, .int b] ∧ SqT K H m [.int c, .int d] ∧ Q (.bl (ordP r z a b c d)) H
theorem int_here {s : Shared} {A : Around} (a c : Int) (t u : Tok) : SeqAt.EqAt A s (.int a t) (.int c u) (decide (a = c)) := by
  have e : (a == c) = decide (a = c) := by
    by_cases q : a = c
    · rw [decide_eq_true q]; exact beq_iff_eq.mpr q
    · rw [decide_eq_false q]; exact beq_eq_false_iff_ne.mpr q
  rw [← e]
  exact SeqAt.EqAt.int_int _ _ _ _
theorem op_ordV {X : Cx} {op : CmpOp} {r : Int → Int → Bool} {z : Bool} (hco : ∀ v u, compareOp op v u = richCompare op v u)
    (tup : ∀ {A : Around} {s : Shared} {l b : Addr} {is js : Array Value} {e r : Nat → Bool}, s.heap.IsTuple l is → s.heap.IsTuple b js → A.units < cLine → is.size = 2 → js.size = 2 → (∀ j (h1 : j < is.size) (h2 : j < js.size), SeqAt.EqAt A.in1 s is[j] js[j] (e j)) →
      (∀ j (h1 : j < is.size) (h2 : j < js.size), e j = false → Ob.RcOp op A.in1 s is[j] js[j] (r j)) → Ob.RcOp op A s (.ref l) (.ref b) (Ob.lexAt e r z 0 2))
    (int : ∀ {A : Around} {s : Shared} (a b : Int) (t u : Tok), Ob.RcOp op A s (.int a t) (.int b u) (r a b)) (hu : X.A.units < cLine) : OpR X (compareOp op) (rOrd X.K r z) := by
  intro pins s σ H x y v u Q I rx ry h
  obtain ⟨l, m, a, b, c, d, rfl, rfl, hl, hm, q⟩ := h
  obtain rfl : v = Value.ref l := rx
  obtain rfl : u = Value.ref m := ry
  obtain ⟨is, r1, p1, _⟩ := I.tuple hl
  obtain ⟨js, r2, p2, _⟩ := I.tuple hm
  cases r1 with
  | cons ra r1 =>
    cases r1 with
    | cons rb r1 =>
      cases r1
      cases r2 with
      | cons rc r2 =>
        cases r2 with
        | cons rd r2 =>
          cases r2
          obtain ⟨ta, rfl⟩ := ra
          obtain ⟨tb, rfl⟩ := rb
          obtain ⟨tc, rfl⟩ := rc
          obtain ⟨td, rfl⟩ := rd
          have R := tup (A := X.A) (s := s) (e := fun j => if j = 0 then decide (a = c) else decide (b = d)) (r := fun j => if j = 0 then r a c else r b d) p1 p2 hu rfl rfl (fun j h1 h2 => by
            match j, h1 with
            | 0, _ => exact int_here a c ta tc
            | 1, _ => exact int_here b d tb td) (fun j h1 h2 _ => by
            match j, h1 with
            | 0, _ => exact int a c ta tc
            | 1, _ => exact int b d tb td)
          rw [hco]
          refine R X.prog X.w X.xe (EP X pins σ Q) ⟨.bl _, H, I, rfl, ?_⟩
          have e : Ob.lexAt (fun j => if j = 0 then decide (a = c) else decide (b = d)) (fun j => if j = 0 then r a c else r b d) z 0 2 = ordP r z a b c d := by
            unfold ordP
            simp only [Ob.lexAt_succ, Ob.lexAt_zero]
            by_cases h1 : a = c
            · by_cases h2 : b = d
              · simp [h1, h2]
              · simp [h1, h2]
            · simp [h1]
          rw [e]
          exact q
section
variable {X : Cx}
theorem op_ltP (hu : X.A.units < cLine) : OpR X (compareOp .Lt) (rOrd X.K (fun i j => decide (i < j)) false) := op_ordV (fun _ _ => rfl) (fun {A s l b is js e r} h1 h2 h3 h4 h5 h6 h7 => by have z := Ob.RcOp.tuples_lt h1 h2 h3 h6 h7; rw [h4, h5] at z; exact z) (fun a b t u => Ob.RcOp.lt_int a b t u) hu
theorem op_leP (hu : X.A.units < cLine) : OpR X (compareOp .LtE) (rOrd X.K (fun i j => decide (i ≤ j)) true) := op_ordV (fun _ _ => rfl) (fun {A s l b is js e r} h1 h2 h3 h4 h5 h6 h7 => by have z := Ob.RcOp.tuples_le h1 h2 h3 h6 h7; rw [h4, h5] at z; exact z) (fun a b t u => Ob.RcOp.le_int a b t u) hu
theorem op_gtP (hu : X.A.units < cLine) : OpR X (compareOp .Gt) (rOrd X.K (fun i j => decide (j < i)) false) := op_ordV (fun _ _ => rfl) (fun {A s l b is js e r} h1 h2 h3 h4 h5 h6 h7 => by have z := Ob.RcOp.tuples_gt h1 h2 h3 h6 h7; rw [h4, h5] at z; exact z) (fun a b t u => Ob.RcOp.gt_int a b t u) hu
theorem op_geP (hu : X.A.units < cLine) : OpR X (compareOp .GtE) (rOrd X.K (fun i j => decide (j ≤ i)) true) := op_ordV (fun _ _ => rfl) (fun {A s l b is js e r} h1 h2 h3 h4 h5 h6 h7 => by have z := Ob.RcOp.tuples_ge h1 h2 h3 h6 h7; rw [h4, h5] at z; exact z) (fun a b t u => Ob.RcOp.ge_int a b t u) hu
end
/-! ### within a comprehension -/
theorem op_cmpB {X : Cx} {K : PySem.W.Frag} {CX : CXT} {k : Nat} {C : Addr} {m : Str} {ps : List Str} {sp : Sp} {E : XK} {op : CmpOp} (hK : X.K = K) (M : CmpAt X.prog X.w X.K X.mg X.base CX k C m ps sp) (hr : Room k X.A) (hx : Passes CX X E) (hop : (cmpInfo op).2.1 = m := by rfl)
    (hco : ∀ v u, compareOp op v u = richCompare op v u := by intro _ _; rfl) : OpR X (compareOp op) (rCmpO K C sp E) := by
  subst hK
  exact op_cmpO M hr hx hop hco
/-! ### a def that keeps two promises -/
def spOr (s1 s2 : Sp) : Sp := fun vs H Q E => s1 vs H Q E ∨ s2 vs H Q E
section
variable {P : Program} {w : World} {K : PySem.W.Frag} {mg : Str → Option Value} {base : Heap} {CX : CXT} {k : Nat} {f : Addr} {fd : FuncData} {ps : List Str} {s1 s2 : Sp}
theorem ok_or (h1 : FnOk P w K mg base CX k f fd ps s1) (h2 : FnOk P w K mg base CX k f fd ps s2) : FnOk P w K mg base CX k f fd ps (spOr s1 s2) :=
  ⟨fun vs H Q E h => h.elim (h1.len vs H Q E) (h2.len vs H Q E), fun A outer s H args us vs Q E hr e0 hb r h => h.elim (h1.run A outer s H args us vs Q E hr e0 hb r) (h2.run A outer s H args us vs Q E hr e0 hb r)⟩
theorem okG_or (h1 : FnG P w K mg base CX k f fd ps s1) (h2 : FnG P w K mg base CX k f fd ps s2) : FnG P w K mg base CX k f fd ps (spOr s1 s2) :=
  ⟨fun vs H Q E h => h.elim (h1.len vs H Q E) (h2.len vs H Q E), fun A outer s H args us vs Q E hg hr e0 hb r h => h.elim (h1.run A outer s H args us vs Q E hg hr e0 hb r) (h2.run A outer s H args us vs Q E hg hr e0 hb r)⟩
end
end My
/-! Signs in place; an instance called by keywords; what a comprehension may hold. -/
namespace My
open PySem PySem.Spec PySem.Calls PyProof.Rows L2
section
open PySem.W
variable {prog : Program} {w : World} {M : Model} {A : Around} {E : Value → Shared → Prop} {s : Shared} {K : Frag} {x C L f : Addr} {h₀ : Heap} {m : Str → Option Value} {ox : Obj} {od : Option Obj} {nm : String}
/-- beside one of its own class -/
theorem bin1_S {b : Value} {Q : Value → Shared → Prop} (X : K.In s.heap) (I : InstAt s.heap x ox C od) (hb : Looks (model prog w) s.heap (typeOf b) (.ref C)) (hc : selfFirst K C = true) (hs : findIn K (.ref C) (PySem.dunder nm) = some (some (.ref f))) (hf : isFn K (.ref f) = true)
    (h : wpAny (model prog w) A (call (.ref f) [.ref x, b]) (PySem.W.CmpBack Q) E s) : wpAny (model prog w) A (binaryOp1 nm (.ref x) b) (fun r s' => ∃ v, r = some v ∧ Q v s') E s := by
  obtain ⟨cd, rest, hcd, hm⟩ := ksp_first hc
  have one := ksp_try X I hs hf h
  obtain ⟨hh, g, d, tt, os⟩ := s
  have L1 : Looks (model prog w) hh (typeOf (.ref x)) (.ref C) := I.type
  have L2 : Looks (model prog w) hh (typeOf b) (.ref C) := hb
  have L3 : Looks (model prog w) hh (fillsNumberSlot (.ref C) nm) true := fills_K X hcd hm hs
  unfold binaryOp1
  refine wpAny_bind (L1.at (wpAny_bind (L2.at (wpAny_bind (L3.at ?_)))))
  simp only [beq_self_eq_true, if_true]
  ksp_lk
  refine wpAny_mono one (fun r s' hr' => ?_) fun _ _ e => e
  obtain ⟨v, rfl, hq⟩ := hr'
  ksp_lk
  exact ⟨v, rfl, hq⟩
/-- beside a value of a built-in type -/
theorem bin1_T {T : String} {b : Value} {fo ro rc : Option Value} {Q : Value → Shared → Prop} (X : K.In s.heap) (I : InstAt s.heap x ox C od) (hb : typeOf b = pure (.type T)) (hc : selfFirst K C = true)
    (hs : findIn K (.ref C) (PySem.dunder nm) = some (some (.ref f))) (hf : isFn K (.ref f) = true) (hr : findIn K (.ref C) (dunderR nm) = some rc) (hp : rc = none ∨ ∃ g : Addr, rc = some (.ref g))
    (h1 : findIn K (.type T) (PySem.dunder nm) = some fo) (h2 : findIn K (.type T) (dunderR nm) = some ro) (hsub : subIn K (.type T) (.ref C) = some false)
    (h : wpAny (model prog w) A (call (.ref f) [.ref x, b]) (PySem.W.CmpBack Q) E s) : wpAny (model prog w) A (binaryOp1 nm (.ref x) b) (fun r s' => ∃ v, r = some v ∧ Q v s') E s := by
  obtain ⟨cd, rest, hcd, hm⟩ := ksp_first hc
  have one := ksp_try X I hs hf h
  obtain ⟨hh, g, d, tt, os⟩ := s
  have L1 : Looks (model prog w) hh (typeOf (.ref x)) (.ref C) := I.type
  have L2 : Looks (model prog w) hh (typeOf b) (.type T) := Looks.of_pure hb
  have L3 : Looks (model prog w) hh (fillsNumberSlot (.ref C) nm) true := fills_K X hcd hm hs
  have L4 : Looks (model prog w) hh (fillsNumberSlot (.type T) nm) ((fo.isSome && !isSeqSlot fo) || (ro.isSome && !isSeqSlot ro)) := ksp_fillsT X h1 h2
  have L5 : Looks (model prog w) hh (isSubtype (.type T) (.ref C)) false := looks_subIn X hsub
  have L6 : Looks (model prog w) hh (numberSlotInPython (.ref C) nm) true := ksp_inPy X hs hr hp
  have L7 : Looks (model prog w) hh (numberSlotInPython (.type T) nm) false := Looks.of_pure rfl
  have L8 : Looks (model prog w) hh (typeLookup (.type T) (dunderR nm)) ro := looks_findIn X h2
  generalize ((fo.isSome && !isSeqSlot fo) || (ro.isSome && !isSeqSlot ro)) = right at L4
  have hne : (Value.ref C == Value.type T) = false := Bool.eq_false_iff.mpr fun q => by cases beq_iff_eq.mp q
  unfold binaryOp1
  refine wpAny_bind (L1.at (wpAny_bind (L2.at (wpAny_bind (L3.at ?_)))))
  simp only [hne, Bool.false_eq_true, if_false]
  cases right with
  | false =>
    ksp_lk
    refine wpAny_mono one (fun r s' hr' => ?_) fun _ _ e => e
    obtain ⟨v, rfl, hq⟩ := hr'
    ksp_lk
    exact ⟨v, rfl, hq⟩
  | true =>
    ksp_lk
    refine wpAny_mono one (fun r s' hr' => ?_) fun _ _ e => e
    obtain ⟨v, rfl, hq⟩ := hr'
    ksp_lk
    exact ⟨v, rfl, hq⟩
/-- the class has no slot in place -/
theorem noInplace {h : Heap} {cd : ClassData} {add : Bool} (X : K.In h) (hc : clsIn K C = some cd) (hm : cd.mro = [.ref C, .type "object"]) (h1 : findIn K (.ref C) (dunderI nm) = some none) (h2 : findIn K (.type "object") (dunderI nm) = some none) : Looks M h (fillsInplaceSlot (.ref C) nm add) false := by
  intro A Q E s k q
  have Lm : Looks M h (mroOf (.ref C)) cd.mro := (looks_clsIn X hc).andThen (f := fun cd => pure cd.mro) .now
  have Lm' := Lm.keeps k
  obtain ⟨hh, g, d, tt, os⟩ := s
  have X' : K.In hh := X.keeps k
  have L1 : Looks M hh (typeLookup (.ref C) (dunderI nm)) none := looks_findIn X' h1
  have L2 : Looks M hh (typeLookup (.type "object") (dunderI nm)) none := looks_findIn X' h2
  unfold fillsInplaceSlot
  refine wpAny_bind (Lm'.at ?_)
  rw [hm, List.anyM_cons]
  refine wpAny_bind ?_
  repeat lk
  exact q
theorem inpl_K {op : Operator} {b : Value} {Q : Value → Shared → Prop} {cd : ClassData} (X : K.In s.heap) (I : InstAt s.heap x ox C od) (hc : clsIn K C = some cd) (hm : cd.mro = [.ref C, .type "object"]) (h1 : findIn K (.ref C) (dunderI op.info.2) = some none) (h2 : findIn K (.type "object") (dunderI op.info.2) = some none)
    (h : wpAny (model prog w) A (binaryOp1 op.info.2 (.ref x) b) (fun r s' => ∃ v, r = some v ∧ Q v s') E s) : wpAny (model prog w) A (inplaceOp op (.ref x) b) Q E s := by
  have L2 : Looks (model prog w) s.heap (fillsInplaceSlot (.ref C) op.info.2 (op == .Add)) false := noInplace X hc hm h1 h2
  unfold inplaceOp
  refine wpAny_holding ?_
  dsimp only
  refine wpAny_bind (I.type.here (wpAny_bind (L2.here ?_)))
  simp only [Bool.false_eq_true, if_false]
  refine wpAny_bind (wpAny_mono h (fun r s' z => ?_) fun _ _ e => e)
  obtain ⟨v, rfl, hq⟩ := z
  exact wpAny_pure hq
end
/-- the class has no slot in place -/
structure InpF (K : PySem.W.Frag) (C : Addr) (nm : String) : Prop where
  mro : ∃ cd, PySem.W.clsIn K C = some cd ∧ cd.mro = [.ref C, .type "object"]
  no1 : PySem.W.findIn K (.ref C) (dunderI nm) = some none
  no2 : PySem.W.findIn K (.type "object") (dunderI nm) = some none
section
variable {X : Cx} {CX : CXT} {k : Nat} {ps ks : List Str} {sp : Sp} {E : XK} {C : Addr} {m : Str}
theorem iop_O {op : Operator} (M : CmpAt X.prog X.w X.K X.mg X.base CX k C m ps sp) (B : BinF X.K C op.info.2) (N : InpF X.K C op.info.2) (hr : Room k X.A) (hx : Passes CX X E) (hm : PySem.dunder op.info.2 = m := by rfl) : OpR X (inplaceOp op) (rBinO C sp E) := by
  intro pins s σ H x y v u Q I rx ry h
  obtain ⟨f, fd, hs, hf, F, hb⟩ := M.ex
  obtain ⟨a, dx, fs, rfl, ha, oi, hsp⟩ := h
  obtain rfl : v = Value.ref a := rx
  obtain ⟨ox, od, J, _⟩ := ins_plain I ha
  obtain ⟨cd, c1, c2⟩ := N.mro
  subst hm
  have go : wpAny (model X.prog X.w) X.A (call (.ref f) [.ref a, u]) (PySem.W.CmpBack (EP X pins σ Q)) X.xe s := wpAny_mono (run_at (vs := [.ref a, y]) F hb hx (Und.here hr) I (.cons rfl (.cons ry .nil)) hsp) (fun _ _ z => ep_back z) fun _ _ z => z
  refine inpl_K I.kIn J c1 c2 N.no1 N.no2 ?_
  rcases oi with ⟨b, dy, gs, rfl, hb'⟩ | ⟨j, rfl⟩
  · obtain rfl : u = Value.ref b := ry
    obtain ⟨oy, od', J', _⟩ := ins_plain I hb'
    exact bin1_S I.kIn J J'.type B.sf hs hf go
  · obtain ⟨t, rfl⟩ := ry
    obtain ⟨rc, r1, r2⟩ := B.rc
    obtain ⟨fo, i1⟩ := B.i1
    obtain ⟨ro, i2⟩ := B.i2
    exact bin1_T I.kIn J rfl B.sf hs hf r1 r2 i1 i2 B.su go
/-! ### an instance called -/
/-- f(e, ..), told without the context -/
def tCallI (C : Addr) (sp : Sp) (E : XK) (tf : TE) (t : TA) : TE := fun σ H Q => tf σ H fun y H1 => ∃ a, y = V.ref a ∧ t σ H1 fun vs H2 => (∃ dx fs, H2 a = some (.ins C dx fs)) ∧ sp (V.ref a :: vs) H2 Q E
theorem pe_clI {fe e : Expr} {es : List Expr} {tf : TE} {t : TA} {pos : Pos} (M : CallAt X.prog X.w X.K X.mg X.base CX k C ps sp) (hr : Room k X.A) (hx : Passes CX X E) (hf : PE X fe tf) (ha : PA X (e :: es) t)
    (ht : eval (.Call fe (e :: es) [] pos) X.env = (do callWith pos (← eval fe X.env) [] (backTo pos (starEach (e :: es) X.env)) (backToKw pos (keywordEach [] X.env))) := by rfl)
    (hs : starEach (e :: es) X.env = (false, eval e X.env) :: starEach es X.env := by rfl) (hpl : (backTo pos (starEach es X.env)).any (·.1) = false := by rfl) : PE X (.Call fe (e :: es) [] pos) (tCallI C sp E tf t) := by
  obtain ⟨f, fd, c, F, b⟩ := M.ex
  refine ⟨fun pins s σ H Q I h => ?_⟩
  refine Call_ (thn (hf.run pins s σ H _ I h) fun u s1 ⟨y, H1, I1, ry, a, ey, q⟩ => ?_) ht
  subst ey
  obtain rfl : u = Value.ref a := ry
  refine StX.callO_with (thn (ha.run pos pins s1 σ H1 _ I1 q) fun us s2 ⟨vs, H2, I2, r, ⟨dx, fs, hi⟩, q2⟩ => ?_) hs hpl
  obtain ⟨ox, od, J, hd⟩ := StX.insC_at (X := X) I2 (.inr ⟨dx, fs, hi⟩)
  refine ⟨⟨C, ox, od, J, hd⟩, ?_⟩
  have hl : (Value.ref a :: us ++ []).length = ps.length := by
    rw [List.append_nil, List.length_cons, ← r.length]
    exact F.len _ _ _ _ q2
  have bd := b s2 (.ref a :: us) I2.kIn hl
  rw [List.append_nil] at bd
  refine wpAny_call (PySem.W.kco_code I2.kIn J hd c.at_ c.fn c.fi (codeAny_mono (F.run X.A X.stack s2 H2 ⟨.ref a :: us, []⟩ (.ref a :: us) (.ref a :: vs) _ E hr I2.env0 bd (.cons rfl r) q2) fun r s' hq => ?_))
  match r, hq with
  | .error e, hq => exact hx pins σ H2 s2 e s' I2 hq
  | .ok (.ret z), hq => exact I2.after hq
  | .ok .next, hq => exact False.elim hq
  | .ok .brk, hq => exact False.elim hq
  | .ok .cont, hq => exact False.elim hq
structure CallK (P : Program) (w : World) (K : PySem.W.Frag) (mg : Str → Option Value) (base : Heap) (CX : CXT) (k : Nat) (C : Addr) (ps ks : List Str) (sp : Sp) (gV : List V → List V → List V) : Prop where
  ex : ∃ f fd g, StX.CallO K C f ∧ FnOk P w K mg base CX k f fd ps sp ∧ KBn K fd ps 1 ks g gV
def tCallK (C : Addr) (j : Nat) (sp : Sp) (gV : List V → List V → List V) (E : XK) (tf : TE) (tk : TA) : TE := fun σ H Q => tf σ H fun y H1 => ∃ a, y = V.ref a ∧ tk σ H1 fun zs H2 => zs.length = j ∧ (∃ dx fs, H2 a = some (.ins C dx fs)) ∧ sp (gV [.ref a] zs) H2 Q E
/-- the call's node where the callee is an instance, keywords alone -/
theorem callO_kw {M : Model} {A : Around} {Er : Value → Shared → Prop} {s : Shared} {a : Addr} {pos : Pos} {Q : Value → Shared → Prop} {args : List (Bool × Sem Value)} {kw : List (Option Str × Sem Value)} (hplain : (args.any (·.1) || kw.any (·.1.isNone)) = false)
    (h : wpAny M A (evalArgs (.ref a) true args kw) (fun z s₁ => (∃ C ox od, PySem.W.InstAt s₁.heap a ox C od ∧ ox.data = .plain) ∧ wpAny M A (call (.ref a) ([] ++ z.pos) z.kw) Q Er s₁) Er s) : wpAny M A (callWith pos (.ref a) [] args kw) Q Er s := by
  unfold callWith
  refine wpAny_bind (wpAny_holding (wpAny_mono h (fun z s₁ h₁ => wpAny_bind (wpAny_standAt ?_)) fun _ _ y => y))
  obtain ⟨⟨C, ox, od, J, hd⟩, h₁⟩ := h₁
  simp only [hplain]
  refine wpAny_bind ((PySem.W.kco_keeper (M := M) J hd).here ?_)
  refine wpAny_bind (wpAny_mono (wpAny_operateT h₁) (fun r s₂ hr => wpAny_bind (wpAny_holding (wpAny_point (wpAny_pure hr)))) fun _ _ y => y)
theorem pe_clK {fe : Expr} {kws : List Keyword} {tf : TE} {tk : TA} {pos : Pos} {gV : List V → List V → List V} (M : CallK X.prog X.w X.K X.mg X.base CX k C ps ks sp gV) (hr : Room k X.A) (hx : Passes CX X E) (hf : PE X fe tf) (hkw : PK X kws tk)
    (ht : eval (.Call fe [] kws pos) X.env = (do callWith pos (← eval fe X.env) [] (backTo pos (starEach [] X.env)) (backToKw pos (keywordEach kws X.env))) := by rfl)
    (hall : (backToKw pos (keywordEach kws X.env)).all (·.1.isSome) = true := by rfl) (hks : (backToKw pos (keywordEach kws X.env)).filterMap (·.1) = ks := by rfl)
    (hpl : ((backTo pos (starEach [] X.env)).any (·.1) || (backToKw pos (keywordEach kws X.env)).any (·.1.isNone)) = false := by rfl) : PE X (.Call fe [] kws pos) (tCallK C ks.length sp gV E tf tk) := by
  obtain ⟨f, fd, g, c, F, b⟩ := M.ex
  refine ⟨fun pins s σ H Q I h => ?_⟩
  rw [ht]
  refine wpAny_bind (thn (hf.run pins s σ H _ I h) fun u s1 ⟨y, H1, I1, ry, a, ey, q⟩ => ?_)
  subst ey
  obtain rfl : u = Value.ref a := ry
  refine callO_kw hpl (evalArgs_kw2_nil hall (thn (hkw.run pos pins s1 σ H1 _ I1 q) fun ws s2 ⟨zs, H2, I2, rz, l2, ⟨dx, fs, hi⟩, q2⟩ => ?_))
  obtain ⟨ox, od, J, hd⟩ := StX.insC_at (X := X) I2 (.inr ⟨dx, fs, hi⟩)
  refine ⟨⟨C, ox, od, J, hd⟩, ?_⟩
  rw [hks]
  have r2 := b.rel (vs := [V.ref a]) (us := [Value.ref a]) (.cons rfl .nil) rz
  refine wpAny_call (PySem.W.kco_code I2.kIn J hd c.at_ c.fn c.fi (codeAny_mono (F.run X.A X.stack s2 H2 ⟨[.ref a], ks.zip ws⟩ (g [.ref a] ws) (gV [.ref a] zs) _ E hr I2.env0 (b.to s2 [.ref a] ws I2.kIn rfl (rz.length.symm.trans l2)) r2 q2) fun r s' hq => ?_))
  match r, hq with
  | .error e, hq => exact hx pins σ H2 s2 e s' I2 hq
  | .ok (.ret z), hq => exact I2.after hq
  | .ok .next, hq => exact False.elim hq
  | .ok .brk, hq => exact False.elim hq
  | .ok .cont, hq => exact False.elim hq
/-- a class of the module made by keywords alone -/
structure MakeK (P : Program) (w : World) (K : PySem.W.Frag) (mg : Str → Option Value) (base : Heap) (CX : CXT) (k : Nat) (x : Str) (C : Addr) (ps ks : List Str) (sp : Sp) (gV : List V → List V → List V) : Prop where
  ex : ∃ f fd g, Mk K C f ∧ FnOk P w K mg base CX k f fd ps sp ∧ mg x = some (.ref C) ∧ KBn K fd ps 1 ks g gV
theorem pe_mkK {x : Str} {p pos : Pos} {kws : List Keyword} {tk : TA} {gV : List V → List V → List V} (M : MakeK X.prog X.w X.K X.mg X.base CX k x C ps ks sp gV) (hr : Room (k + 1) X.A) (hg : Gl X x) (hx : Passes CX X E) (hkw : PK X kws tk)
    (hall : (backToKw pos (keywordEach kws X.env)).all (·.1.isSome) = true := by rfl) (hks : (backToKw pos (keywordEach kws X.env)).filterMap (·.1) = ks := by rfl) (hdb : (x == ("__debug__" : Str)) = false := by decide)
    (hpl : ((backTo pos (starEach [] X.env)).any (·.1) || (backToKw pos (keywordEach kws X.env)).any (·.1.isNone)) = false := by rfl) : PE X (.Call (.Name x p) [] kws pos) (tMakeK C 0 ks.length sp gV E tNil tk) := by
  obtain ⟨f, fd, g, mk, F, hm, b⟩ := M.ex
  exact pe_makeK0 mk F hr hg hm b hx hkw hall hks hdb hpl
end
end My
namespace My
open PySem PySem.Spec PyProof.Rows L2
def topS (i : Nat) : Stmt := PySem.Challenge.pw_clipfades_k15_lines_reckoned.main.body.getD i (.Pass ⟨0, 0, 0, 0⟩)
abbrev s_pen : Stmt := topS 17
abbrev s_draw : Stmt := topS 18
abbrev s_pick : Stmt := topS 19
theorem sc_pen : FnScope ["_law_script"] ["_law_script"] (defScope s_pen) := ⟨rfl, rfl, rfl, by decide +kernel, rfl, by decide +kernel, by decide +kernel⟩
theorem sc_draw : FnScope ["_law_pen_here", "_law_many", "_law_digit", "_law_at", "_law_cell", "_law_great", "_law_mixed"] ["_law_pen_here", "_law_many"] (defScope s_draw) := ⟨rfl, rfl, rfl, by decide +kernel, rfl, by decide +kernel, by decide +kernel⟩
theorem sc_pick : FnScope ["_law_pen_here", "_law_some"] ["_law_pen_here", "_law_some"] (defScope s_pick) := ⟨rfl, rfl, rfl, by decide +kernel, rfl, by decide +kernel, by decide +kernel⟩
/-- the pen, its cells at cl -/
def PenC (H : Hp) (pn cl : Addr) (n : Nat) : Prop := ∃ (ns : List Int) (at_ rest : Int), H pn = some (.lst [.ref cl, .int at_, .int rest]) ∧ H cl = some (.lst (ns.map V.int)) ∧ ns.length ≤ 63 ∧ 0 ≤ at_ ∧ at_ ≤ n
theorem PenC.pen {H : Hp} {pn cl : Addr} {n : Nat} (h : PenC H pn cl n) : PenAt H pn n := by
  obtain ⟨ns, a, r, h⟩ := h
  exact ⟨cl, ns, a, r, h⟩
theorem PenAt.cells {H : Hp} {pn : Addr} {n : Nat} (h : PenAt H pn n) : ∃ cl, PenC H pn cl n := by
  obtain ⟨cl, ns, a, r, h⟩ := h
  exact ⟨cl, ns, a, r, h⟩
theorem PenC.put {H : Hp} {pn cl p : Addr} {n : Nat} {o : HO} (h : PenC H pn cl n) (h1 : pn ≠ p) (h2 : cl ≠ p) : PenC (upd H p o) pn cl n := by
  obtain ⟨ns, a, r, e1, e2, h3⟩ := h
  exact ⟨ns, a, r, by rw [upd_ne h1]; exact e1, by rw [upd_ne h2]; exact e2, h3⟩
theorem PenC.same {H H' : Hp} {pn cl : Addr} {n : Nat} (h : PenC H pn cl n) (s : Same H H') : PenC H' pn cl n := by
  obtain ⟨ns, a, r, e1, e2, h3⟩ := h
  exact ⟨ns, a, r, s _ _ e1, s _ _ e2, h3⟩
def spDrawC : Sp := fun vs H Q _ => ∃ (pn cl : Addr) (m : Int) (n : Nat), vs = [.ref pn, .int m] ∧ 0 < m ∧ m.natAbs.log2 < 9000 ∧ PenC H pn cl n ∧ n < 100000 ∧
  ∀ (d : Int) (H' : Hp), 0 ≤ d → d < m → PenC H' pn cl (n + 1) → But pn H H' → Q (.int d) H'
section
variable {P : Program} {w : World} {K : PySem.W.Frag} {mg : Str → Option Value} {base : Heap}
theorem ok_pen {f : Addr} {fd : FuncData} (F : Fun K "_law_pen" "_law_pen" s_pen f fd) (T : BI mg) : FnOk P w K mg base CX0 1 f fd ["_law_script"] (spPen K) := by
  refine F.ok sc_pen (fun vs H Q E h => ?_) (fun cdv A outer s H vs Q E hr h => ?_)
  · obtain ⟨a, ns, rfl, _⟩ := h
    rfl
  · obtain ⟨a, ns, rfl, hS, k⟩ := h
    refine ⟨_, (pss_one (ps_ret (pe_lst (pa_cons (pe_callTy call_list_of (by rfl) T.z_list boot_list (pa_cons (pe_slice sl_list (pv 0) po_none (po_some pe_int)) pa_nil)) (pa_cons pe_int (pa_cons pe_int pa_nil)))))), ?_⟩
    refine ⟨_, rfl, 63, rfl, a, _, rfl, hS, fun p hp => ?_⟩
    refine ⟨p, _, rfl, .inl (SqL.of upd_same), fun l hl => ?_⟩
    refine ⟨(by show 3 ≤ sizeLine; decide), fun pn hpn => ?_⟩
    have npl : p ≠ l := ne_of_none upd_same hl
    have hlp : l ≠ pn := ne_of_none upd_same hpn
    have e1 : cutV (ns.map V.int) none (some 63) = (ns.take 63).map V.int := cut_ints ns 63
    have s0 : Same H (upd (upd (upd H p (.lst (cutV (ns.map V.int) none (some 63)))) l (.lst (cutV (ns.map V.int) none (some 63)))) pn (.lst [.ref l, .int 0, .int 0])) := fun b o z => by
      have z1 : (upd H p (.lst (cutV (ns.map V.int) none (some 63)))) b = some o := by rw [upd_ne (ne_of_none z hp)]; exact z
      have z2 : (upd (upd H p (.lst (cutV (ns.map V.int) none (some 63)))) l (.lst (cutV (ns.map V.int) none (some 63)))) b = some o := by rw [upd_ne (ne_of_none z1 hl)]; exact z1
      rw [upd_ne (ne_of_none z2 hpn)]
      exact z2
    have n1 : H pn = none := by
      cases z : H pn with
      | none => rfl
      | some o =>
        rw [upd_ne (Ne.symm hlp)] at hpn
        by_cases y : pn = p
        · rw [y, hp] at z
          cases z
        · rw [upd_ne y, z] at hpn
          cases hpn
    refine k pn _ n1 ⟨l, ns.take 63, 0, 0, upd_same, ?_, ?_, Int.le_refl _, Int.le_refl _⟩ s0
    · rw [upd_ne hlp, upd_same, e1]
    · rw [List.length_take]
      omega
theorem ok_drawC {f : Addr} {fd : FuncData} (F : Fun K "_law_draw" "_law_draw" s_draw f fd) (T : BI mg) : FnOk P w K mg base CX0 1 f fd ["_law_pen_here", "_law_many"] spDrawC := by
  refine F.ok sc_draw (fun vs H Q E h => ?_) (fun cdv A outer s H vs Q E hr h => ?_)
  · obtain ⟨pn, cl, m, n, rfl, _⟩ := h
    rfl
  · obtain ⟨pn, cl, m, n, rfl, hm, hml, ⟨ns, at_, rest, h1, h2, h3, h4, h5⟩, hn, k⟩ := h
    refine ⟨_, (pss_cons (ps_if (pt_cmpR op_gt (pe_ix ix_list (pv 0) pe_int (fun _ _ => rfl)) pe_int (nomark _)) (pss_cons (ps_set (i := 2) sc_draw.nd rfl (Or.inl rfl) (pe_op op_mod (pe_callTy call_int1 (by rfl) T.z_int boot_int (pa_cons (pe_ix ix_list (pv 0) pe_int (fun _ _ => rfl)) pa_nil)) (pv 1)))
      (pss_cons (ps_asg (pe_op op_fdivW (pe_callTy call_int1 (by rfl) T.z_int boot_int (pa_cons (pe_ix ix_list (pv 0) pe_int (fun _ _ => rfl)) pa_nil)) (pv 1)) (pg_sub (pv 0) pe_int set_list))
      (pss_one (ps_ret (pv 2))))) pss_nil)
      (pss_cons (ps_set (i := 3) sc_draw.nd rfl (Or.inl rfl) (pe_ix ix_list (pv 0) pe_int (fun _ _ => rfl)))
      (pss_cons (ps_asg (pe_op op_add (pv 3) pe_int) (pg_sub (pv 0) pe_int set_list))
      (pss_cons (ps_set (i := 4) sc_draw.nd rfl (Or.inl rfl) (pe_op op_add (pe_op op_mul pe_int (pv 3)) pe_int))
      (C8.pss_cut (ps_if (pt_cmpR (op_neD hr.units) (pe_ix ix_list (pv 0) pe_int (fun _ _ => rfl)) (pe_lst pa_nil) (nomark _)) (pss_one (ps_set (i := 4) sc_draw.nd rfl (Or.inl rfl) (pe_ix ix_list (pe_ix ix_list (pv 0) pe_int (fun _ _ => rfl)) (pe_op op_mod (pe_callTy call_int1 (by rfl) T.z_int boot_int (pa_cons (pv 3) pa_nil)) (pe_callB call_len (by rfl) T.z_len PySem.boot_len (pa_cons (pe_ix ix_list (pv 0) pe_int (fun _ _ => rfl)) pa_nil))) (fun _ _ => rfl)))) pss_nil)
      (C8.pss_cut (ps_if (PW.pt (pw_and (pt_cmpR op_lt (pv 3) (pe_callB call_len (by rfl) T.z_len PySem.boot_len (pa_cons (pe_ix ix_list (pv 0) pe_int (fun _ _ => rfl)) pa_nil)) (nomark _)) (pw_and1 (pt_cmpR op_ge (pe_callB call_abs (by rfl) T.z_abs boot_abs (pa_cons (pv 4) pa_nil)) (pe_op op_pow pe_int pe_int) (nomark _))))) (pss_cons (ps_set (i := 5) sc_draw.nd rfl (Or.inl rfl) (pe_op op_add (pe_op op_mul pe_int (pe_op op_sub (pe_callB call_abs (by rfl) T.z_abs boot_abs (pa_cons (pv 4) pa_nil)) (pe_op op_pow pe_int pe_int))) (pe_callTy call_int1 (by rfl) T.z_int boot_int (pa_cons (pe_cmpR op_lt (pv 4) pe_int (nomark _)) pa_nil))))
      (pss_cons (ps_asg (pe_op op_fdivW (pe_callTy call_int1 (by rfl) T.z_int boot_int (pa_cons (pv 5) pa_nil)) (pv 1)) (pg_sub (pv 0) pe_int set_list))
      (pss_one (ps_ret (pe_op op_mod (pe_callTy call_int1 (by rfl) T.z_int boot_int (pa_cons (pv 5) pa_nil)) (pv 1)))))) pss_nil)
      (pss_cons (ps_set (i := 6) sc_draw.nd rfl (Or.inl rfl) (pe_op op_mod (pe_callTy call_int1 (by rfl) T.z_int boot_int (pa_cons (pe_op op_pow (pe_op op_add (pe_op op_add (pe_op op_mod (pe_callTy call_int1 (by rfl) T.z_int boot_int (pa_cons (pv 4) pa_nil)) pe_int) (pe_op op_mul pe_int (pv 3))) pe_int) pe_int) pa_nil)) pe_int))
      (pss_cons (ps_set (i := 6) sc_draw.nd rfl (Or.inl rfl) (pe_op op_mod (pe_callTy call_int1 (by rfl) T.z_int boot_int (pa_cons (pe_op op_pow (pe_op op_add (pe_op op_add (pe_op op_mul (pv 6) (pe_op op_add (pe_op op_mul pe_int (pv 3)) pe_int)) (pe_op op_mul (pe_op op_mul pe_int (pv 3)) (pv 3))) pe_int) pe_int) pa_nil)) pe_int))
      (pss_one (ps_ret (pe_op op_mod (pe_callTy call_int1 (by rfl) T.z_int boot_int (pa_cons (pe_op op_fdivW (pv 6) pe_int) pa_nil)) (pv 1)))))))))))), ?_⟩
    have i2 : atI [V.ref cl, V.int at_, V.int rest] 2 = some (V.int rest) := rfl
    have i1 : atI [V.ref cl, V.int at_, V.int rest] 1 = some (V.int at_) := rfl
    have i0 : atI [V.ref cl, V.int at_, V.int rest] 0 = some (V.ref cl) := rfl
    refine ⟨_, rfl, pn, _, _, _, rfl, rfl, SqL.of h1, i2, _, _, rfl, rfl, _, rfl, ?_⟩
    have npc : cl ≠ pn := ne_of h2 h1 (by
      intro z
      injection z with z
      cases ns with
      | nil => cases z
      | cons a l => cases z)
    refine ite2 (fun c => ?_) (fun c => ?_)
    · refine ⟨_, rfl, pn, _, _, _, rfl, rfl, SqL.of h1, i2, .inl ⟨rest, rfl, _, rfl, _, _, rfl, rfl, hm, ?_⟩⟩
      refine ⟨_, rfl, pn, _, _, _, rfl, rfl, SqL.of h1, i2, .inl ⟨rest, rfl, _, rfl, _, _, rfl, rfl, ⟨hm, hml⟩, _, rfl, pn, _, _, 2, rfl, rfl, h1, rfl, ?_⟩⟩
      refine ⟨_, rfl, k _ _ (Int.emod_nonneg _ (by omega)) (Int.emod_lt_of_pos _ hm) ?_ But.put⟩
      exact ⟨ns, at_, rest / m, upd_same, by rw [upd_ne npc]; exact h2, h3, h4, by omega⟩
    · refine ⟨_, rfl, pn, _, _, _, rfl, rfl, SqL.of h1, i1, ?_⟩
      refine ⟨_, rfl, _, _, rfl, rfl, _, rfl, pn, _, _, 1, rfl, rfl, h1, rfl, ?_⟩
      refine ⟨_, rfl, _, _, rfl, rfl, .inl ⟨by decide, by decide⟩, _, _, rfl, rfl, ?_⟩
      have i0' : atI [V.ref cl, V.int (at_ + 1), V.int rest] 0 = some (V.ref cl) := rfl
      refine ⟨fun σ H2 => ∃ (cell : Int) (v5 v6 : Option V), σ = [some (.ref pn), some (.int m), none, some (.int at_), some (.int cell), v5, v6] ∧ H2 pn = some (.lst [.ref cl, .int (at_ + 1), .int rest]) ∧ H2 cl = some (.lst (ns.map V.int)) ∧ But pn H H2, ?_, ?_⟩
      · refine ⟨_, rfl, pn, _, _, _, rfl, rfl, SqL.of upd_same, i0', (by show 0 ≤ sizeLine; decide), fun l hl => ?_⟩
        have nlp : pn ≠ l := ne_of_none (upd_same (H := H) (a := pn)) hl
        have nlc : cl ≠ l := ne_of_none (by rw [upd_ne npc]; exact h2) hl
        have w1 : (upd (upd H pn (.lst [.ref cl, .int (at_ + 1), .int rest])) l (.lst [])) pn = some (.lst [.ref cl, .int (at_ + 1), .int rest]) := by rw [upd_ne nlp, upd_same]
        have w2 : (upd (upd H pn (.lst [.ref cl, .int (at_ + 1), .int rest])) l (.lst [])) cl = some (.lst (ns.map V.int)) := by rw [upd_ne nlc, upd_ne npc]; exact h2
        have wb : But pn H (upd (upd H pn (.lst [.ref cl, .int (at_ + 1), .int rest])) l (.lst [])) := But.put.trans (But.new hl)
        refine ⟨.list (ns.map PyData.int), .list [], .lst (SqL.of w2) (dp_ints ns), .lst (SqL.of upd_same) .nil, shaped_ints ns, rfl, _, rfl, ?_⟩
        cases ns with
        | nil =>
          refine iteF ?_
          exact ⟨_, _, _, rfl, w1, w2, wb⟩
        | cons z zs =>
          refine iteT ?_
          have hl0 : (0 : Int) < (((z :: zs).map V.int).length : Int) := by
            rw [List.length_map, List.length_cons]
            omega
          obtain ⟨v, hv⟩ : ∃ v, ((z :: zs))[(at_ % (((z :: zs).map V.int).length : Int)).toNat]? = some v := by
            have g := Int.emod_lt_of_pos at_ hl0
            have g0 := Int.emod_nonneg at_ (show (((z :: zs).map V.int).length : Int) ≠ 0 by omega)
            refine ⟨_, List.getElem?_eq_getElem ?_⟩
            rw [List.length_map] at g g0 ⊢
            omega
          refine ⟨_, rfl, pn, _, _, _, rfl, rfl, SqL.of w1, i0', _, rfl, .inl ⟨at_, rfl, _, rfl, pn, _, _, _, rfl, rfl, SqL.of w1, i0', _, _, rfl, .inl ⟨_, SqL.of w2, rfl⟩, _, _, rfl, rfl, hl0, cl, _, _, .int v, rfl, rfl, SqL.of w2, ?_, ?_⟩⟩
          · have g0 := Int.emod_nonneg at_ (show (((z :: zs).map V.int).length : Int) ≠ 0 by omega)
            refine at_of (j := (at_ % (((z :: zs).map V.int).length : Int)).toNat) (by omega) ?_
            rw [List.getElem?_map, hv]
            rfl
          · exact ⟨_, _, _, rfl, w1, w2, wb⟩
      · rintro σ H2 ⟨cell, v5, v6, rfl, g1, g2, hb⟩
        have pen2 : ∀ r : Int, PenC (upd H2 pn (.lst [.ref cl, .int (at_ + 1), .int r])) pn cl (n + 1) := fun r =>
          ⟨ns, at_ + 1, r, upd_same, by rw [upd_ne npc]; exact g2, h3, by omega, by omega⟩
        refine ⟨fun σ H3 => ∃ (v5 v6 : Option V), σ = [some (.ref pn), some (.int m), none, some (.int at_), some (.int cell), v5, v6] ∧ H3 = H2, ?_, ?_⟩
        · refine ⟨_, rfl, _, rfl, pn, _, _, _, rfl, rfl, SqL.of g1, i0', _, _, rfl, .inl ⟨_, SqL.of g2, rfl⟩, _, _, rfl, rfl, _, rfl, ?_⟩
          refine ite2 (fun c1 => ?_) (fun c1 => iteF ⟨_, _, rfl, rfl⟩)
          refine ⟨_, rfl, _, rfl, _, _, rfl, rfl, ⟨by decide, by decide, by decide⟩, _, _, rfl, rfl, _, rfl, ?_⟩
          refine ite2 (fun c2 => ?_) (fun c2 => ⟨_, _, rfl, rfl⟩)
          refine ⟨_, rfl, _, rfl, _, _, rfl, rfl, ⟨by decide, by decide, by decide⟩, _, _, rfl, rfl, _, _, rfl, rfl, .inl ⟨by decide, by decide⟩, _, rfl, _, _, rfl, rfl, .inr ⟨_, rfl, _, _, rfl, rfl, ?_⟩⟩
          refine ⟨_, rfl, .inl ⟨_, rfl, _, rfl, _, _, rfl, rfl, ⟨hm, hml⟩, _, rfl, pn, _, _, 2, rfl, rfl, g1, rfl, ?_⟩⟩
          refine ⟨_, rfl, .inl ⟨_, rfl, _, rfl, _, _, rfl, rfl, hm, ?_⟩⟩
          exact k _ _ (Int.emod_nonneg _ (by omega)) (Int.emod_lt_of_pos _ hm) (pen2 _) (hb.trans But.put)
        · rintro σ H3 ⟨v5, v6, rfl, rfl⟩
          have ea : at_ < 100000 := by omega
          refine ⟨_, rfl, .inl ⟨_, rfl, _, _, rfl, rfl, (by show (0 : Int) < _; decide), _, rfl, _, _, rfl, rfl, .inl ⟨by decide, by decide⟩, _, _, rfl, rfl, _, _, rfl, rfl, _, _, rfl, rfl, ⟨by decide, by decide, ?_⟩, .inl ⟨_, rfl, _, _, rfl, rfl, (by show (0 : Int) < _; decide), ?_⟩⟩⟩
          · have e1 := Int.emod_nonneg cell (show (2147483563 : Int) ≠ 0 by decide)
            have e2 := Int.emod_lt_of_pos cell (show (0 : Int) < 2147483563 by decide)
            refine pow_lt (by omega) (by omega)
          have x0 := Int.emod_nonneg ((cell % 2147483563 + 61391 * at_ + 157) ^ Int.toNat 5) (show (2147483629 : Int) ≠ 0 by decide)
          have x1 := Int.emod_lt_of_pos ((cell % 2147483563 + 61391 * at_ + 157) ^ Int.toNat 5) (show (0 : Int) < 2147483629 by decide)
          refine ⟨_, rfl, _, rfl, _, _, rfl, rfl, .inl ⟨by decide, by decide⟩, _, _, rfl, rfl, _, _, rfl, rfl, .inl ⟨Int.lt_of_lt_of_le (by decide) x0, Int.lt_trans x1 (by decide)⟩, _, rfl, _, _, rfl, rfl, .inl ⟨by decide, by decide⟩, _, rfl, _, _, rfl, rfl, .inr ⟨by omega, by omega⟩, _, _, rfl, rfl, _, _, rfl, rfl, _, _, rfl, rfl, ⟨by decide, by decide, ?_⟩, .inl ⟨_, rfl, _, _, rfl, rfl, (by show (0 : Int) < _; decide), ?_⟩⟩
          · exact mix_lt x0 (Int.lt_trans x1 (by decide)) h4 ea (by decide) (by decide) (by decide) (by decide) (by decide) (by decide)
          refine ⟨_, rfl, _, _, rfl, rfl, ⟨by decide, by decide⟩, .inl ⟨_, rfl, _, rfl, _, _, rfl, rfl, hm, ?_⟩⟩
          exact k _ _ (Int.emod_nonneg _ (by omega)) (Int.emod_lt_of_pos _ hm) ⟨ns, at_ + 1, rest, g1, g2, h3, by omega, by omega⟩ hb
theorem ok_draw {f : Addr} {fd : FuncData} (F : Fun K "_law_draw" "_law_draw" s_draw f fd) (T : BI mg) : FnOk P w K mg base CX0 1 f fd ["_law_pen_here", "_law_many"] spDraw := by
  have G := ok_drawC (P := P) (w := w) (base := base) F T
  have to : ∀ vs H Q E, spDraw vs H Q E → spDrawC vs H Q E := fun vs H Q E h => by
    obtain ⟨pn, m, n, e, hm, hml, hp, hn, k⟩ := h
    obtain ⟨cl, hc⟩ := hp.cells
    exact ⟨pn, cl, m, n, e, hm, hml, hc, hn, fun d H' a b c u => k d H' a b c.pen u⟩
  exact ⟨fun vs H Q E h => G.len vs H Q E (to _ _ _ _ h), fun A outer s H args us vs Q E hr e0 hb r h => G.run A outer s H args us vs Q E hr e0 hb r (to _ _ _ _ h)⟩
theorem ok_pick {f : Addr} {fd : FuncData} (F : Fun K "_law_pick" "_law_pick" s_pick f fd) (T : BI mg) (D_draw : DefAt P w K mg base CX0 1 "_law_draw" ["_law_pen_here", "_law_many"] spDraw) : FnOk P w K mg base CX0 2 f fd ["_law_pen_here", "_law_some"] spPick := by
  refine F.ok sc_pick (fun vs H Q E h => ?_) (fun cdv A outer s H vs Q E hr h => ?_)
  · obtain ⟨pn, l, n, xs, rfl, _⟩ := h
    rfl
  · obtain ⟨pn, l, n, xs, rfl, hl, nl, h0, h1, hp, hn, k⟩ := h
    refine ⟨_, (pss_one (ps_ret (pe_ix ix_list (pv 1) (My.pe_d D_draw (hr.mono (by decide)) (by rfl) pass0 (pa_cons (pv 0) (pa_cons (pe_callB call_len (by rfl) T.z_len PySem.boot_len (pa_cons (pv 1) pa_nil)) pa_nil))) (fun _ _ => rfl)))), ?_⟩
    refine ⟨_, rfl, _, rfl, _, rfl, _, _, rfl, .inl ⟨_, SqL.of hl, rfl⟩, pn, _, n, rfl, by omega, ?_, hp, hn, fun d H' d0 d1 hp' hb => ?_⟩
    · refine Nat.lt_of_lt_of_le (PySem.Flt.log2_lt_of (k := 10) (by decide) ?_) (by decide)
      show xs.length < 1024
      omega
    · obtain ⟨v, hv⟩ : ∃ v, xs[d.toNat]? = some v := ⟨_, List.getElem?_eq_getElem (by omega)⟩
      refine ⟨l, _, _, v, rfl, rfl, SqL.of (hb l _ hl nl), at_of (j := d.toNat) (by omega) hv, ?_⟩
      exact k v H' (List.mem_of_getElem? hv) hp' hb
end
end My
namespace My
open PySem PySem.Spec PyProof.Rows L2
/-! ### values of other kinds -/
/-- the built-in kind of a value -/
inductive Ty0 (H : Hp) : V → String → Prop where
  | non : Ty0 H .non "NoneType"
  | bl (b : Bool) : Ty0 H (.bl b) "bool"
  | int (i : Int) : Ty0 H (.int i) "int"
  | str (x : Str) : Ty0 H (.str x) "str"
  | lst {a : Addr} {xs : List V} (e : H a = some (.lst xs)) : Ty0 H (.ref a) "list"
  | tup {a : Addr} {xs : List V} (e : H a = some (.tup xs)) : Ty0 H (.ref a) "tuple"
  | dK {a : Addr} {kvs : List (Key × V)} (e : H a = some (.dK kvs)) : Ty0 H (.ref a) "dict"
theorem Ty0.tyx {K : PySem.W.Frag} {H : Hp} {v : V} {t : String} (h : Ty0 H v t) : TyX K H v (.type t) := by
  cases h with
  | non => exact .base .non
  | bl b => exact .base (.bl b)
  | int i => exact .base (.int i)
  | str x => exact .base (.str x)
  | lst e => exact .base (.lst e)
  | tup e => exact .base (.tup e)
  | dK e => exact .base (.dK e)
def isI : V → Bool
  | .int _ => true
  | _ => false
theorem isI_int {v : V} (h : isI v = true) : ∃ i, v = .int i := by
  cases v with
  | int i => exact ⟨i, rfl⟩
  | _ => cases h
def isT (t : String) : Bool := t == "int"
theorem Ty0.isI {H : Hp} {v : V} {t : String} (h : Ty0 H v t) : My.isI v = isT t := by cases h <;> rfl
theorem Ty0.kint {K : PySem.W.Frag} {H : Hp} {v : V} {t : String} (h : Ty0 H v t) : ∃ b, PySem.W.kitOne K (.type t) (.type "int") = some b ∧ (b = true → ∃ c, PySem.W.kitOne K (.type t) (.type "bool") = some c ∧ My.isI v = !c) ∧ (b = false → My.isI v = false) := by
  cases h with
  | non => exact ⟨false, kit_ty (by decide +kernel), (fun z => Bool.noConfusion z), fun _ => rfl⟩
  | bl b => exact ⟨true, kit_ty (by decide +kernel), fun _ => ⟨true, kit_ty (by decide +kernel), rfl⟩, (fun z => Bool.noConfusion z)⟩
  | int i => exact ⟨true, kit_ty (by decide +kernel), fun _ => ⟨false, kit_ty (by decide +kernel), rfl⟩, (fun z => Bool.noConfusion z)⟩
  | str x => exact ⟨false, kit_ty (by decide +kernel), (fun z => Bool.noConfusion z), fun _ => rfl⟩
  | lst e => exact ⟨false, kit_ty (by decide +kernel), (fun z => Bool.noConfusion z), fun _ => rfl⟩
  | tup e => exact ⟨false, kit_ty (by decide +kernel), (fun z => Bool.noConfusion z), fun _ => rfl⟩
  | dK e => exact ⟨false, kit_ty (by decide +kernel), (fun z => Bool.noConfusion z), fun _ => rfl⟩
theorem Ty0.keep {H H' : Hp} {v : V} {t : String} (h : Ty0 H v t) (k : ∀ b o, H b = some o → (∀ p, v = .ref p → p = b → H' b = some o)) : Ty0 H' v t := by
  cases h with
  | non => exact .non
  | bl b => exact .bl b
  | int i => exact .int i
  | str x => exact .str x
  | lst e => exact .lst (k _ _ e _ rfl rfl)
  | tup e => exact .tup (k _ _ e _ rfl rfl)
  | dK e => exact .dK (k _ _ e _ rfl rfl)
theorem Ty0.same {H H' : Hp} {v : V} {t : String} (h : Ty0 H v t) (k : Same H H') : Ty0 H' v t := h.keep fun b o e _ _ _ => k b o e
theorem same_new {H : Hp} {p : Addr} {o : HO} (h : H p = none) : Same H (upd H p o) := fun b u e => by rw [upd_ne (ne_of_none e h)]; exact e
/-- a value of a built-in kind, or an instance of the class at C -/
def TyL (C : Addr) (H : Hp) (v : V) : Prop := (∃ t, Ty0 H v t) ∨ ∃ a dx fs, v = .ref a ∧ H a = some (.ins C dx fs)
theorem TyL.same {C : Addr} {H H' : Hp} {v : V} (h : TyL C H v) (k : Same H H') : TyL C H' v := by
  rcases h with ⟨t, h⟩ | ⟨a, dx, fs, e, h⟩
  · exact .inl ⟨t, h.same k⟩
  · exact .inr ⟨a, dx, fs, e, k _ _ h⟩
theorem TyL.int (C : Addr) (H : Hp) (i : Int) : TyL C H (.int i) := .inl ⟨_, .int i⟩
/-- is_integer(v) -/
def spIsint (C : Addr) : Sp := fun vs H Q _ => ∃ (v : V), vs = [v] ∧ TyL C H v ∧ Q (.bl (isI v)) H
abbrev s_isint : Stmt := topS 8
theorem sc_isint : FnScope ["thing"] ["thing"] (defScope s_isint) := ⟨rfl, rfl, rfl, by decide +kernel, rfl, by decide +kernel, by decide +kernel⟩
abbrev s_init : Stmt := inClass (topS 12) 0
theorem sc_init : FnScope ["self", "slope", "more", "part", "value"] ["self", "slope", "more"] (defScope s_init) := ⟨rfl, rfl, rfl, by decide +kernel, rfl, by decide +kernel, by decide +kernel⟩
/-! ### lines -/
def lfs (a b : Int) : List (Str × V) := putF "more" (.int b) (putF "slope" (.int a) [])
theorem sm : ¬ (("slope" : Str) = "more") := by decide +kernel
theorem lfs_slope (a b : Int) : (lfs a b).lookup ("slope" : Str) = some (.int a) := by
  unfold lfs
  rw [lookup_putF, if_neg sm, lookup_putF, if_pos rfl]
theorem lfs_more (a b : Int) : (lfs a b).lookup ("more" : Str) = some (.int b) := by
  unfold lfs
  rw [lookup_putF, if_pos rfl]
theorem lfs_no (a b : Int) {m : Str} (h1 : ¬ m = "more") (h2 : ¬ m = "slope") : (lfs a b).lookup m = none := by
  unfold lfs
  rw [lookup_putF, if_neg h1, lookup_putF, if_neg h2]
  rfl
/-- at p: a Line of the class at C with these parts -/
def LineAt (C : Addr) (H : Hp) (p : Addr) (a b : Int) : Prop := ∃ dx, H p = some (.ins C dx (lfs a b))
theorem LineAt.same {C : Addr} {H H' : Hp} {p : Addr} {a b : Int} (h : LineAt C H p a b) (k : Same H H') : LineAt C H' p a b := by
  obtain ⟨dx, e⟩ := h
  exact ⟨dx, k _ _ e⟩
/-- what the top has written of Line and its errors -/
structure LTx (P : Program) (K : PySem.W.Frag) (mg : Str → Option Value) (CLine CBadLine fBadLine : Addr) : Prop extends BI mg where
  cl : Cls K CLine
  nS : NoAttr K CLine "slope"
  nM : NoAttr K CLine "more"
  gLine : mg "Line" = some (.ref CLine)
  ha : PySem.W.findIn K (.ref CLine) "__class__" = some (some (.builtin "object.__class__"))
  hn : PySem.W.specialIn K (.builtin "object.__class__") "__get__" = some (some (.builtin "getset_descriptor.__get__"))
  ht : PySem.W.takesIn K (.builtin "object.__class__") = some true
  hm : PySem.W.mroIn K CLine (.type "object") = some true
  me : PySem.W.kitOne K (.ref CLine) (.ref CLine) = some true
  e_BadLine : Sup.Err1 P K mg "BadLine" "part" CBadLine fBadLine
  z_str : mg "str" = none
  noInt : PySem.W.kitOne K (.ref CLine) (.type "int") = some false
/-- Line.__init__(self, slope, more) -/
def spInit (C CB : Addr) : Sp := fun vs H Q E => ∃ (p dx : Addr) (sv mv : V), vs = [.ref p, sv, mv] ∧ H p = some (.ins C dx []) ∧ TyL C H sv ∧ TyL C H mv ∧
  (∀ a b H', sv = .int a → mv = .int b → H' p = some (.ins C dx (lfs a b)) → (∀ c o, H c = some o → c ≠ p → H' c = some o) → Q .non H') ∧
  (isI sv = false → ∀ d H', H d = none → H' d = some (.xd [("part", .str "slope")]) → Same H H' → E (.ref CB) (some d) H') ∧
  (isI sv = true → isI mv = false → ∀ d H', H d = none → H' d = some (.xd [("part", .str "more")]) → Same H H' → E (.ref CB) (some d) H')
section
variable {P : Program} {w : World} {K : PySem.W.Frag} {mg : Str → Option Value} {base : Heap} {CLine CBadLine fBadLine : Addr}
theorem ok_isint {f : Addr} {fd : FuncData} (F : Fun K "is_integer" "is_integer" s_isint f fd) (T : LTx P K mg CLine CBadLine fBadLine) : FnOk P w K mg base CX0 1 f fd ["thing"] (spIsint CLine) := by
  refine F.ok sc_isint (fun vs H Q E h => ?_) (fun cdv A outer s H vs Q E hr h => ?_)
  · obtain ⟨v, rfl, _⟩ := h
    rfl
  · obtain ⟨v, rfl, ty, q⟩ := h
    refine ⟨_, (pss_one (ps_ret (pe_and (pe_callB call_isi (by rfl) T.z_isinstance boot_isinstance (pa_cons (pv 0) (pa_cons (pe_bltn (v := .ty "int") (by rfl) T.z_int boot_int rfl) pa_nil))) (pe_one (pe_not (pe_callB call_isi (by rfl) T.z_isinstance boot_isinstance (pa_cons (pv 0) (pa_cons (pe_bltn (v := .ty "bool") (by rfl) T.z_bool boot_bool rfl) pa_nil)))))))), ?_⟩
    rcases ty with ⟨t, ty⟩ | ⟨a, dx, fs, rfl, ea⟩
    case inr => exact ⟨_, rfl, _, _, _, _, false, rfl, .ty _, .base (.ins ea T.cl T.ha T.hn T.ht T.hm), T.noInt, _, rfl, iteF q⟩
    obtain ⟨b, e1, e2, e3⟩ := ty.kint (K := K)
    refine ⟨_, rfl, v, _, _, _, b, rfl, .ty _, ty.tyx, e1, _, rfl, ?_⟩
    cases b with
    | false =>
      refine iteF ?_
      rw [e3 rfl] at q
      exact q
    | true =>
      refine iteT ?_
      obtain ⟨c, e4, e5⟩ := e2 rfl
      refine ⟨_, rfl, v, _, _, _, c, rfl, .ty _, ty.tyx, e4, _, rfl, ?_⟩
      rw [e5] at q
      exact q
theorem ok_init {f : Addr} {fd : FuncData} (F : FunD K "__init__" "Line.__init__" (defArgs s_init) (defBody s_init) (defScope s_init) [.int 0] [] f fd) (T : LTx P K mg CLine CBadLine fBadLine)
    (D_isint : DefAt P w K mg base CX0 1 "is_integer" ["thing"] (spIsint CLine)) : FnOk P w K mg base (L2.CX P w) 3 f fd ["self", "slope", "more"] (spInit CLine CBadLine) := by
  refine F.ok sc_init (fun vs H Q E h => ?_) (fun cdv A outer s H vs Q E hr h => ?_)
  · obtain ⟨p, dx, sv, mv, rfl, _⟩ := h
    rfl
  · obtain ⟨p, dx, sv, mv, rfl, hp, tys, tym, kQ, kS, kM⟩ := h
    refine ⟨_, (pss_cons (ps_for (passes_of rfl) rfl (pi_tup (pe_tup (pa_cons (pe_tup (pa_cons pe_str (pa_cons (pv 1) pa_nil))) (pa_cons (pe_tup (pa_cons pe_str (pa_cons (pv 2) pa_nil))) pa_nil)))) (pg_tup rfl (pgs_cons (pg_name (i := 3) sc_init.nd rfl (Or.inl rfl)) (pgs_cons (pg_name (i := 4) sc_init.nd rfl (Or.inl rfl)) pgs_nil))) (pss_one (ps_if (pt_not (pt_val (My.pe_d D_isint (hr.mono (by decide)) (by rfl) pass0 (pa_cons (pv 4) pa_nil)))) (pss_one (ps_raise1 rfl T.e_BadLine (hr.mono (by decide) : Room 0 _) (takes_of rfl rfl rfl rfl) (pa_cons (pv 3) pa_nil))) pss_nil)))
      (pss_cons (ps_fld (pv 0) (pv 1) rfl)
      (pss_one (ps_fld (pv 0) (pv 2) rfl)))), ?_⟩
    refine ⟨_, rfl, (by show 2 ≤ sizeLine; decide), fun t1 h1 => ⟨_, rfl, (by show 2 ≤ sizeLine; decide), fun t2 h2 => ⟨(by show 2 ≤ sizeLine; decide), fun t3 h3 => ?_⟩⟩⟩
    have w1 : (upd (upd (upd H t1 (.tup [.str "slope", sv])) t2 (.tup [.str "more", mv])) t3 (.tup [.ref t1, .ref t2])) t1 = some (.tup [.str "slope", sv]) := by
      have z1 : (upd H t1 (.tup [.str "slope", sv])) t1 = some (.tup [.str "slope", sv]) := upd_same
      have z2 : (upd (upd H t1 (.tup [.str "slope", sv])) t2 (.tup [.str "more", mv])) t1 = some (.tup [.str "slope", sv]) := by rw [upd_ne (ne_of_none z1 h2)]; exact z1
      rw [upd_ne (ne_of_none z2 h3)]
      exact z2
    have w2 : (upd (upd (upd H t1 (.tup [.str "slope", sv])) t2 (.tup [.str "more", mv])) t3 (.tup [.ref t1, .ref t2])) t2 = some (.tup [.str "more", mv]) := by
      have z2 : (upd (upd H t1 (.tup [.str "slope", sv])) t2 (.tup [.str "more", mv])) t2 = some (.tup [.str "more", mv]) := upd_same
      rw [upd_ne (ne_of_none z2 h3)]
      exact z2
    have s3 : Same H (upd (upd (upd H t1 (.tup [.str "slope", sv])) t2 (.tup [.str "more", mv])) t3 (.tup [.ref t1, .ref t2])) := ((same_new h1).trans (same_new h2)).trans (same_new h3)
    have w3 : (upd (upd (upd H t1 (.tup [.str "slope", sv])) t2 (.tup [.str "more", mv])) t3 (.tup [.ref t1, .ref t2])) t3 = some (.tup [.ref t1, .ref t2]) := upd_same
    generalize (upd (upd (upd H t1 (.tup [.str "slope", sv])) t2 (.tup [.str "more", mv])) t3 (.tup [.ref t1, .ref t2])) = H3 at w1 w2 w3 s3
    refine ⟨t3, rfl, ⟨_, SqT.of w3⟩, for_tup (K := K) (a := t3) (xs := [.ref t1, .ref t2]) (fun i σ H' => ∃ v3 v4, σ = [some (.ref p), some sv, some mv, v3, v4] ∧ H' = H3 ∧ (1 ≤ i → isI sv = true) ∧ (2 ≤ i → isI mv = true))
      ⟨none, none, rfl, rfl, fun z => absurd z (by decide), fun z => absurd z (by decide)⟩ (fun i σ H' _ ⟨_, _, _, e, _⟩ => by rw [e]; exact SqT.of w3) ?_ ?_⟩
    · rintro i x σ H' hi ⟨v3, v4, rfl, rfl, c1, c2⟩
      rcases i with _ | _ | i
      · obtain rfl : V.ref t1 = x := Option.some.inj hi
        refine ⟨t1, _, rfl, SqT.of w1, rfl, _, _, rfl, _, _, rfl, rfl, ?_⟩
        refine ⟨_, rfl, sv, rfl, tys.same s3, _, rfl, ?_⟩
        cases e : isI sv with
        | false =>
          refine iteT ?_
          exact ⟨_, rfl, _, rfl, fun d hd => kS e d _ (s3.free hd) upd_same (s3.trans (same_new hd))⟩
        | true =>
          refine iteF ?_
          exact ⟨_, _, rfl, rfl, fun _ => (by first | exact e | rfl), fun z => absurd z (by decide)⟩
      · obtain rfl : V.ref t2 = x := Option.some.inj hi
        refine ⟨t2, _, rfl, SqT.of w2, rfl, _, _, rfl, _, _, rfl, rfl, ?_⟩
        refine ⟨_, rfl, mv, rfl, tym.same s3, _, rfl, ?_⟩
        cases e : isI mv with
        | false =>
          refine iteT ?_
          exact ⟨_, rfl, _, rfl, fun d hd => kM (c1 (by decide)) e d _ (s3.free hd) upd_same (s3.trans (same_new hd))⟩
        | true =>
          refine iteF ?_
          exact ⟨_, _, rfl, rfl, fun _ => c1 (by decide), fun _ => (by first | exact e | rfl)⟩
      · cases hi
    · rintro σ H' ⟨v3, v4, rfl, rfl, c1, c2⟩
      obtain ⟨a, rfl⟩ := isI_int (c1 (show 1 ≤ 2 by decide))
      obtain ⟨b, rfl⟩ := isI_int (c2 (show 2 ≤ 2 by decide))
      refine ⟨_, rfl, _, rfl, p, CLine, dx, _, rfl, s3 _ _ hp, T.cl, T.nS, (by show 0 < 1000; decide), ?_⟩
      refine ⟨_, rfl, _, rfl, p, CLine, dx, _, rfl, upd_same, T.cl, T.nM, (by show 1 < 1000; decide), ?_⟩
      refine kQ a b _ rfl rfl upd_same fun c o z nc => ?_
      rw [upd_ne nc, upd_ne nc]
      exact s3 c o z
end
end My
namespace My
open PySem PySem.Spec PyProof.Rows L2
abbrev s_asline : Stmt := topS 15
theorem sc_asline : FnScope ["thing"] ["thing"] (defScope s_asline) := ⟨rfl, rfl, rfl, by decide +kernel, rfl, by decide +kernel, by decide +kernel⟩
abbrev s_neg : Stmt := inClass (topS 12) 13
theorem sc_neg : FnScope ["self"] ["self"] (defScope s_neg) := ⟨rfl, rfl, rfl, by decide +kernel, rfl, by decide +kernel, by decide +kernel⟩
abbrev s_add : Stmt := inClass (topS 12) 7
theorem sc_add : FnScope ["self", "other", "more"] ["self", "other"] (defScope s_add) := ⟨rfl, rfl, rfl, by decide +kernel, rfl, by decide +kernel, by decide +kernel⟩
abbrev s_sub : Stmt := inClass (topS 12) 9
theorem sc_sub : FnScope ["self", "other"] ["self", "other"] (defScope s_sub) := ⟨rfl, rfl, rfl, by decide +kernel, rfl, by decide +kernel, by decide +kernel⟩
abbrev s_call : Stmt := inClass (topS 12) 5
theorem sc_call : FnScope ["self", "m"] ["self", "m"] (defScope s_call) := ⟨rfl, rfl, rfl, by decide +kernel, rfl, by decide +kernel, by decide +kernel⟩
abbrev s_mul : Stmt := inClass (topS 12) 11
theorem sc_mul : FnScope ["self", "other"] ["self", "other"] (defScope s_mul) := ⟨rfl, rfl, rfl, by decide +kernel, rfl, by decide +kernel, by decide +kernel⟩
abbrev s_radd : Stmt := inClass (topS 12) 8
theorem sc_radd : FnScope ["self", "other"] ["self", "other"] (defScope s_radd) := ⟨rfl, rfl, rfl, by decide +kernel, rfl, by decide +kernel, by decide +kernel⟩
abbrev s_rsub : Stmt := inClass (topS 12) 10
theorem sc_rsub : FnScope ["self", "other"] ["self", "other"] (defScope s_rsub) := ⟨rfl, rfl, rfl, by decide +kernel, rfl, by decide +kernel, by decide +kernel⟩
abbrev s_rmul : Stmt := inClass (topS 12) 12
theorem sc_rmul : FnScope ["self", "other"] ["self", "other"] (defScope s_rmul) := ⟨rfl, rfl, rfl, by decide +kernel, rfl, by decide +kernel, by decide +kernel⟩
abbrev s_constant : Stmt := inClass (topS 12) 1
theorem sc_constant : FnScope ["number"] ["number"] (defScope s_constant) := ⟨rfl, rfl, rfl, by decide +kernel, rfl, by decide +kernel, by decide +kernel⟩
abbrev s_rank : Stmt := inClass (topS 12) 6
theorem sc_rank : FnScope ["self"] ["self"] (defScope s_rank) := ⟨rfl, rfl, rfl, by decide +kernel, rfl, by decide +kernel, by decide +kernel⟩
abbrev s_eq : Stmt := inClass (topS 12) 18
theorem sc_eq : FnScope ["self", "other"] ["self", "other"] (defScope s_eq) := ⟨rfl, rfl, rfl, by decide +kernel, rfl, by decide +kernel, by decide +kernel⟩
theorem init_at {C CB : Addr} {H : Hp} {x dx : Addr} {a b : Int} {R : Hp → Prop} {E : XK} (hx : H x = none) (hd : H dx = none) (ne : dx ≠ x) (k : ∀ H', LineAt C H' x a b → Same H H' → R H') :
    spInit C CB (.ref x :: ([.int a, .int b] ++ [])) (upd (upd H dx (.own x)) x (.ins C dx [])) (fun v H2 => v = .non ∧ R H2) E := by
  refine ⟨x, dx, _, _, rfl, upd_same, TyL.int _ _ a, TyL.int _ _ b, fun a' b' H' ea eb h1 h2 => ⟨rfl, ?_⟩, fun z => Bool.noConfusion z, fun _ z => Bool.noConfusion z⟩
  cases ea
  cases eb
  refine k H' ⟨dx, h1⟩ fun c o e => ?_
  refine h2 c o ?_ (ne_of_none e hx)
  rw [upd_ne (ne_of_none e hx), upd_ne (ne_of_none e hd)]
  exact e
/-- what an error of the class C with the field f = v is wished for -/
def Errs (E : XK) (C : Addr) (f : Str) (v : V) (H : Hp) : Prop := ∀ (d : Addr) (H' : Hp), H d = none → H' d = some (.xd [(f, v)]) → Same H H' → E (.ref C) (some d) H'
theorem Errs.go {E : XK} {C : Addr} {f : Str} {v : V} {H : Hp} (h : Errs E C f v H) {d : Addr} (hd : H d = none) : E (.ref C) (some d) (upd H d (.xd [(f, v)])) := h d _ hd upd_same (same_new hd)
theorem Errs.up {E : XK} {C : Addr} {f : Str} {v : V} {H H1 : Hp} (h : Errs E C f v H) (s : Same H H1) : Errs E C f v H1 := fun d H' hd hx s' => h d H' (s.free hd) hx (s.trans s')
/-- no integer, or one below n -/
def Low (v : V) (n : Int) : Prop := isI v = false ∨ ∃ i, v = .int i ∧ i < n
/-- a line, or an int that stands for one -/
def NumAt (C : Addr) (H : Hp) (v : V) (c d : Int) : Prop := (∃ p, v = .ref p ∧ LineAt C H p c d) ∨ (c = 0 ∧ v = .int d)
theorem NumAt.same {C : Addr} {H H' : Hp} {v : V} {c d : Int} (h : NumAt C H v c d) (s : Same H H') : NumAt C H' v c d := by
  rcases h with ⟨p, e, l⟩ | h
  · exact .inl ⟨p, e, l.same s⟩
  · exact .inr h
theorem NumAt.orInt {C : Addr} {H : Hp} {v : V} {c d : Int} (h : NumAt C H v c d) : OrInt H C v := by
  rcases h with ⟨p, e, dx, l⟩ | ⟨_, h⟩
  · exact .inl ⟨p, dx, _, e, l⟩
  · exact .inr ⟨d, h⟩
def spAs (C : Addr) : Sp := fun vs H Q _ => ∃ (v : V) (c d : Int), vs = [v] ∧ NumAt C H v c d ∧ ∀ (q : Addr) (H' : Hp), LineAt C H' q c d → Same H H' → Q (.ref q) H'
def spNeg (C : Addr) : Sp := fun vs H Q _ => ∃ (p : Addr) (a b : Int), vs = [.ref p] ∧ LineAt C H p a b ∧ ∀ (q : Addr) (H' : Hp), LineAt C H' q (0 - a) (0 - b) → Same H H' → Q (.ref q) H'
def spAdd (C : Addr) : Sp := fun vs H Q _ => ∃ (p : Addr) (a b : Int) (v : V) (c d : Int), vs = [.ref p, v] ∧ LineAt C H p a b ∧ NumAt C H v c d ∧ ∀ (q : Addr) (H' : Hp), LineAt C H' q (a + c) (b + d) → Same H H' → Q (.ref q) H'
def spSub (C : Addr) : Sp := fun vs H Q _ => ∃ (p : Addr) (a b : Int) (v : V) (c d : Int), vs = [.ref p, v] ∧ LineAt C H p a b ∧ NumAt C H v c d ∧ ∀ (q : Addr) (H' : Hp), LineAt C H' q (a - c) (b - d) → Same H H' → Q (.ref q) H'
def spRank (C : Addr) : Sp := fun vs H Q _ => ∃ (p : Addr) (a b : Int), vs = [.ref p] ∧ LineAt C H p a b ∧ ∀ t, H t = none → Q (.ref t) (upd H t (.tup [.int a, .int b]))
def spEq (C : Addr) : Sp := fun vs H Q _ => ∃ (p q : Addr) (a b c d : Int), vs = [.ref p, .ref q] ∧ LineAt C H p a b ∧ LineAt C H q c d ∧ ∀ H', Same H H' → Q (.bl (decide (a = c ∧ b = d))) H'
def spCall (C CB : Addr) : Sp := fun vs H Q E => ∃ (p : Addr) (a b : Int) (mv : V), vs = [.ref p, mv] ∧ LineAt C H p a b ∧ TyL C H mv ∧
  (∀ m, mv = .int m → 0 ≤ m → CMulW a m ∧ Q (.int (a * m + b)) H) ∧ (Low mv 0 → Errs E CB "part" (.str "m") H)
def spMul (C : Addr) : Sp := fun vs H Q _ => ∃ (p : Addr) (a b n : Int), vs = [.ref p, .int n] ∧ LineAt C H p a b ∧ CMulW a n ∧ CMulW b n ∧ ∀ (q : Addr) (H' : Hp), LineAt C H' q (a * n) (b * n) → Same H H' → Q (.ref q) H'
/-- n - line -/
def spRsub (C : Addr) : Sp := fun vs H Q _ => ∃ (p : Addr) (a b : Int) (v : V) (c d : Int), vs = [.ref p, v] ∧ LineAt C H p a b ∧ NumAt C H v c d ∧ ∀ (q : Addr) (H' : Hp), LineAt C H' q (c - a) (d - b) → Same H H' → Q (.ref q) H'
def spConst (C : Addr) : Sp := fun vs H Q _ => ∃ n : Int, vs = [.int n] ∧ ∀ (q : Addr) (H' : Hp), LineAt C H' q 0 n → Same H H' → Q (.ref q) H'
/-- == beside a value of another kind -/
def spEqX (K : PySem.W.Frag) (C : Addr) : Sp := fun vs H Q _ => ∃ (p : Addr) (a b : Int) (v : V) (t : String), vs = [.ref p, v] ∧ LineAt C H p a b ∧ Ty0 H v t ∧ PySem.W.kitOne K (.type t) (.ref C) = some false ∧ Q (.bl false) H
section
variable {P : Program} {w : World} {K : PySem.W.Frag} {mg : Str → Option Value} {base : Heap} {CLine CBadLine fBadLine : Addr}
theorem ok_asline {f : Addr} {fd : FuncData} (F : Fun K "as_line" "as_line" s_asline f fd) (T : LTx P K mg CLine CBadLine fBadLine) (noI : PySem.W.kitOne K (.type "int") (.ref CLine) = some false)
    (M_Line : MakeAt P w K mg base (L2.CX P w) 3 "Line" CLine ["self", "slope", "more"] (spInit CLine CBadLine) []) : FnOk P w K mg base CX0 5 f fd ["thing"] (spAs CLine) := by
  refine F.ok sc_asline (fun vs H Q E h => ?_) (fun cdv A outer s H vs Q E hr h => ?_)
  · obtain ⟨v, c, d, rfl, _⟩ := h
    rfl
  · obtain ⟨v, c, d, rfl, hn, k⟩ := h
    refine ⟨_, (pss_one (ps_ret (pe_ifExp (pt_val (pe_callB call_isi (by rfl) T.z_isinstance boot_isinstance (pa_cons (pv 0) (pa_cons (pe_glob (v := .ref CLine) (by rfl) T.gLine rfl) pa_nil)))) (pv 0) (My.pe_mk M_Line (hr.mono (by decide)) (by rfl) passL (pa_cons pe_int (pa_cons (pv 0) pa_nil)))))), ?_⟩
    rcases hn with ⟨p, rfl, hl⟩ | ⟨rfl, rfl⟩
    · obtain ⟨dx, e⟩ := id hl
      refine ⟨_, rfl, _, _, _, _, true, rfl, .own _, .base (.ins e T.cl T.ha T.hn T.ht T.hm), T.me, _, rfl, iteT ?_⟩
      exact ⟨_, rfl, k p _ hl fun _ _ z => z⟩
    · refine ⟨_, rfl, _, _, _, _, false, rfl, .own _, .base (.int d), noI, _, rfl, iteF ?_⟩
      exact ⟨_, rfl, fun x dx hx hd ne => init_at hx hd ne fun H' l s => k x H' l s⟩
theorem ok_rank {f : Addr} {fd : FuncData} (F : Fun K "rank" "Line.rank" s_rank f fd) (T : LTx P K mg CLine CBadLine fBadLine) : FnOk P w K mg base CX0 1 f fd ["self"] (spRank CLine) := by
  refine F.ok sc_rank (fun vs H Q E h => ?_) (fun cdv A outer s H vs Q E hr h => ?_)
  · obtain ⟨p, a, b, rfl, _⟩ := h
    rfl
  · obtain ⟨p, a, b, rfl, ⟨dx, hp⟩, k⟩ := h
    refine ⟨_, (pss_one (ps_ret (pe_tup (pa_cons (pe_fld (pv 0) rfl) (pa_cons (pe_fld (pv 0) rfl) pa_nil))))), ?_⟩
    exact ⟨_, rfl, p, CLine, dx, _, _, rfl, hp, T.cl, T.nS, lfs_slope _ _, _, rfl, p, CLine, dx, _, _, rfl, hp, T.cl, T.nM, lfs_more _ _, (by show 2 ≤ sizeLine; decide), k⟩
theorem ok_eq {f : Addr} {fd : FuncData} (F : Fun K "__eq__" "Line.__eq__" s_eq f fd) (T : LTx P K mg CLine CBadLine fBadLine)
    (X_rank : MethAt P w K mg base CX0 1 CLine "rank" ["self"] (spRank CLine)) : FnOk P w K mg base CX0 2 f fd ["self", "other"] (spEq CLine) := by
  refine F.ok sc_eq (fun vs H Q E h => ?_) (fun cdv A outer s H vs Q E hr h => ?_)
  · obtain ⟨p, q, a, b, c, d, rfl, _⟩ := h
    rfl
  · obtain ⟨p, q, a, b, c, d, rfl, ⟨dx, hp⟩, ⟨dy, hq⟩, k⟩ := h
    refine ⟨_, (pss_one (ps_ret (pe_and (pe_callB call_isi (by rfl) T.z_isinstance boot_isinstance (pa_cons (pv 1) (pa_cons (pe_glob (v := .ref CLine) (by rfl) T.gLine rfl) pa_nil))) (pe_one (pe_cmpR (op_eqD hr.units) (My.pe_mt0 T.cl X_rank (hr.mono (by decide)) pass0 (pv 0)) (My.pe_mt0 T.cl X_rank (hr.mono (by decide)) pass0 (pv 1)) (nomark _)))))), ?_⟩
    refine ⟨_, rfl, _, _, _, _, true, rfl, .own _, .base (.ins hq T.cl T.ha T.hn T.ht T.hm), T.me, _, rfl, iteT ?_⟩
    refine ⟨_, rfl, p, dx, _, rfl, hp, lfs_no _ _ (by decide +kernel) (by decide +kernel), p, a, b, rfl, ⟨dx, hp⟩, fun t1 h1 => ?_⟩
    have hq1 := same_new (o := .tup [.int a, .int b]) h1 _ _ hq
    refine ⟨_, rfl, q, dy, _, rfl, hq1, lfs_no _ _ (by decide +kernel) (by decide +kernel), q, c, d, rfl, ⟨dy, hq1⟩, fun t2 h2 => ?_⟩
    have w1 := same_new (o := .tup [.int c, .int d]) h2 _ _ (upd_same (H := H) (a := t1) (o := .tup [.int a, .int b]))
    refine ⟨.tuple [.int a, .int b], .tuple [.int c, .int d], .tup (SqT.of w1) (.cons (.int a) (.cons (.int b) .nil)), .tup (SqT.of upd_same) (.cons (.int c) (.cons (.int d) .nil)), rfl, rfl, ?_⟩
    have e : PyData.eqv (.tuple [.int a, .int b]) (.tuple [.int c, .int d]) = decide (a = c ∧ b = d) := by
      show (a == c && (b == d && true)) = decide (a = c ∧ b = d)
      rw [Bool.and_true, Bool.decide_and]
      rfl
    rw [e]
    exact k _ ((same_new h1).trans (same_new h2))
theorem ok_neg {f : Addr} {fd : FuncData} (F : Fun K "__neg__" "Line.__neg__" s_neg f fd) (T : LTx P K mg CLine CBadLine fBadLine)
    (M_Line : MakeAt P w K mg base (L2.CX P w) 3 "Line" CLine ["self", "slope", "more"] (spInit CLine CBadLine) []) : FnOk P w K mg base CX0 5 f fd ["self"] (spNeg CLine) := by
  refine F.ok sc_neg (fun vs H Q E h => ?_) (fun cdv A outer s H vs Q E hr h => ?_)
  · obtain ⟨p, a, b, rfl, _⟩ := h
    rfl
  · obtain ⟨p, a, b, rfl, ⟨dx, hp⟩, k⟩ := h
    refine ⟨_, (pss_one (ps_ret (My.pe_mk M_Line (hr.mono (by decide)) (by rfl) passL (pa_cons (pe_op op_sub pe_int (pe_fld (pv 0) rfl)) (pa_cons (pe_op op_sub pe_int (pe_fld (pv 0) rfl)) pa_nil))))), ?_⟩
    refine ⟨_, rfl, p, CLine, dx, _, _, rfl, hp, T.cl, T.nS, lfs_slope _ _, _, _, rfl, rfl, _, rfl, p, CLine, dx, _, _, rfl, hp, T.cl, T.nM, lfs_more _ _, _, _, rfl, rfl, fun x dx' hx hd ne => ?_⟩
    exact init_at hx hd ne fun H' l s => k x H' l s
theorem ok_add {f : Addr} {fd : FuncData} (F : Fun K "__add__" "Line.__add__" s_add f fd) (T : LTx P K mg CLine CBadLine fBadLine) (D_asline : DefAt P w K mg base CX0 5 "as_line" ["thing"] (spAs CLine))
    (M_Line : MakeAt P w K mg base (L2.CX P w) 3 "Line" CLine ["self", "slope", "more"] (spInit CLine CBadLine) []) : FnOk P w K mg base CX0 6 f fd ["self", "other"] (spAdd CLine) := by
  refine F.ok sc_add (fun vs H Q E h => ?_) (fun cdv A outer s H vs Q E hr h => ?_)
  · obtain ⟨p, a, b, v, c, d, rfl, _⟩ := h
    rfl
  · obtain ⟨p, a, b, v, c, d, rfl, hl, hn, k⟩ := h
    refine ⟨_, (pss_cons (ps_set (i := 2) sc_add.nd rfl (Or.inl rfl) (My.pe_d D_asline (hr.mono (by decide)) (by rfl) pass0 (pa_cons (pv 1) pa_nil)))
      (pss_one (ps_ret (My.pe_mk M_Line (hr.mono (by decide)) (by rfl) passL (pa_cons (pe_op op_add (pe_fld (pv 0) rfl) (pe_fld (pv 2) rfl)) (pa_cons (pe_op op_add (pe_fld (pv 0) rfl) (pe_fld (pv 2) rfl)) pa_nil)))))), ?_⟩
    refine ⟨_, rfl, v, c, d, rfl, hn, fun q H1 l1 s1 => ?_⟩
    obtain ⟨dx, hp⟩ := hl.same s1
    obtain ⟨dy, hq⟩ := id l1
    refine ⟨_, rfl, p, CLine, dx, _, _, rfl, hp, T.cl, T.nS, lfs_slope _ _, _, rfl, q, CLine, dy, _, _, rfl, hq, T.cl, T.nS, lfs_slope _ _, _, _, rfl, rfl, _, rfl, p, CLine, dx, _, _, rfl, hp, T.cl, T.nM, lfs_more _ _, _, rfl, q, CLine, dy, _, _, rfl, hq, T.cl, T.nM, lfs_more _ _, _, _, rfl, rfl, fun x dx' hx hd ne => ?_⟩
    exact init_at hx hd ne fun H' l s => k x H' l (s1.trans s)
theorem ok_sub {f : Addr} {fd : FuncData} (F : Fun K "__sub__" "Line.__sub__" s_sub f fd) (T : LTx P K mg CLine CBadLine fBadLine) (D_asline : DefAt P w K mg base CX0 5 "as_line" ["thing"] (spAs CLine))
    (O_neg : CmpAt P w K mg base CX0 5 CLine "__neg__" ["self"] (spNeg CLine)) (O_add : CmpAt P w K mg base CX0 6 CLine "__add__" ["self", "other"] (spAdd CLine)) (B_add : BinF K CLine (Operator.info .Add).2) : FnOk P w K mg base CX0 7 f fd ["self", "other"] (spSub CLine) := by
  refine F.ok sc_sub (fun vs H Q E h => ?_) (fun cdv A outer s H vs Q E hr h => ?_)
  · obtain ⟨p, a, b, v, c, d, rfl, _⟩ := h
    rfl
  · obtain ⟨p, a, b, v, c, d, rfl, hl, hn, k⟩ := h
    refine ⟨_, (pss_one (ps_ret (pe_op (My.op_binO O_add B_add (hr.mono (by decide)) pass0) (pv 0) (pe_un (My.un_negO O_neg (hr.mono (by decide)) pass0) (My.pe_d D_asline (hr.mono (by decide)) (by rfl) pass0 (pa_cons (pv 1) pa_nil)))))), ?_⟩
    refine ⟨_, rfl, _, rfl, v, c, d, rfl, hn, fun q H1 l1 s1 => ?_⟩
    obtain ⟨dy, hq⟩ := id l1
    refine ⟨q, dy, _, rfl, hq, q, c, d, rfl, l1, fun u H2 l2 s2 => ?_⟩
    have l0 := (hl.same s1).same s2
    obtain ⟨dx, hp⟩ := id l0
    refine ⟨p, dx, _, rfl, hp, NumAt.orInt (.inl ⟨u, rfl, l2⟩), p, a, b, _, _, _, rfl, l0, .inl ⟨u, rfl, l2⟩, fun z H3 l3 s3 => ?_⟩
    have e1 : a + (0 - c) = a - c := by omega
    have e2 : b + (0 - d) = b - d := by omega
    rw [e1, e2] at l3
    exact k z H3 l3 ((s1.trans s2).trans s3)
theorem ok_call {f : Addr} {fd : FuncData} (F : Fun K "__call__" "Line.__call__" s_call f fd) (T : LTx P K mg CLine CBadLine fBadLine)
    (D_isint : DefAt P w K mg base CX0 1 "is_integer" ["thing"] (spIsint CLine)) : FnOk P w K mg base (L2.CX P w) 3 f fd ["self", "m"] (spCall CLine CBadLine) := by
  refine F.okX sc_call (fun vs H Q E h => ?_) (fun cdv A outer s H vs Q E hr h => ?_)
  · obtain ⟨p, a, b, mv, rfl, _⟩ := h
    rfl
  · obtain ⟨p, a, b, mv, rfl, ⟨dx, hp⟩, ty, kQ, kE⟩ := h
    refine ⟨_, (pss_cons (ps_if (PW.pt (pw_or (pt_not (pt_val (My.pe_d D_isint (hr.mono (by decide)) (by rfl) pass0 (pa_cons (pv 1) pa_nil)))) (pw_or1 (pt_cmpR op_lt (pv 1) pe_int (nomark _))))) (pss_one (ps_raise1 rfl T.e_BadLine (hr.mono (by decide) : Room 0 _) (takes_of rfl rfl rfl rfl) (pa_cons pe_str pa_nil))) pss_nil)
      (pss_one (ps_ret (pe_op op_add (pe_op op_mulW (pe_fld (pv 0) rfl) (pv 1)) (pe_fld (pv 0) rfl))))), ?_⟩
    refine ⟨_, rfl, mv, rfl, ty, _, rfl, ?_⟩
    cases e : isI mv with
    | false =>
      refine iteT (iteT ?_)
      exact ⟨_, rfl, fun d hd => (kE (.inl e)).go hd⟩
    | true =>
      obtain ⟨m, rfl⟩ := isI_int e
      refine iteF ?_
      refine ⟨_, rfl, _, _, rfl, rfl, _, rfl, ?_⟩
      refine ite2 (fun c => ?_) (fun c => ?_)
      · exact ⟨_, rfl, fun d hd => (kE (.inr ⟨m, rfl, of_decide_eq_true c⟩)).go hd⟩
      · have c' : 0 ≤ m := by
          have z : ¬ m < 0 := fun z => c (decide_eq_true z)
          omega
        obtain ⟨h1, h2⟩ := kQ m rfl c'
        exact ⟨_, rfl, p, CLine, dx, _, _, rfl, hp, T.cl, T.nS, lfs_slope _ _, _, rfl, _, _, rfl, rfl, h1, _, rfl, p, CLine, dx, _, _, rfl, hp, T.cl, T.nM, lfs_more _ _, _, _, rfl, rfl, h2⟩
theorem ok_eqX {f : Addr} {fd : FuncData} (F : Fun K "__eq__" "Line.__eq__" s_eq f fd) (T : LTx P K mg CLine CBadLine fBadLine) (X_rank : MethAt P w K mg base CX0 1 CLine "rank" ["self"] (spRank CLine)) : FnOk P w K mg base CX0 2 f fd ["self", "other"] (spEqX K CLine) := by
  refine F.ok sc_eq (fun vs H Q E h => ?_) (fun cdv A outer s H vs Q E hr h => ?_)
  · obtain ⟨p, a, b, v, t, rfl, _⟩ := h
    rfl
  · obtain ⟨p, a, b, v, t, rfl, hl, ty, no, k⟩ := h
    refine ⟨_, (pss_one (ps_ret (pe_and (pe_callB call_isi (by rfl) T.z_isinstance boot_isinstance (pa_cons (pv 1) (pa_cons (pe_glob (v := .ref CLine) (by rfl) T.gLine rfl) pa_nil))) (pe_one (pe_cmpR (op_eqD hr.units) (My.pe_mt0 T.cl X_rank (hr.mono (by decide)) pass0 (pv 0)) (My.pe_mt0 T.cl X_rank (hr.mono (by decide)) pass0 (pv 1)) (nomark _)))))), ?_⟩
    exact ⟨_, rfl, _, _, _, _, false, rfl, .own _, ty.tyx, no, _, rfl, iteF k⟩
theorem ok_mul {f : Addr} {fd : FuncData} (F : Fun K "__mul__" "Line.__mul__" s_mul f fd) (T : LTx P K mg CLine CBadLine fBadLine)
    (M_Line : MakeAt P w K mg base (L2.CX P w) 3 "Line" CLine ["self", "slope", "more"] (spInit CLine CBadLine) []) : FnOk P w K mg base CX0 5 f fd ["self", "other"] (spMul CLine) := by
  refine F.ok sc_mul (fun vs H Q E h => ?_) (fun cdv A outer s H vs Q E hr h => ?_)
  · obtain ⟨p, a, b, n, rfl, _⟩ := h
    rfl
  · obtain ⟨p, a, b, n, rfl, ⟨dx, hp⟩, m1, m2, k⟩ := h
    refine ⟨_, (pss_one (ps_ret (My.pe_mk M_Line (hr.mono (by decide)) (by rfl) passL (pa_cons (pe_op op_mulW (pe_fld (pv 0) rfl) (pv 1)) (pa_cons (pe_op op_mulW (pe_fld (pv 0) rfl) (pv 1)) pa_nil))))), ?_⟩
    refine ⟨_, rfl, p, CLine, dx, _, _, rfl, hp, T.cl, T.nS, lfs_slope _ _, _, rfl, _, _, rfl, rfl, m1, _, rfl, p, CLine, dx, _, _, rfl, hp, T.cl, T.nM, lfs_more _ _, _, rfl, _, _, rfl, rfl, m2, fun x dx' hx hd ne => ?_⟩
    exact init_at hx hd ne fun H' l s => k x H' l s
theorem ok_constant {f : Addr} {fd : FuncData} (F : Fun K "constant" "Line.constant" s_constant f fd) (T : LTx P K mg CLine CBadLine fBadLine)
    (M_Line : MakeAt P w K mg base (L2.CX P w) 3 "Line" CLine ["self", "slope", "more"] (spInit CLine CBadLine) []) : FnOk P w K mg base CX0 5 f fd ["number"] (spConst CLine) := by
  refine F.ok sc_constant (fun vs H Q E h => ?_) (fun cdv A outer s H vs Q E hr h => ?_)
  · obtain ⟨n, rfl, _⟩ := h
    rfl
  · obtain ⟨n, rfl, k⟩ := h
    refine ⟨_, (pss_one (ps_ret (My.pe_mk M_Line (hr.mono (by decide)) (by rfl) passL (pa_cons pe_int (pa_cons (pv 0) pa_nil))))), ?_⟩
    exact ⟨_, rfl, fun x dx' hx hd ne => init_at hx hd ne fun H' l s => k x H' l s⟩
theorem ok_radd {f : Addr} {fd : FuncData} (F : Fun K "__radd__" "Line.__radd__" s_radd f fd) (T : LTx P K mg CLine CBadLine fBadLine) (O_add : CmpAt P w K mg base CX0 6 CLine "__add__" ["self", "other"] (spAdd CLine)) (B_add : BinF K CLine (Operator.info .Add).2) : FnOk P w K mg base CX0 7 f fd ["self", "other"] (spAdd CLine) := by
  refine F.ok sc_radd (fun vs H Q E h => ?_) (fun cdv A outer s H vs Q E hr h => ?_)
  · obtain ⟨p, a, b, v, c, d, rfl, _⟩ := h
    rfl
  · obtain ⟨p, a, b, v, c, d, rfl, hl, hn, k⟩ := h
    refine ⟨_, (pss_one (ps_ret (pe_op (My.op_binO O_add B_add (hr.mono (by decide)) pass0) (pv 0) (pv 1)))), ?_⟩
    obtain ⟨dx, e⟩ := id hl
    exact ⟨_, rfl, _, rfl, p, dx, _, rfl, e, hn.orInt, p, a, b, v, c, d, rfl, hl, hn, k⟩
theorem ok_rsub {f : Addr} {fd : FuncData} (F : Fun K "__rsub__" "Line.__rsub__" s_rsub f fd) (T : LTx P K mg CLine CBadLine fBadLine) (D_asline : DefAt P w K mg base CX0 5 "as_line" ["thing"] (spAs CLine)) (O_sub : CmpAt P w K mg base CX0 7 CLine "__sub__" ["self", "other"] (spSub CLine)) (B_sub : BinF K CLine (Operator.info .Sub).2) : FnOk P w K mg base CX0 8 f fd ["self", "other"] (spRsub CLine) := by
  refine F.ok sc_rsub (fun vs H Q E h => ?_) (fun cdv A outer s H vs Q E hr h => ?_)
  · obtain ⟨p, a, b, v, c, d, rfl, _⟩ := h
    rfl
  · obtain ⟨p, a, b, v, c, d, rfl, hl, hn, k⟩ := h
    refine ⟨_, (pss_one (ps_ret (pe_op (My.op_binO O_sub B_sub (hr.mono (by decide)) pass0) (My.pe_d D_asline (hr.mono (by decide)) (by rfl) pass0 (pa_cons (pv 1) pa_nil)) (pv 0)))), ?_⟩
    refine ⟨_, rfl, v, c, d, rfl, hn, fun q H1 l1 s1 => ?_⟩
    obtain ⟨dq, eq⟩ := id l1
    have l0 := hl.same s1
    exact ⟨_, rfl, q, dq, _, rfl, eq, NumAt.orInt (.inl ⟨p, rfl, l0⟩), q, c, d, _, a, b, rfl, l1, .inl ⟨p, rfl, l0⟩, fun z H2 l2 s2 => k z H2 l2 (s1.trans s2)⟩
theorem ok_rmul {f : Addr} {fd : FuncData} (F : Fun K "__rmul__" "Line.__rmul__" s_rmul f fd) (T : LTx P K mg CLine CBadLine fBadLine) (O_mul : CmpAt P w K mg base CX0 5 CLine "__mul__" ["self", "other"] (spMul CLine)) (B_mul : BinF K CLine (Operator.info .Mult).2) : FnOk P w K mg base CX0 6 f fd ["self", "other"] (spMul CLine) := by
  refine F.ok sc_rmul (fun vs H Q E h => ?_) (fun cdv A outer s H vs Q E hr h => ?_)
  · obtain ⟨p, a, b, n, rfl, _⟩ := h
    rfl
  · obtain ⟨p, a, b, n, rfl, hl, m1, m2, k⟩ := h
    refine ⟨_, (pss_one (ps_ret (pe_op (My.op_binO O_mul B_mul (hr.mono (by decide)) pass0) (pv 0) (pv 1)))), ?_⟩
    obtain ⟨dx, e⟩ := id hl
    exact ⟨_, rfl, _, rfl, p, dx, _, rfl, e, .inr ⟨n, rfl⟩, p, a, b, n, rfl, hl, m1, m2, k⟩
end
end My
namespace My
open PySem PySem.Spec PyProof.Rows L2
abbrev s_textof : Stmt := topS 13
theorem sc_textof : FnScope ["slope", "more", "head", "sign"] ["slope", "more"] (defScope s_textof) := ⟨rfl, rfl, rfl, by decide +kernel, rfl, by decide +kernel, by decide +kernel⟩
abbrev s_str : Stmt := inClass (topS 12) 23
theorem sc_str : FnScope ["self"] ["self"] (defScope s_str) := ⟨rfl, rfl, rfl, by decide +kernel, rfl, by decide +kernel, by decide +kernel⟩
theorem num_len {i : Int} (h : i.natAbs.log2 < 1920) : ((toString i : String) : Str).length ≤ 1921 := by
  have e := int_text_length_le (k := 1920) (by decide) h
  show (Str.ofString (toString i)).length ≤ 1921
  rw [PySem.ofString_length]
  exact e
def headT (a : Int) : Str := if a = 1 then "m" else if a = -1 then "-m" else (Str.empty ++ ((toString a : String) : Str)) ++ "m"
def lineT (a b : Int) : Str := if a = 0 then ((toString b : String) : Str) else if b = 0 then headT a else ((((Str.empty ++ headT a) ++ " ") ++ (if 0 < b then "+" else "-")) ++ " ") ++ ((toString (if b < 0 then -b else b) : String) : Str)
def twoS : List (Key × V) := [(.inl 1, .str "m"), (.inl (-1), .str "-m")]
theorem head_eq (a : Int) (z : Str) : (valV (mergeK [] twoS) (.inl a)).getD (.str z) = .str (if a = 1 then "m" else if a = -1 then "-m" else z) := by
  have e : mergeK [] twoS = twoS := by decide +kernel
  rw [e]
  by_cases h1 : a = 1
  · subst h1
    rfl
  · by_cases h2 : a = -1
    · subst h2
      rfl
    · have n1 : ¬ ((.inl 1 : Key) = .inl a) := fun z => h1 (Sum.inl.inj z).symm
      have n2 : ¬ ((.inl (-1) : Key) = .inl a) := fun z => h2 (Sum.inl.inj z).symm
      unfold twoS
      rw [valV_neg n1, valV_neg n2, valV_nil, if_neg h1, if_neg h2]
      rfl
theorem app_len (x y : Str) : (x ++ y).length = x.length + y.length := PySem.Str.length_append x y
theorem headT_len {a : Int} (h : a.natAbs.log2 < 1920) : (headT a).length ≤ 2000 := by
  unfold headT
  split
  · decide
  · split
    · decide
    · have e := num_len h
      rw [app_len, app_len]
      have e1 : (Str.empty).length = 0 := rfl
      have e2 : (("m" : Str)).length = 1 := rfl
      omega
section
variable {P : Program} {w : World} {K : PySem.W.Frag} {mg : Str → Option Value} {base : Heap} {CLine CBadLine fBadLine : Addr}
def spText : Sp := fun vs H Q _ => ∃ (a b : Int), vs = [.int a, .int b] ∧ a.natAbs.log2 < 1920 ∧ b.natAbs.log2 < 1920 ∧ ∀ H', Same H H' → Q (.str (lineT a b)) H'
theorem ok_textof {f : Addr} {fd : FuncData} (F : Fun K "text_of" "text_of" s_textof f fd) (T : LTx P K mg CLine CBadLine fBadLine) : FnOk P w K mg base CX0 1 f fd ["slope", "more"] spText := by
  refine F.ok sc_textof (fun vs H Q E h => ?_) (fun cdv A outer s H vs Q E hr h => ?_)
  · obtain ⟨a, b, rfl, _⟩ := h
    rfl
  · obtain ⟨a, b, rfl, ha, hb, k⟩ := h
    refine ⟨_, (pss_cons (ps_if (pt_cmpR op_eq (pv 0) pe_int (nomark _)) (pss_one (ps_ret (pe_callTy call_str_int (by rfl) T.z_str boot_str (pa_cons (pv 1) pa_nil)))) pss_nil)
      (pss_cons (ps_set (i := 2) sc_textof.nd rfl (Or.inl rfl) (pe_dget2 (hu_of hr) (pe_disp (pps_cons pe_int pe_str (pps_cons (pe_un un_neg pe_int) pe_str pps_nil)) rfl rfl (by simp) (by decide)) (pv 0) (pe_joined (PJ.cons (pe_fmt (pv 0)) (PJ.cons pe_str PJ.nil))) ⟨rfl, rfl, rfl, rfl⟩))
      (pss_cons (ps_if (pt_cmpR op_eq (pv 1) pe_int (nomark _)) (pss_one (ps_ret (pv 2))) pss_nil)
      (pss_cons (ps_set (i := 3) sc_textof.nd rfl (Or.inl rfl) (pe_ifExp (pt_cmpR op_gt (pv 1) pe_int (nomark _)) pe_str pe_str))
      (pss_one (ps_ret (pe_joined (PJ.cons (pe_fmt (pv 2)) (PJ.cons pe_str (PJ.cons (pe_fmt (pv 3)) (PJ.cons pe_str (PJ.cons (pe_fmt (pe_callB call_abs (by rfl) T.z_abs boot_abs (pa_cons (pv 1) pa_nil))) PJ.nil)))))))))))), ?_⟩
    refine ⟨_, rfl, rfl, _, rfl, ?_⟩
    refine ite2 (fun c => ?_) (fun c => ?_)
    · have c' : a = 0 := by
        have z := of_decide_eq_true c
        injection z
      refine ⟨_, rfl, b, rfl, hb, ?_⟩
      have z := k H fun _ _ z => z
      unfold lineT at z
      rw [if_pos c'] at z
      exact z
    · have c' : ¬ a = 0 := fun z => c (decide_eq_true (by rw [z]))
      have la := num_len ha
      refine fun p hp => ⟨1, rfl, upd_same, twoS, rfl, by decide, p, rfl, .inl ⟨_, .inl upd_same⟩, _, rfl, _, rfl, .inr ⟨a, rfl, ha, _, rfl, ?_, _, rfl, ?_, _, DGet.k (k := .inl a) upd_same, ?_⟩⟩
      · rw [app_len, sizeLine_eq]
        have e1 : (Str.empty).length = 0 := rfl
        omega
      · rw [app_len, app_len, sizeLine_eq]
        have e1 : (Str.empty).length = 0 := rfl
        have e2 : (("m" : Str)).length = 1 := rfl
        omega
      · rw [head_eq]
        have ss : Same H (upd (upd H p (.dK [])) p (.dK (mergeK [] twoS))) := fun x o e => by
          rw [upd_ne (ne_of_none e hp), upd_ne (ne_of_none e hp)]
          exact e
        have z := k _ ss
        unfold lineT at z
        rw [if_neg c'] at z
        have hl := headT_len ha
        show tSeq _ _ _ _ _
        refine ⟨_, rfl, rfl, _, rfl, ?_⟩
        refine ite2 (fun d => ?_) (fun d => ?_)
        · have d' : b = 0 := by
            have z := of_decide_eq_true d
            injection z
          rw [if_pos d'] at z
          exact ⟨_, rfl, z⟩
        · have d' : ¬ b = 0 := fun z => d (decide_eq_true (by rw [z]))
          rw [if_neg d'] at z
          have lb : (if b < 0 then -b else b).natAbs.log2 < 1920 := by
            have e : (if b < 0 then -b else b).natAbs = b.natAbs := by split <;> omega
            rw [e]
            exact hb
          have nb := num_len lb
          have e1 : (Str.empty).length = 0 := rfl
          have e2 : ((" " : Str)).length = 1 := rfl
          have e3 : (("+" : Str)).length = 1 := rfl
          have e4 : (("-" : Str)).length = 1 := rfl
          have hh : headT a = (if a = 1 then ("m" : Str) else if a = -1 then "-m" else (Str.empty ++ ((toString a : String) : Str)) ++ "m") := rfl
          rw [← hh]
          refine ⟨_, rfl, _, _, rfl, rfl, _, rfl, ?_⟩
          refine ite2 (fun g => ?_) (fun g => ?_)
          · rw [if_pos (of_decide_eq_true g)] at z
            refine ⟨_, rfl, .inl ⟨headT a, rfl, by rw [sizeLine_eq]; omega, _, rfl, by rw [app_len, sizeLine_eq]; omega, _, rfl, by rw [app_len, app_len, sizeLine_eq]; omega, _, rfl, .inl ⟨_, rfl, by rw [sizeLine_eq]; omega, _, rfl, by rw [app_len, app_len, app_len, sizeLine_eq]; omega, _, rfl, by rw [app_len, app_len, app_len, app_len, sizeLine_eq]; omega, _, rfl, b, rfl, .inr ⟨_, rfl, lb, _, rfl, by rw [app_len, app_len, app_len, app_len, app_len, sizeLine_eq]; omega, z⟩⟩⟩⟩
          · rw [if_neg (fun q => g (decide_eq_true q))] at z
            refine ⟨_, rfl, .inl ⟨headT a, rfl, by rw [sizeLine_eq]; omega, _, rfl, by rw [app_len, sizeLine_eq]; omega, _, rfl, by rw [app_len, app_len, sizeLine_eq]; omega, _, rfl, .inl ⟨_, rfl, by rw [sizeLine_eq]; omega, _, rfl, by rw [app_len, app_len, app_len, sizeLine_eq]; omega, _, rfl, by rw [app_len, app_len, app_len, app_len, sizeLine_eq]; omega, _, rfl, b, rfl, .inr ⟨_, rfl, lb, _, rfl, by rw [app_len, app_len, app_len, app_len, app_len, sizeLine_eq]; omega, z⟩⟩⟩⟩
def spStr (C : Addr) : Sp := fun vs H Q _ => ∃ (p : Addr) (a b : Int), vs = [.ref p] ∧ LineAt C H p a b ∧ a.natAbs.log2 < 1920 ∧ b.natAbs.log2 < 1920 ∧ ∀ H', Same H H' → Q (.str (lineT a b)) H'
theorem ok_str {f : Addr} {fd : FuncData} (F : Fun K "__str__" "Line.__str__" s_str f fd) (T : LTx P K mg CLine CBadLine fBadLine) (D_textof : DefAt P w K mg base CX0 1 "text_of" ["slope", "more"] spText) : FnOk P w K mg base CX0 2 f fd ["self"] (spStr CLine) := by
  refine F.ok sc_str (fun vs H Q E h => ?_) (fun cdv A outer s H vs Q E hr h => ?_)
  · obtain ⟨p, a, b, rfl, _⟩ := h
    rfl
  · obtain ⟨p, a, b, rfl, ⟨dx, hp⟩, ha, hb, k⟩ := h
    refine ⟨_, (pss_one (ps_ret (pe_callTy SkE.call_str_str (by rfl) T.z_str boot_str (pa_cons (My.pe_d D_textof (hr.mono (by decide)) (by rfl) pass0 (pa_cons (pe_fld (pv 0) rfl) (pa_cons (pe_fld (pv 0) rfl) pa_nil))) pa_nil)))), ?_⟩
    exact ⟨_, rfl, p, CLine, dx, _, _, rfl, hp, T.cl, T.nS, lfs_slope _ _, _, rfl, p, CLine, dx, _, _, rfl, hp, T.cl, T.nM, lfs_more _ _, a, b, rfl, ha, hb, fun H' s => ⟨_, rfl, k H' s⟩⟩
end
end My
namespace My
open PySem PySem.Spec PyProof.Rows L2
abbrev s_integer : Stmt := topS 20
theorem sc_integer : FnScope ["_law_pen_here", "_law_some", "_law_found"] ["_law_pen_here"] (defScope s_integer) := ⟨rfl, rfl, rfl, by decide +kernel, rfl, by decide +kernel, by decide +kernel⟩
theorem pen_ne {H : Hp} {pn l : Addr} {n : Nat} (hp : PenAt H pn n) (hl : H l = none) : l ≠ pn := by
  obtain ⟨cl, ns, a, r, g1, _⟩ := hp
  exact (ne_of_none g1 hl).symm
theorem but_same {pn : Addr} {H H' : Hp} (s : Same H H') : But pn H H' := fun b o e _ => s b o e
theorem pen_same {pn : Addr} {H H' : Hp} {n : Nat} (hp : PenAt H pn n) (k : Same H H') : PenAt H' pn n := by
  obtain ⟨cl, ns, a, r, g1, g2, g3⟩ := hp
  exact ⟨cl, ns, a, r, k _ _ g1, k _ _ g2, g3⟩
theorem line_but {pn C p : Addr} {H H' : Hp} {n : Nat} {a b : Int} (h : LineAt C H p a b) (hp : PenAt H pn n) (k : But pn H H') : LineAt C H' p a b := by
  obtain ⟨dx, e⟩ := h
  obtain ⟨cl, ns, a', r, g1, _⟩ := hp
  exact ⟨dx, k _ _ e (ne_of e g1 (by intro z; cases z))⟩
theorem mem_ints {v : V} {zs : List Int} (h : v ∈ zs.map V.int) : ∃ z, v = .int z ∧ z ∈ zs := by
  obtain ⟨z, hz, e⟩ := List.mem_map.mp h
  exact ⟨z, e.symm, hz⟩
def spInteger : Sp := fun vs H Q _ => ∃ (pn : Addr) (n : Nat), vs = [.ref pn] ∧ PenAt H pn n ∧ n < 90000 ∧ ∀ (z : Int) (H' : Hp), -(10 ^ 30) < z → z < 10 ^ 30 → PenAt H' pn (n + 5) → But pn H H' → Q (.int z) H'
section
variable {P : Program} {w : World} {K : PySem.W.Frag} {mg : Str → Option Value} {base : Heap}
theorem ok_integer {f : Addr} {fd : FuncData} (F : Fun K "_law_integer" "_law_integer" s_integer f fd) (T : BI mg) (D_draw : DefAt P w K mg base CX0 1 "_law_draw" ["_law_pen_here", "_law_many"] spDraw)
    (D_pick : DefAt P w K mg base CX0 2 "_law_pick" ["_law_pen_here", "_law_some"] spPick) : FnOk P w K mg base CX0 3 f fd ["_law_pen_here"] spInteger := by
  refine F.ok sc_integer (fun vs H Q E h => ?_) (fun cdv A outer s H vs Q E hr h => ?_)
  · obtain ⟨pn, n, rfl, _⟩ := h
    rfl
  · obtain ⟨pn, n, rfl, hp, hn, k⟩ := h
    refine ⟨_, (pss_cons (ps_set (i := 1) sc_integer.nd rfl (Or.inl rfl) (pe_lst (pa_cons pe_int (pa_cons pe_int (pa_cons pe_int (pa_cons (My.pe_d D_draw (hr.mono (by decide)) (by rfl) pass0 (pa_cons (pv 0) (pa_cons pe_int pa_nil))) (pa_cons (My.pe_d D_draw (hr.mono (by decide)) (by rfl) pass0 (pa_cons (pv 0) (pa_cons pe_int pa_nil))) (pa_cons (My.pe_d D_draw (hr.mono (by decide)) (by rfl) pass0 (pa_cons (pv 0) (pa_cons (pe_op op_pow pe_int pe_int) pa_nil))) pa_nil))))))))
      (pss_cons (ps_set (i := 2) sc_integer.nd rfl (Or.inl rfl) (My.pe_d D_pick (hr.mono (by decide)) (by rfl) pass0 (pa_cons (pv 0) (pa_cons (pv 1) pa_nil))))
      (pss_one (ps_ret (pe_ifExp (pt_cmpR op_eq (My.pe_d D_draw (hr.mono (by decide)) (by rfl) pass0 (pa_cons (pv 0) (pa_cons pe_int pa_nil))) pe_int (nomark _)) (pe_op op_sub pe_int (pv 2)) (pv 2)))))), ?_⟩
    refine ⟨_, rfl, pn, 12, n, rfl, by decide, by decide, hp, by omega, fun d1 H1 a1 b1 p1 u1 => ?_⟩
    refine ⟨_, rfl, pn, 1000, n + 1, rfl, by decide, by decide, p1, by omega, fun d2 H2 a2 b2 p2 u2 => ?_⟩
    refine ⟨_, rfl, _, _, rfl, rfl, ⟨by decide, by decide, by decide⟩, pn, _, n + 2, rfl, by decide, by decide, p2, by omega, fun d3 H3 a3 b3 p3 u3 => ?_⟩
    refine ⟨(by show 6 ≤ sizeLine; decide), fun l hl => ?_⟩
    have nl : l ≠ pn := by
      obtain ⟨cl, ns, a, r, g1, _⟩ := p3
      exact (ne_of_none g1 hl).symm
    refine ⟨_, rfl, _, rfl, pn, l, n + 3, _, rfl, upd_same, nl, (by show 0 < 6; decide), (by show 6 ≤ 1000; decide), pen_new p3 hl, by omega, fun v H4 hv p4 u4 => ?_⟩
    obtain ⟨z, rfl, hz⟩ := mem_ints (zs := [0, 1, 2, d1, d2, d3]) hv
    have z0 : 0 ≤ z ∧ z < 10 ^ 30 := by
      have b3' : d3 < 10 ^ 30 := b3
      simp only [List.mem_cons, List.mem_nil_iff, or_false] at hz
      rcases hz with e | e | e | e | e | e <;> omega
    have uu : But pn H H4 := (((u1.trans u2).trans u3).trans (But.new hl)).trans u4
    refine ⟨_, rfl, pn, 2, n + 4, rfl, by decide, by decide, p4, by omega, fun d5 H5 a5 b5 p5 u5 => ?_⟩
    refine ⟨rfl, _, rfl, ?_⟩
    refine ite2 (fun c => ?_) (fun c => ?_)
    · exact ⟨_, rfl, _, _, rfl, rfl, k _ H5 (by omega) (by omega) p5 (uu.trans u5)⟩
    · exact ⟨_, rfl, k _ H5 (by omega) (by omega) p5 (uu.trans u5)⟩
end
end My
namespace My
open PySem PySem.Spec PyProof.Rows L2
abbrev s_heard : Stmt := topS 22
theorem sc_heard : FnScope ["_law_ask", "_law_caught", "error"] ["_law_ask"] (defScope s_heard) := ⟨rfl, rfl, rfl, by decide +kernel, rfl, by decide +kernel, by decide +kernel⟩
/-- what the top has written of the errors' classes -/
structure HTx (P : Program) (K : PySem.W.Frag) (mg : Str → Option Value) (CE CB fB : Addr) : Prop extends BI mg where
  gClip : mg "ClipError" = some (.ref CE)
  e_BadLine : Sup.Err1 P K mg "BadLine" "part" CB fB
  xB : PySem.W.exmOne K (.ref CB) (.ref CE) = some true
  kB : ExcK K CB
  iBB : PySem.W.kitOne K (.ref CB) (.ref CB) = some true
/-- what heard hands back of an error -/
def WHeard (CB : Addr) (Q : VK) : XK := fun cls d H => ∃ dd v, cls = .ref CB ∧ d = some dd ∧ H dd = some (.xd [("part", v)]) ∧ ∀ t H', H t = none → Same H H' → H' t = some (.tup [.str "part", v]) → Q (.ref t) H'
def THeard (CB : Addr) : (XK → Hp → VK → Prop) → Hp → VK → Prop := fun tl H Q => ∀ Q' : VK, (∀ v H', Q .non H' → Q' v H') → tl (WHeard CB Q) H Q'
theorem three {σ : List (Option V)} (h : σ.length = 3) : ∃ x y z, σ = [x, y, z] := by
  rcases σ with _ | ⟨x, _ | ⟨y, _ | ⟨z, _ | ⟨u, r⟩⟩⟩⟩
  · cases h
  · cases h
  · cases h
  · exact ⟨x, y, z, rfl⟩
  · simp at h
theorem heard_gives {X : Cx} {CE CB fB : Addr} (T : HTx X.prog X.K X.mg CE CB fB) {k : Nat} (hrX : Room (k + 1) X.A) (hgX : X.A.guards = some []) {g : Addr} {cdg : Value} {q : Str} :
    LamX.GivesTo X ["_law_ask", "_law_caught", "error"] "_law_heard" (defScope s_heard) g cdg (defBody s_heard) "_law_ask" q (THeard CB) := by
  intro f c' s H Q tl act hc h
  have hr : Room k (cxOf C8.CX0 X.prog X.w X.K X.mg X.base ["_law_ask", "_law_caught", "error"] "_law_heard" (defScope s_heard) g cdg X.A X.stack s H C8.E0).nox.A := hrX.deeper _
  have hgd : (cxOf C8.CX0 X.prog X.w X.K X.mg X.base ["_law_ask", "_law_caught", "error"] "_law_heard" (defScope s_heard) g cdg X.A X.stack s H C8.E0).nox.A.guards = some [] := hgX
  refine ⟨_, (pss_cons (ps_set (i := 1) sc_heard.nd rfl (Or.inl rfl) pe_non)
      (pss_cons (My.ps_try_keep (X := (cxOf C8.CX0 X.prog X.w X.K X.mg X.base ["_law_ask", "_law_caught", "error"] "_law_heard" (defScope s_heard) g cdg X.A X.stack s H C8.E0).nox) (i := 2) (j := 1) (c := .ref CE) (tb := fun W D σ H => ∃ Ech : XK, (∀ cls d σ' H', Ech cls d H' → W cls d σ' H') ∧ σ[0]? = some (some (.ref f)) ∧ H c' = some (LamX.CodeO c' q) ∧ tl Ech H fun _ H' => D.nx σ H') (Wout := fun _ _ _ _ => False) rfl rfl sc_heard.nd rfl rfl rfl rfl rfl ⟨rfl, by decide, .inl T.gClip⟩ LamX.takes0 (fun W pn xe tk _ => ?_))
      (pss_cons (ps_if (pt_cmpR op_isN (pv 1) pe_non (nomark _)) (pss_one (ps_ret pe_non)) pss_nil)
      (pss_one (ps_ret (pe_ifExp (pt_val (pe_callB My.call_isA (by rfl) T.z_isinstance boot_isinstance (pa_cons (pv 1) (pa_cons (pe_glob (v := .ref CB) (by rfl) T.e_BadLine.gC rfl) pa_nil)))) (pe_tup (pa_cons pe_str (pa_cons (My.pe_xa (pv 1)) pa_nil))) (pe_tup (pa_cons pe_str pa_nil)))))))), ?_⟩
  · refine ⟨fun pins s' σ H' D I h' => ?_⟩
    obtain ⟨Ech, hW, h1, h2, h3⟩ := h'
    exact (pss_one (ps_expr (act W pn xe Ech _ _ tk hW))).run pins s' σ H' D I ⟨h1, h2, h3⟩
  · refine ⟨WHeard CB Q, ?_, rfl, hc, ?_⟩
    · intro cls d σ' H' hw
      obtain ⟨dd, v, rfl, rfl, hd, kk⟩ := hw
      refine ⟨true, T.xB, fun _ a na hl => ?_, fun z => Bool.noConfusion z⟩
      obtain ⟨x0, x1, x2, rfl⟩ := three hl
      have hd' := same_new (o := ExA (.ref CB) (some dd) a) na _ _ hd
      refine ⟨_, rfl, rfl, _, rfl, iteF ?_⟩
      refine ⟨_, rfl, a, CB, dd, _, _, _, true, rfl, .own _, T.kB, upd_same, hd', T.iBB, _, rfl, iteT ?_⟩
      refine ⟨_, rfl, a, CB, dd, _, v, rfl, upd_same, hd', T.e_BadLine.rd, T.e_BadLine.nf, by simp [List.lookup], (by show 2 ≤ sizeLine; decide), fun t ht => ?_⟩
      exact kk t _ ((same_new na).free ht) ((same_new na).trans (same_new ht)) upd_same
    · exact h _ fun v H' hq => ⟨_, rfl, rfl, _, rfl, iteT hq⟩
/-- heard as it stands in the module -/
structure HeardAt (K : PySem.W.Frag) (mg : Str → Option Value) : Prop where
  ex : ∃ g fd, Fun K "_law_heard" "_law_heard" s_heard g fd ∧ mg "_law_heard" = some (.ref g) ∧ L2.Binds K fd ["_law_ask"] []
/-- heard(lambda: body) -/
theorem pe_heard {X : Cx} {CE CB fB : Addr} {TS : List (Addr × Str)} {c P : Addr} {k : Nat} {params : Arguments} {body : Expr} {scope : Scope} {t : XK → TE} {p lpos pos : Pos}
    (D : HeardAt X.K X.mg) (T : HTx X.prog X.K X.mg CE CB fB) (hgd : X.A.guards = some []) (hr : Room (k + 2) X.A) (TB : LamX.TabB X.base X.mg c P) (hcode : X.env.code = .ref c) (hmT : (P, X.env.qual ++ "<lambda>") ∈ TS) (hu : ∀ p ∈ TS, p.1 = P → p.2 = X.env.qual ++ "<lambda>")
    (hg : Gl X "_law_heard") (L : LamX.LamS X.env.scope scope) (hdef : defaultsOf params X.env = ([], []))
    (hbind : ∀ (q : Str) (cl : List (Str × Addr)) (pm cv ctv : Value), bindArgs (PySem.W.kla_fn "<lambda>" q params body scope cl pm cv ctv) ⟨[], []⟩ = pure [])
    (hbody : ∀ (A : Around) (outer : List Env) (s : Shared) (H : Hp) (E : XK) (f c' : Addr), Room k (A.deeper (LamX.lamEnv X scope s.heap.objs.size f c')) → PE (LamX.lamCx X A outer s H E scope f c') body (t E)) :
    PE X (.Call (.Name "_law_heard" p) [.Lambda params body scope lpos] [] pos) (LamX.tLam TS (THeard CB) t) := by
  obtain ⟨g, fd, F, hm, hb⟩ := D.ex
  have kp := F.kp
  obtain ⟨oc, od, kV, doc, pm, an, cdv, ct, osl, rfl, lk, hcd⟩ := F.ex
  exact LamX.pe_lamcall hg hm kp lk hcd hb sc_heard rfl (Or.inl rfl) (heard_gives (k := k) T (hr.mono (by omega)) hgd) TB hcode hmT hu hr L hdef hbind hbody (by decide) (by decide) (by decide)
/-! ### tables of code objects, the pen, and all else -/
/-- all but the pen and the tables stays, the tables are tables -/
structure Kp (pn : Addr) (TS : List (Addr × Str)) (H H' : Hp) : Prop where
  keep : ∀ b o, H b = some o → b ≠ pn → (∀ ps, o ≠ .tbl ps) → H' b = some o
  tabs : LamX.Tabs TS H'
theorem Kp.trans {pn : Addr} {TS : List (Addr × Str)} {H H1 H2 : Hp} (a : Kp pn TS H H1) (b : Kp pn TS H1 H2) : Kp pn TS H H2 := ⟨fun c o h n m => b.keep c o (a.keep c o h n m) n m, b.tabs⟩
theorem tabs_but {pn : Addr} {TS : List (Addr × Str)} {H H' : Hp} {n : Nat} (t : LamX.Tabs TS H) (hp : PenAt H pn n) (k : But pn H H') : LamX.Tabs TS H' := fun p hp' => by
  obtain ⟨ps, h1, h2, h3⟩ := t p hp'
  obtain ⟨cl, ns, a, r, g1, _⟩ := hp
  refine ⟨ps, k _ _ h1 (ne_of h1 g1 (by intro z; cases z)), h2, fun pos cv hc => ?_⟩
  obtain ⟨c, e1, e2⟩ := h3 pos cv hc
  exact ⟨c, e1, k _ _ e2 (ne_of e2 g1 (by intro z; unfold LamX.CodeO at z; cases z))⟩
theorem Kp.but {pn : Addr} {TS : List (Addr × Str)} {H H' : Hp} {n : Nat} (t : LamX.Tabs TS H) (hp : PenAt H pn n) (k : But pn H H') : Kp pn TS H H' := ⟨fun b o h nb _ => k b o h nb, tabs_but t hp k⟩
theorem Kp.same {pn : Addr} {TS : List (Addr × Str)} {H H' : Hp} (t : LamX.Tabs TS H) (k : Same H H') : Kp pn TS H H' := ⟨fun b o h _ _ => k b o h, t.ext k⟩
theorem Kp.ext {pn : Addr} {TS : List (Addr × Str)} {H H' : Hp} (t : LamX.Tabs TS H') (k : LamX.ExtN H H') : Kp pn TS H H' := ⟨fun b o h _ m => k b o h m, t⟩
theorem line_kp {pn : Addr} {TS : List (Addr × Str)} {C p : Addr} {H H' : Hp} {n : Nat} {a b : Int} (h : LineAt C H p a b) (hp : PenAt H pn n) (k : Kp pn TS H H') : LineAt C H' p a b := by
  obtain ⟨dx, e⟩ := h
  obtain ⟨cl, ns, a', r, g1, _⟩ := hp
  exact ⟨dx, k.keep _ _ e (ne_of e g1 (by intro z; cases z)) (by intro ps z; cases z)⟩
theorem pen_ext {pn : Addr} {H H' : Hp} {n : Nat} (hp : PenAt H pn n) (k : LamX.ExtN H H') : PenAt H' pn n := by
  obtain ⟨cl, ns, a, r, g1, g2, g3⟩ := hp
  exact ⟨cl, ns, a, r, k _ _ g1 (by intro ps z; cases z), k _ _ g2 (by intro ps z; cases z), g3⟩
theorem line_ext {C p : Addr} {H H' : Hp} {a b : Int} (h : LineAt C H p a b) (k : LamX.ExtN H H') : LineAt C H' p a b := by
  obtain ⟨dx, e⟩ := h
  exact ⟨dx, k _ _ e (by intro ps z; cases z)⟩
/-- a def whose code object stands at c -/
structure FunC (K : PySem.W.Frag) (x qual : Str) (st : Stmt) (f : Addr) (fd : FuncData) (c : Addr) : Prop where
  ex : ∃ (oc : Value) (od : Option Addr) (kV doc pm : Value) (an : Option Addr) (ct : Value) (osl : Array (Option Value)),
    fd = PySem.W.fnOf x qual (defArgs st) (defBody st) (defScope st) .none kV doc pm an (.ref c) ct ∧ K.lookup f = some ⟨oc, od, .func fd, osl⟩ ∧ PySem.W.codeIn K (.ref c) qual = true
  kp : PySem.W.keepIn K (.ref f) = true
theorem okGc {P : Program} {w : World} {K : PySem.W.Frag} {mg : Str → Option Value} {base : Heap} {x qual : Str} {st : Stmt} {f c : Addr} {fd : FuncData} {N ps : List Str} {k : Nat} {sp : Sp} (F : FunC K x qual st f fd c) (S : FnScope N ps (defScope st)) (len : ∀ vs H Q E, sp vs H Q E → vs.length = ps.length)
    (hbody : ∀ (A : Around) (outer : List Env) (s : Shared) (H : Hp) (vs : List V) (Q : VK) (E : XK), A.guards = some [] → Room k (A.deeper (envOfC qual (defScope st) s.heap.objs.size f (.ref c))) → sp vs H Q E →
      ∃ t, PSs (cxOf CX0 P w K mg base N qual (defScope st) f (.ref c) A outer s H E).nox (defBody st) t ∧ t { nx := fun _ H' => Q .non H', rt := Q } (start N vs) H) : FnG P w K mg base CX0 (k + 1) f fd ps sp := by
  obtain ⟨oc, od, kV, doc, pm, an, ct, osl, rfl, lk, hcd⟩ := F.ex
  refine ⟨len, fun A outer s H args us vs Q E hg hr e0 hb r hsp => LamX.run_ofS lk hcd S hr e0 hb r (len _ _ _ _ hsp) fun hr' => ?_⟩
  obtain ⟨t, h, q⟩ := hbody A outer s H vs Q E hg hr' hsp
  exact ⟨t, h.nox, q⟩
end My
namespace My
open PySem PySem.Spec PyProof.Rows L2
abbrev s_is : Stmt := topS 21
theorem sc_is : FnScope ["_law_line", "_law_rise", "_law_base", "_law_at"] ["_law_line", "_law_rise", "_law_base"] (defScope s_is) := ⟨rfl, rfl, rfl, by decide +kernel, rfl, by decide +kernel, by decide +kernel⟩
/-- an int of less than 300 bits -/
def Sm (z : Int) : Prop := z.natAbs < 2 ^ 300
theorem Sm.mul {a b : Int} {i j : Nat} (ha : a.natAbs < 2 ^ i) (hb : b.natAbs < 2 ^ j) (h0 : 0 < i := by decide) (h1 : 0 < j := by decide) (h : i + j ≤ 1000000 := by decide) : CMulW a b := wide_mul ha hb h0 h1 h
theorem Sm.log {z : Int} (h : Sm z) : z.natAbs.log2 < 1920 := Nat.lt_of_lt_of_le (PySem.Flt.log2_lt_of (k := 300) (by decide) h) (by decide)
theorem shown_sum : ∀ (ns : List Int), (∀ z ∈ ns, z.natAbs.log2 < 1920) → ((PyData.shownAll (ns.map PyData.int)).map (·.length)).sum ≤ 1921 * ns.length ∧ (PyData.shownAll (ns.map PyData.int)).length = ns.length
  | [], _ => ⟨Nat.le_refl _, rfl⟩
  | n :: ns, h => by
    obtain ⟨h1, h2⟩ := shown_sum ns fun z hz => h z (List.mem_cons_of_mem _ hz)
    have e2 := num_len (h n List.mem_cons_self)
    refine ⟨?_, ?_⟩
    · show ((toString n : String) : Str).length + ((PyData.shownAll (ns.map PyData.int)).map (·.length)).sum ≤ 1921 * (ns.length + 1)
      omega
    · show (PyData.shownAll (ns.map PyData.int)).length + 1 = ns.length + 1
      omega
theorem showable_ints : ∀ (ns : List Int), (∀ z ∈ ns, z.natAbs.log2 < 1920) → PyData.showableAll (ns.map PyData.int) = true
  | [], _ => rfl
  | n :: ns, h => by
    show (decide (n.natAbs.log2 < 1920) && PyData.showableAll (ns.map PyData.int)) = true
    rw [showable_ints ns fun z hz => h z (List.mem_cons_of_mem _ hz), decide_eq_true (h n List.mem_cons_self)]
    rfl
/-- a list of ints shown -/
theorem ints_show {K : PySem.W.Frag} {H : Hp} {l : Addr} (ns : List Int) (hz : ∀ z ∈ ns, z.natAbs.log2 < 1920) (hl : ns.length ≤ 1000) (h : H l = some (.lst (ns.map V.int))) : Dr K H (.ref l) (.list (ns.map PyData.int)) ∧ (PyData.list (ns.map PyData.int)).showable = true ∧ (PyData.list (ns.map PyData.int)).depth ≤ 60 ∧ (PyData.list (ns.map PyData.int)).shown.length ≤ sizeLine := by
  refine ⟨.inl (.lst (SqL.of h) (dp_ints ns)), showable_ints ns hz, ?_, ?_⟩
  · show PyData.depthAll (ns.map PyData.int) + 1 ≤ 60
    rw [dep_ints]
    decide
  · have h1 := listText_len_le (PyData.shownAll (ns.map PyData.int))
    obtain ⟨h2, h3⟩ := shown_sum ns hz
    show (listText (PyData.shownAll (ns.map PyData.int))).length ≤ sizeLine
    rw [sizeLine_eq]
    omega
def turns : List Int := [0, 1, 7, 10 ^ Int.toNat 40]
theorem turn_bd {m : Int} (h : m ∈ turns) : 0 ≤ m ∧ m.natAbs < 2 ^ 150 := by
  have e : (10 : Int) ^ Int.toNat 40 = 10000000000000000000000000000000000000000 := by decide
  have e2 : (2 : Nat) ^ 150 = 1427247692705959881058285969449495136382746624 := rfl
  simp only [turns, List.mem_cons, List.mem_nil_iff, or_false] at h
  rw [e] at h
  rcases h with rfl | rfl | rfl | rfl <;> omega
theorem at_log {a b m : Int} (ha : Sm a) (hb : Sm b) (hm : m.natAbs < 2 ^ 150) : (a * m + b).natAbs.log2 < 1920 := by
  have h1 : (a * m).natAbs < 2 ^ 300 * 2 ^ 150 := by
    rw [Int.natAbs_mul]
    exact Nat.mul_lt_mul_of_lt_of_lt ha hm
  have h2 : (a * m + b).natAbs < 2 ^ 500 := by
    have h3 := Int.natAbs_add_le (a * m) b
    have e1 : (2 : Nat) ^ 300 * 2 ^ 150 = 2 ^ 450 := by rw [← Nat.pow_add]
    have e3 : (2 : Nat) ^ 300 ≤ 2 ^ 450 := Nat.pow_le_pow_right (by decide) (by decide)
    have e4 : (2 : Nat) ^ (450 + 1) ≤ 2 ^ 500 := Nat.pow_le_pow_right (by decide) (by decide)
    rw [e1] at h1
    refine Nat.lt_of_lt_of_le (Nat.lt_of_le_of_lt h3 (Nat.add_lt_add h1 (Nat.lt_of_lt_of_le hb e3))) ?_
    rw [← Nat.two_mul, ← Nat.pow_succ']
    exact e4
  exact Nat.lt_of_lt_of_le (PySem.Flt.log2_lt_of (k := 500) (by decide) h2) (by decide)
theorem yes_go {σ : L2.St} {H : Hp} {A B : Hp → Prop} (h : A H) : tYes σ H (fun b H3 => if b = true then A H3 else B H3) := by
  show (if true = true then A H else B H)
  rw [if_pos rfl]
  exact h
theorem take1 {α : Type} {ls : List α} {i : Nat} {y : α} (h : ls[i]? = some y) : ls.take (i + 1) = ls.take i ++ [y] := by rw [List.take_add_one, h]; rfl
theorem at_int {ls : List Int} {i : Nat} {v : V} (h : (ls.map V.int)[i]? = some v) : ∃ y, ls[i]? = some y ∧ v = .int y := by
  rw [List.getElem?_map] at h
  cases e : ls[i]? with
  | none => rw [e] at h; cases h
  | some y => rw [e] at h; cases h; exact ⟨y, rfl, rfl⟩
def spIs (C : Addr) : Sp := fun vs H Q _ => ∃ (p : Addr) (a b : Int), vs = [.ref p, .int a, .int b] ∧ LineAt C H p a b ∧ Sm a ∧ Sm b ∧ ∀ H', Same H H' → Q (.bl true) H'
section
variable {P : Program} {w : World} {K : PySem.W.Frag} {mg : Str → Option Value} {base : Heap} {CLine CBadLine fBadLine : Addr}
theorem ok_is {f : Addr} {fd : FuncData} (F : Fun K "_law_is" "_law_is" s_is f fd) (T : LTx P K mg CLine CBadLine fBadLine) (C_Line : CallAt P w K mg base (L2.CX P w) 3 CLine ["self", "m"] (spCall CLine CBadLine)) :
    FnG P w K mg base CX0 5 f fd ["_law_line", "_law_rise", "_law_base"] (spIs CLine) := by
  refine okG F sc_is (fun vs H Q E h => ?_) (fun cdv A outer s H vs Q E hf hgd hr h => ?_)
  · obtain ⟨p, a, b, rfl, _⟩ := h
    rfl
  · obtain ⟨p, a, b, rfl, hl, sa, sb, k⟩ := h
    refine ⟨_, (pss_cons (ps_if (PW.pt (pw_or (pt_not (pt_val (pe_callB call_isi (by rfl) T.z_isinstance boot_isinstance (pa_cons (pv 0) (pa_cons (pe_glob (v := .ref CLine) (by rfl) T.gLine rfl) pa_nil))))) (pw_or1 (pt_cmpR op_ne (pe_callB (My.call_repr hgd hr) (by rfl) T.z_repr boot_repr (pa_cons (pe_lst (pa_cons (pe_fld (pv 0) rfl) (pa_cons (pe_fld (pv 0) rfl) pa_nil))) pa_nil)) (pe_callB (My.call_repr hgd hr) (by rfl) T.z_repr boot_repr (pa_cons (pe_lst (pa_cons (pv 1) (pa_cons (pv 2) pa_nil))) pa_nil)) (nomark _))))) (pss_one (ps_ret pe_bl)) pss_nil)
      (pss_one (ps_ret (pe_cmpR op_eq (pe_callB (My.call_repr hgd hr) (by rfl) T.z_repr boot_repr (pa_cons (pe_lc (own := [("_law_at", 3)]) rfl sc_is.nd (pi_list (pe_lst (pa_cons pe_int (pa_cons pe_int (pa_cons pe_int (pa_cons (pe_op op_pow pe_int pe_int) pa_nil)))))) (blkOk_by (by show blkC ["_law_line", "_law_rise", "_law_base", "_law_at"] (defScope s_is) _ _ = true; decide +kernel)) (fun _ _ _ _ _ => (pg_name (i := 3) sc_is.nd rfl (Or.inl rfl))) (fun _ _ _ _ _ => pts_nil) (fun _ _ _ _ _ => (My.pe_clI C_Line (hr.mono (by decide)) passL (pv 0) (pa_cons (pv 3) pa_nil)))) pa_nil)) (pe_callB (My.call_repr hgd hr) (by rfl) T.z_repr boot_repr (pa_cons (pe_lc (own := [("_law_at", 3)]) rfl sc_is.nd (pi_list (pe_lst (pa_cons pe_int (pa_cons pe_int (pa_cons pe_int (pa_cons (pe_op op_pow pe_int pe_int) pa_nil)))))) (blkOk_by (by show blkC ["_law_line", "_law_rise", "_law_base", "_law_at"] (defScope s_is) _ _ = true; decide +kernel)) (fun _ _ _ _ _ => (pg_name (i := 3) sc_is.nd rfl (Or.inl rfl))) (fun _ _ _ _ _ => pts_nil) (fun _ _ _ _ _ => (pe_op op_add (pe_op op_mulW (pv 1) (pv 3)) (pv 2)))) pa_nil)) (nomark _))))), ?_⟩
    obtain ⟨dx, ex⟩ := id hl
    have two : ∀ z ∈ [a, b], z.natAbs.log2 < 1920 := fun z hz => by
      simp only [List.mem_cons, List.mem_nil_iff, or_false] at hz
      rcases hz with rfl | rfl
      · exact sa.log
      · exact sb.log
    have four : ∀ z ∈ turns.map (fun m => a * m + b), z.natAbs.log2 < 1920 := fun z hz => by
      obtain ⟨m, hm, rfl⟩ := List.mem_map.mp hz
      exact at_log sa sb (turn_bd hm).2
    refine ⟨_, rfl, _, _, _, _, true, rfl, .own _, .base (.ins ex T.cl T.ha T.hn T.ht T.hm), T.me, _, rfl, iteF ?_⟩
    refine ⟨_, rfl, p, CLine, dx, _, _, rfl, ex, T.cl, T.nS, lfs_slope _ _, _, rfl, p, CLine, dx, _, _, rfl, ex, T.cl, T.nM, lfs_more _ _, (by show 2 ≤ sizeLine; decide), fun l1 h1 => ?_⟩
    obtain ⟨i1, i2, i3, i4⟩ := ints_show (K := K) (H := upd H l1 (.lst [.int a, .int b])) (l := l1) [a, b] two (by show 2 ≤ 1000; decide) upd_same
    refine ⟨_, _, rfl, i1, i2, i3, i4, _, rfl, _, rfl, (by show 2 ≤ sizeLine; decide), fun l2 h2 => ?_⟩
    obtain ⟨i1, i2, i3, i4⟩ := ints_show (K := K) (H := upd (upd H l1 (.lst [.int a, .int b])) l2 (.lst [.int a, .int b])) (l := l2) [a, b] two (by show 2 ≤ 1000; decide) upd_same
    refine ⟨_, _, rfl, i1, i2, i3, i4, rfl, _, rfl, iteNS rfl ?_⟩
    have s2 := (same_new (o := .lst [.int a, .int b]) h1).trans (same_new (o := .lst [.int a, .int b]) h2)
    generalize (upd (upd H l1 (.lst [.int a, .int b])) l2 (.lst [.int a, .int b])) = H2 at s2
    refine ⟨_, _, rfl, rfl, ⟨by decide, by decide, by decide⟩, (by show 4 ≤ sizeLine; decide), fun l3 h3 => ⟨l3, rfl, ⟨_, SqL.of upd_same⟩, fun D1 hD1 => ?_⟩⟩
    have s3 := s2.trans (same_new (o := .lst [.int 0, .int 1, .int 7, .int (10 ^ Int.toNat 40)]) h3)
    have Ll3 : (upd H2 l3 (.lst [.int 0, .int 1, .int 7, .int (10 ^ Int.toNat 40)])) l3 = some (.lst (turns.map V.int)) := upd_same
    generalize (upd H2 l3 (.lst [.int 0, .int 1, .int 7, .int (10 ^ Int.toNat 40)])) = H3 at s3 Ll3 hD1
    refine lc_list (K := K) (a := l3) (xs := turns.map V.int) (fun i Hh => Hh D1 = some (.lst (((turns.take i).map (fun m => a * m + b)).map V.int)) ∧ Same H3 Hh) ⟨upd_same, same_new hD1⟩ (fun i Hh _ hh => SqL.of (hh.2 _ _ Ll3)) ?_ ?_
    · rintro i v Hh hi ⟨c1, c2⟩
      obtain ⟨m, hm, rfl⟩ := at_int hi
      obtain ⟨mb1, mb2⟩ := turn_bd (List.mem_of_getElem? hm)
      refine ⟨rfl, yes_go ?_⟩
      refine ⟨_, rfl, p, rfl, _, rfl, ⟨dx, _, c2 _ _ (s3 _ _ ex)⟩, p, a, b, _, rfl, (hl.same s3).same c2, TyL.int _ _ m, fun m' em _ => ?_, fun lo => ?_⟩
      · cases em
        refine ⟨Sm.mul sa mb2, _, c1, ?_, ?_, ?_⟩
        · rw [List.length_map, List.length_map, List.length_take, sizeLine_eq]
          show min i 4 < _
          omega
        · rw [take1 hm, List.map_append, List.map_append]
          exact upd_same
        · intro b' o e
          rw [upd_ne (ne_of_none e hD1)]
          exact c2 _ _ e
      · exfalso
        rcases lo with lo | ⟨z, e, lo⟩
        · cases lo
        · cases e
          omega
    rintro H4 ⟨c1D1, c2D1⟩
    rw [List.length_map, List.take_length] at c1D1
    obtain ⟨i1, i2, i3, i4⟩ := ints_show (K := K) (H := H4) (l := D1) (turns.map (fun m => a * m + b)) four (by show 4 ≤ 1000; decide) c1D1
    refine ⟨_, _, rfl, i1, i2, i3, i4, ?_⟩
    have s2 := s3.trans c2D1
    refine ⟨_, _, rfl, rfl, ⟨by decide, by decide, by decide⟩, (by show 4 ≤ sizeLine; decide), fun l5 h5 => ⟨l5, rfl, ⟨_, SqL.of upd_same⟩, fun D2 hD2 => ?_⟩⟩
    have s5 := s2.trans (same_new (o := .lst [.int 0, .int 1, .int 7, .int (10 ^ Int.toNat 40)]) h5)
    have Ll5 : (upd H4 l5 (.lst [.int 0, .int 1, .int 7, .int (10 ^ Int.toNat 40)])) l5 = some (.lst (turns.map V.int)) := upd_same
    generalize (upd H4 l5 (.lst [.int 0, .int 1, .int 7, .int (10 ^ Int.toNat 40)])) = H5 at s5 Ll5 hD2
    refine lc_list (K := K) (a := l5) (xs := turns.map V.int) (fun i Hh => Hh D2 = some (.lst (((turns.take i).map (fun m => a * m + b)).map V.int)) ∧ Same H5 Hh) ⟨upd_same, same_new hD2⟩ (fun i Hh _ hh => SqL.of (hh.2 _ _ Ll5)) ?_ ?_
    · rintro i v Hh hi ⟨c1, c2⟩
      obtain ⟨m, hm, rfl⟩ := at_int hi
      obtain ⟨mb1, mb2⟩ := turn_bd (List.mem_of_getElem? hm)
      refine ⟨rfl, yes_go ?_⟩
      refine ⟨_, rfl, _, rfl, _, _, rfl, rfl, Sm.mul sa mb2, _, rfl, _, _, rfl, rfl, _, c1, ?_, ?_, ?_⟩
      · rw [List.length_map, List.length_map, List.length_take, sizeLine_eq]
        show min i 4 < _
        omega
      · rw [take1 hm, List.map_append, List.map_append]
        exact upd_same
      · intro b' o e
        rw [upd_ne (ne_of_none e hD2)]
        exact c2 _ _ e
    rintro H6 ⟨c1D2, c2D2⟩
    rw [List.length_map, List.take_length] at c1D2
    obtain ⟨i1, i2, i3, i4⟩ := ints_show (K := K) (H := H6) (l := D2) (turns.map (fun m => a * m + b)) four (by show 4 ≤ 1000; decide) c1D2
    refine ⟨_, _, rfl, i1, i2, i3, i4, rfl, ?_⟩
    have fin : decide (V.str (PyData.list ((turns.map (fun m => a * m + b)).map PyData.int)).shown = V.str (PyData.list ((turns.map (fun m => a * m + b)).map PyData.int)).shown) = true := decide_eq_true rfl
    rw [fin]
    exact k _ (s5.trans c2D2)
end
end My
namespace My
open PySem PySem.Spec PyProof.Rows L2
abbrev s_signsR : Stmt := topS 23
theorem sc_signsR : FnScope ["_law_one", "_law_two", "_law_four", "_law_number_so", "_law_a", "_law_b", "_law_c", "_law_d", "_law_n"] ["_law_one", "_law_two", "_law_four", "_law_number_so"] (defScope s_signsR) := ⟨rfl, rfl, rfl, by decide +kernel, rfl, by decide +kernel, by decide +kernel⟩
abbrev s_placeR : Stmt := topS 24
theorem sc_placeR : FnScope ["_law_one", "_law_two", "_law_four", "_law_number_so", "_law_a", "_law_b", "_law_c", "_law_d", "_law_held", "_law_n"] ["_law_one", "_law_two", "_law_four", "_law_number_so"] (defScope s_placeR) := ⟨rfl, rfl, rfl, by decide +kernel, rfl, by decide +kernel, by decide +kernel⟩
/-- an int of at most thirty digits -/
def Bd (z : Int) : Prop := -(10 ^ 30) < z ∧ z < 10 ^ 30
theorem Bd.abs {z : Int} (h : Bd z) : z.natAbs < 2 ^ 100 := by
  obtain ⟨x1, x2⟩ := h
  have e : (10 : Int) ^ 30 = 1000000000000000000000000000000 := rfl
  have e2 : (2 : Nat) ^ 100 = 1267650600228229401496703205376 := rfl
  omega
theorem sm_lin {z : Int} (h : z.natAbs < 2 ^ 110) : Sm z := Nat.lt_of_lt_of_le h (Nat.pow_le_pow_right (by decide) (by decide))
theorem sm_mul {x y : Int} (h1 : x.natAbs < 2 ^ 110) (h2 : y.natAbs < 2 ^ 110) : Sm (x * y) := by
  show (x * y).natAbs < 2 ^ 300
  rw [Int.natAbs_mul]
  refine Nat.lt_of_lt_of_le (Nat.mul_lt_mul_of_lt_of_lt h1 h2) ?_
  rw [← Nat.pow_add]
  exact Nat.pow_le_pow_right (by decide) (by decide)
theorem cm {x y : Int} (h1 : x.natAbs < 2 ^ 110) (h2 : y.natAbs < 2 ^ 110) : CMulW x y := Sm.mul h1 h2
theorem lin2 {x y : Int} (h1 : x.natAbs < 2 ^ 100) (h2 : y.natAbs < 2 ^ 100) : (x + y).natAbs < 2 ^ 110 ∧ (x - y).natAbs < 2 ^ 110 ∧ x.natAbs < 2 ^ 110 := by
  have e1 : (2 : Nat) ^ 100 = 1267650600228229401496703205376 := rfl
  have e2 : (2 : Nat) ^ 110 = 1298074214633706907132624082305024 := rfl
  exact ⟨by omega, by omega, by omega⟩
def spSigns (K : PySem.W.Frag) (C : Addr) : Sp := fun vs H Q _ => ∃ (p q t : Addr) (a b c d n : Int), vs = [.ref p, .ref q, .ref t, .int n] ∧ LineAt C H p a b ∧ LineAt C H q c d ∧ SqT K H t [.int a, .int b, .int c, .int d] ∧ Bd a ∧ Bd b ∧ Bd c ∧ Bd d ∧ Bd n ∧ ∀ H', Same H H' → Q (.bl true) H'
section
variable {P : Program} {w : World} {K : PySem.W.Frag} {mg : Str → Option Value} {base : Heap} {CLine CBadLine fBadLine : Addr}
theorem ok_signsR {f : Addr} {fd : FuncData} (F : Fun K "_law_signs_right" "_law_signs_right" s_signsR f fd) (T : LTx P K mg CLine CBadLine fBadLine) (D_is : DefG P w K mg base CX0 5 "_law_is" ["_law_line", "_law_rise", "_law_base"] (spIs CLine))
    (O_neg : CmpAt P w K mg base CX0 5 CLine "__neg__" ["self"] (spNeg CLine)) (O_add : CmpAt P w K mg base CX0 6 CLine "__add__" ["self", "other"] (spAdd CLine)) (O_sub : CmpAt P w K mg base CX0 7 CLine "__sub__" ["self", "other"] (spSub CLine)) (O_mul : CmpAt P w K mg base CX0 5 CLine "__mul__" ["self", "other"] (spMul CLine))
    (O_radd : CmpAt P w K mg base CX0 7 CLine "__radd__" ["self", "other"] (spAdd CLine)) (O_rsub : CmpAt P w K mg base CX0 8 CLine "__rsub__" ["self", "other"] (spRsub CLine)) (O_rmul : CmpAt P w K mg base CX0 6 CLine "__rmul__" ["self", "other"] (spMul CLine))
    (B_add : BinF K CLine (Operator.info .Add).2) (B_sub : BinF K CLine (Operator.info .Sub).2) (B_mul : BinF K CLine (Operator.info .Mult).2) (R_add : RefF K CLine (Operator.info .Add).2) (R_sub : RefF K CLine (Operator.info .Sub).2) (R_mul : RefF K CLine (Operator.info .Mult).2) : FnG P w K mg base CX0 9 f fd ["_law_one", "_law_two", "_law_four", "_law_number_so"] (spSigns K CLine) := by
  refine okG F sc_signsR (fun vs H Q E h => ?_) (fun cdv A outer s H vs Q E hf hgd hr h => ?_)
  · obtain ⟨p, q, t, a, b, c, d, n, rfl, _⟩ := h
    rfl
  · obtain ⟨p, q, t, a, b, c, d, n, rfl, hl, hl2, ht, ba, bb, bc, bd, bn, k⟩ := h
    refine ⟨_, (pss_cons (ps_asg (pv 2) (pg_tup rfl (pgs_cons (pg_name (i := 4) sc_signsR.nd rfl (Or.inl rfl)) (pgs_cons (pg_name (i := 5) sc_signsR.nd rfl (Or.inl rfl)) (pgs_cons (pg_name (i := 6) sc_signsR.nd rfl (Or.inl rfl)) (pgs_cons (pg_name (i := 7) sc_signsR.nd rfl (Or.inl rfl)) pgs_nil))))))
      (pss_cons (ps_set (i := 8) sc_signsR.nd rfl (Or.inl rfl) (pv 3))
      (pss_cons (ps_if (PW.pt (pw_or (pt_not (pt_val (My.pe_dG D_is hgd (hr.mono (by decide)) (by rfl) pass0 (pa_cons (pe_op (My.op_binO O_add B_add (hr.mono (by decide)) pass0) (pv 0) (pv 1)) (pa_cons (pe_op op_add (pv 4) (pv 6)) (pa_cons (pe_op op_add (pv 5) (pv 7)) pa_nil)))))) (pw_or1 (pt_not (pt_val (My.pe_dG D_is hgd (hr.mono (by decide)) (by rfl) pass0 (pa_cons (pe_op (My.op_binO O_sub B_sub (hr.mono (by decide)) pass0) (pv 0) (pv 1)) (pa_cons (pe_op op_sub (pv 4) (pv 6)) (pa_cons (pe_op op_sub (pv 5) (pv 7)) pa_nil))))))))) (pss_one (ps_ret pe_bl)) pss_nil)
      (pss_cons (ps_if (pt_not (pt_val (My.pe_dG D_is hgd (hr.mono (by decide)) (by rfl) pass0 (pa_cons (pe_un (My.un_negO O_neg (hr.mono (by decide)) pass0) (pv 0)) (pa_cons (pe_op op_sub pe_int (pv 4)) (pa_cons (pe_op op_sub pe_int (pv 5)) pa_nil)))))) (pss_one (ps_ret pe_bl)) pss_nil)
      (pss_cons (ps_if (PW.pt (pw_or (pt_not (pt_val (My.pe_dG D_is hgd (hr.mono (by decide)) (by rfl) pass0 (pa_cons (pe_op (My.op_binO O_add B_add (hr.mono (by decide)) pass0) (pv 0) (pv 8)) (pa_cons (pv 4) (pa_cons (pe_op op_add (pv 5) (pv 8)) pa_nil)))))) (pw_or1 (pt_not (pt_val (My.pe_dG D_is hgd (hr.mono (by decide)) (by rfl) pass0 (pa_cons (pe_op (My.op_binR O_radd My.is_add R_add (hr.mono (by decide)) pass0) (pv 8) (pv 0)) (pa_cons (pv 4) (pa_cons (pe_op op_add (pv 5) (pv 8)) pa_nil))))))))) (pss_one (ps_ret pe_bl)) pss_nil)
      (pss_cons (ps_if (PW.pt (pw_or (pt_not (pt_val (My.pe_dG D_is hgd (hr.mono (by decide)) (by rfl) pass0 (pa_cons (pe_op (My.op_binO O_sub B_sub (hr.mono (by decide)) pass0) (pv 0) (pv 8)) (pa_cons (pv 4) (pa_cons (pe_op op_sub (pv 5) (pv 8)) pa_nil)))))) (pw_or1 (pt_not (pt_val (My.pe_dG D_is hgd (hr.mono (by decide)) (by rfl) pass0 (pa_cons (pe_op (My.op_binR O_rsub My.is_sub R_sub (hr.mono (by decide)) pass0) (pv 8) (pv 0)) (pa_cons (pe_op op_sub pe_int (pv 4)) (pa_cons (pe_op op_sub (pv 8) (pv 5)) pa_nil))))))))) (pss_one (ps_ret pe_bl)) pss_nil)
      (pss_one (ps_ret (pe_and (My.pe_dG D_is hgd (hr.mono (by decide)) (by rfl) pass0 (pa_cons (pe_op (My.op_binO O_mul B_mul (hr.mono (by decide)) pass0) (pv 0) (pv 8)) (pa_cons (pe_op op_mulW (pv 4) (pv 8)) (pa_cons (pe_op op_mulW (pv 5) (pv 8)) pa_nil)))) (pe_one (My.pe_dG D_is hgd (hr.mono (by decide)) (by rfl) pass0 (pa_cons (pe_op (My.op_binR O_rmul My.is_mul R_mul (hr.mono (by decide)) pass0) (pv 8) (pv 0)) (pa_cons (pe_op op_mulW (pv 4) (pv 8)) (pa_cons (pe_op op_mulW (pv 5) (pv 8)) pa_nil)))))))))))))), ?_⟩
    obtain ⟨dp, ep⟩ := id hl
    obtain ⟨dq, eq⟩ := id hl2
    obtain ⟨ac1, ac2, a1⟩ := lin2 ba.abs bc.abs
    obtain ⟨bd1, bd2, b1⟩ := lin2 bb.abs bd.abs
    obtain ⟨bn1, bn2, _⟩ := lin2 bb.abs bn.abs
    obtain ⟨nb1, nb2, n1⟩ := lin2 bn.abs bb.abs
    have z0 : (0 : Int).natAbs < 2 ^ 100 := by decide
    obtain ⟨_, na, _⟩ := lin2 z0 ba.abs
    obtain ⟨_, nb, _⟩ := lin2 z0 bb.abs
    refine ⟨_, rfl, t, _, rfl, ht, rfl, _, _, rfl, _, _, rfl, _, _, rfl, _, _, rfl, rfl, ?_⟩
    refine ⟨_, rfl, ?_⟩
    have s0 : Same H H := fun _ _ e => e
    refine ⟨_, rfl, _, rfl, p, dp, _, rfl, s0 _ _ ep, .inl ⟨q, dq, _, rfl, s0 _ _ eq⟩, p, a, b, _, c, d, rfl, hl.same s0, .inl ⟨q, rfl, hl2.same s0⟩, fun r0 H0x l1 u0 => ?_⟩
    refine ⟨_, rfl, _, rfl, _, _, rfl, rfl, _, rfl, _, rfl, _, _, rfl, rfl, r0, _, _, rfl, l1, sm_lin ac1, sm_lin bd1, fun H0y v0 => ?_⟩
    have s1 := (s0.trans u0).trans v0
    refine ⟨_, rfl, iteF ?_⟩
    refine ⟨_, rfl, _, rfl, p, dp, _, rfl, s1 _ _ ep, .inl ⟨q, dq, _, rfl, s1 _ _ eq⟩, p, a, b, _, c, d, rfl, hl.same s1, .inl ⟨q, rfl, hl2.same s1⟩, fun r1 H1x l1 u1 => ?_⟩
    refine ⟨_, rfl, _, rfl, _, _, rfl, rfl, _, rfl, _, rfl, _, _, rfl, rfl, r1, _, _, rfl, l1, sm_lin ac2, sm_lin bd2, fun H1y v1 => ?_⟩
    have s2 := (s1.trans u1).trans v1
    refine ⟨_, rfl, iteF ?_⟩
    refine ⟨_, rfl, p, dp, _, rfl, s2 _ _ ep, p, a, b, rfl, hl.same s2, fun r2 H2x l1 u2 => ?_⟩
    refine ⟨_, rfl, _, _, rfl, rfl, _, rfl, _, _, rfl, rfl, r2, _, _, rfl, l1, sm_lin na, sm_lin nb, fun H2y v2 => ?_⟩
    have s3 := (s2.trans u2).trans v2
    refine ⟨_, rfl, iteF ?_⟩
    refine ⟨_, rfl, _, rfl, p, dp, _, rfl, s3 _ _ ep, .inr ⟨n, rfl⟩, p, a, b, _, 0, n, rfl, hl.same s3, .inr ⟨rfl, rfl⟩, fun r3 H3x l1 u3 => ?_⟩
    rw [Int.add_zero] at l1
    refine ⟨_, rfl, _, rfl, _, rfl, _, _, rfl, rfl, r3, _, _, rfl, l1, sm_lin a1, sm_lin bn1, fun H3y v3 => ?_⟩
    have s4 := (s3.trans u3).trans v3
    refine ⟨_, rfl, iteF ?_⟩
    refine ⟨_, rfl, _, rfl, n, p, dp, _, rfl, rfl, s4 _ _ ep, p, a, b, _, 0, n, rfl, hl.same s4, .inr ⟨rfl, rfl⟩, fun r4 H4x l1 u4 => ?_⟩
    rw [Int.add_zero] at l1
    refine ⟨_, rfl, _, rfl, _, rfl, _, _, rfl, rfl, r4, _, _, rfl, l1, sm_lin a1, sm_lin bn1, fun H4y v4 => ?_⟩
    have s5 := (s4.trans u4).trans v4
    refine ⟨_, rfl, iteF ?_⟩
    refine ⟨_, rfl, _, rfl, p, dp, _, rfl, s5 _ _ ep, .inr ⟨n, rfl⟩, p, a, b, _, 0, n, rfl, hl.same s5, .inr ⟨rfl, rfl⟩, fun r5 H5x l1 u5 => ?_⟩
    rw [Int.sub_zero] at l1
    refine ⟨_, rfl, _, rfl, _, rfl, _, _, rfl, rfl, r5, _, _, rfl, l1, sm_lin a1, sm_lin bn2, fun H5y v5 => ?_⟩
    have s6 := (s5.trans u5).trans v5
    refine ⟨_, rfl, iteF ?_⟩
    refine ⟨_, rfl, _, rfl, n, p, dp, _, rfl, rfl, s6 _ _ ep, p, a, b, _, 0, n, rfl, hl.same s6, .inr ⟨rfl, rfl⟩, fun r6 H6x l1 u6 => ?_⟩
    refine ⟨_, rfl, _, _, rfl, rfl, _, rfl, _, rfl, _, _, rfl, rfl, r6, _, _, rfl, l1, sm_lin na, sm_lin nb2, fun H6y v6 => ?_⟩
    have s7 := (s6.trans u6).trans v6
    refine ⟨_, rfl, iteF ?_⟩
    refine ⟨_, rfl, _, rfl, p, dp, _, rfl, s7 _ _ ep, .inr ⟨n, rfl⟩, p, a, b, n, rfl, hl.same s7, cm a1 n1, cm b1 n1, fun r7 H7x l1 u7 => ?_⟩
    refine ⟨_, rfl, _, rfl, _, _, rfl, rfl, cm a1 n1, _, rfl, _, rfl, _, _, rfl, rfl, cm b1 n1, r7, _, _, rfl, l1, sm_mul a1 n1, sm_mul b1 n1, fun H7y v7 => ?_⟩
    have s8 := (s7.trans u7).trans v7
    refine ⟨_, rfl, iteT ?_⟩
    refine ⟨_, rfl, _, rfl, n, p, dp, _, rfl, rfl, s8 _ _ ep, p, a, b, n, rfl, hl.same s8, cm a1 n1, cm b1 n1, fun r8 H8x l1 u8 => ?_⟩
    refine ⟨_, rfl, _, rfl, _, _, rfl, rfl, cm a1 n1, _, rfl, _, rfl, _, _, rfl, rfl, cm b1 n1, r8, _, _, rfl, l1, sm_mul a1 n1, sm_mul b1 n1, fun H8y v8 => ?_⟩
    have s9 := (s8.trans u8).trans v8
    exact k _ s9
end
end My
namespace My
open PySem PySem.Spec PyProof.Rows L2
section
variable {P : Program} {w : World} {K : PySem.W.Frag} {mg : Str → Option Value} {base : Heap} {CLine CBadLine fBadLine : Addr}
theorem lin3 {x y z : Int} (h1 : x.natAbs < 2 ^ 100) (h2 : y.natAbs < 2 ^ 100) (h3 : z.natAbs < 2 ^ 100) : (x + y - z).natAbs < 2 ^ 110 := by
  have e1 : (2 : Nat) ^ 100 = 1267650600228229401496703205376 := rfl
  have e2 : (2 : Nat) ^ 110 = 1298074214633706907132624082305024 := rfl
  omega
theorem ok_placeR {f : Addr} {fd : FuncData} (F : Fun K "_law_in_place_right" "_law_in_place_right" s_placeR f fd) (T : LTx P K mg CLine CBadLine fBadLine) (D_is : DefG P w K mg base CX0 5 "_law_is" ["_law_line", "_law_rise", "_law_base"] (spIs CLine))
    (O_add : CmpAt P w K mg base CX0 6 CLine "__add__" ["self", "other"] (spAdd CLine)) (O_sub : CmpAt P w K mg base CX0 7 CLine "__sub__" ["self", "other"] (spSub CLine)) (O_mul : CmpAt P w K mg base CX0 5 CLine "__mul__" ["self", "other"] (spMul CLine))
    (B_add : BinF K CLine (Operator.info .Add).2) (B_sub : BinF K CLine (Operator.info .Sub).2) (B_mul : BinF K CLine (Operator.info .Mult).2) (N_add : InpF K CLine (Operator.info .Add).2) (N_sub : InpF K CLine (Operator.info .Sub).2) (N_mul : InpF K CLine (Operator.info .Mult).2) : FnG P w K mg base CX0 9 f fd ["_law_one", "_law_two", "_law_four", "_law_number_so"] (spSigns K CLine) := by
  refine okG F sc_placeR (fun vs H Q E h => ?_) (fun cdv A outer s H vs Q E hf hgd hr h => ?_)
  · obtain ⟨p, q, t, a, b, c, d, n, rfl, _⟩ := h
    rfl
  · obtain ⟨p, q, t, a, b, c, d, n, rfl, hl, hl2, ht, ba, bb, bc, bd, bn, k⟩ := h
    refine ⟨_, (pss_cons (ps_asg (pv 2) (pg_tup rfl (pgs_cons (pg_name (i := 4) sc_placeR.nd rfl (Or.inl rfl)) (pgs_cons (pg_name (i := 5) sc_placeR.nd rfl (Or.inl rfl)) (pgs_cons (pg_name (i := 6) sc_placeR.nd rfl (Or.inl rfl)) (pgs_cons (pg_name (i := 7) sc_placeR.nd rfl (Or.inl rfl)) pgs_nil))))))
      (pss_cons (ps_par (i := 8) (j := 9) (by rfl) sc_placeR.nd rfl rfl (by decide) rfl rfl (pa_cons (pv 0) (pa_cons (pv 3) pa_nil)) (by rfl))
      (pss_cons (ps_aug (i := 8) sc_placeR.nd rfl (Or.inl rfl) (pv 1) (My.iop_O O_add B_add N_add (hr.mono (by decide)) pass0) (Or.inr rfl))
      (pss_cons (ps_if (pt_not (pt_val (My.pe_dG D_is hgd (hr.mono (by decide)) (by rfl) pass0 (pa_cons (pv 8) (pa_cons (pe_op op_add (pv 4) (pv 6)) (pa_cons (pe_op op_add (pv 5) (pv 7)) pa_nil)))))) (pss_one (ps_ret pe_bl)) pss_nil)
      (pss_cons (ps_aug (i := 8) sc_placeR.nd rfl (Or.inl rfl) (pv 9) (My.iop_O O_sub B_sub N_sub (hr.mono (by decide)) pass0) (Or.inr rfl))
      (pss_cons (ps_if (pt_not (pt_val (My.pe_dG D_is hgd (hr.mono (by decide)) (by rfl) pass0 (pa_cons (pv 8) (pa_cons (pe_op op_add (pv 4) (pv 6)) (pa_cons (pe_op op_sub (pe_op op_add (pv 5) (pv 7)) (pv 9)) pa_nil)))))) (pss_one (ps_ret pe_bl)) pss_nil)
      (pss_cons (ps_aug (i := 8) sc_placeR.nd rfl (Or.inl rfl) (pv 9) (My.iop_O O_mul B_mul N_mul (hr.mono (by decide)) pass0) (Or.inr rfl))
      (pss_cons (ps_if (PW.pt (pw_or (pt_not (pt_val (My.pe_dG D_is hgd (hr.mono (by decide)) (by rfl) pass0 (pa_cons (pv 0) (pa_cons (pv 4) (pa_cons (pv 5) pa_nil)))))) (pw_or1 (pt_not (pt_val (My.pe_dG D_is hgd (hr.mono (by decide)) (by rfl) pass0 (pa_cons (pv 1) (pa_cons (pv 6) (pa_cons (pv 7) pa_nil))))))))) (pss_one (ps_ret pe_bl)) pss_nil)
      (pss_one (ps_ret (My.pe_dG D_is hgd (hr.mono (by decide)) (by rfl) pass0 (pa_cons (pv 8) (pa_cons (pe_op op_mulW (pe_op op_add (pv 4) (pv 6)) (pv 9)) (pa_cons (pe_op op_mulW (pe_op op_sub (pe_op op_add (pv 5) (pv 7)) (pv 9)) (pv 9)) pa_nil)))))))))))))), ?_⟩
    obtain ⟨dp, ep⟩ := id hl
    obtain ⟨dq, eq⟩ := id hl2
    obtain ⟨ac1, _, a1⟩ := lin2 ba.abs bc.abs
    obtain ⟨bd1, _, b1⟩ := lin2 bb.abs bd.abs
    obtain ⟨_, _, c1⟩ := lin2 bc.abs bd.abs
    obtain ⟨_, _, d1⟩ := lin2 bd.abs bd.abs
    obtain ⟨_, _, n1⟩ := lin2 bn.abs bb.abs
    have bdn := lin3 bb.abs bd.abs bn.abs
    refine ⟨_, rfl, t, _, rfl, ht, rfl, _, _, rfl, _, _, rfl, _, _, rfl, _, _, rfl, rfl, ?_⟩
    refine ⟨_, rfl, _, rfl, _, _, rfl, ?_⟩
    refine ⟨_, rfl, _, rfl, p, dp, _, rfl, ep, .inl ⟨q, dq, _, rfl, eq⟩, p, a, b, _, c, d, rfl, hl, .inl ⟨q, rfl, hl2⟩, fun r1 H1 l1 s1 => ?_⟩
    obtain ⟨d1', e1⟩ := id l1
    refine ⟨_, rfl, _, rfl, _, rfl, _, _, rfl, rfl, _, rfl, _, rfl, _, _, rfl, rfl, r1, _, _, rfl, l1, sm_lin ac1, sm_lin bd1, fun H2 s2 => ⟨_, rfl, iteF ?_⟩⟩
    refine ⟨_, rfl, _, rfl, r1, d1', _, rfl, s2 _ _ e1, .inr ⟨n, rfl⟩, r1, _, _, _, 0, n, rfl, l1.same s2, .inr ⟨rfl, rfl⟩, fun r2 H3 l3 s3 => ?_⟩
    rw [Int.sub_zero] at l3
    obtain ⟨d3, e3⟩ := id l3
    refine ⟨_, rfl, _, rfl, _, rfl, _, _, rfl, rfl, _, rfl, _, rfl, _, _, rfl, rfl, _, rfl, _, _, rfl, rfl, r2, _, _, rfl, l3, sm_lin ac1, sm_lin bdn, fun H4 s4 => ⟨_, rfl, iteF ?_⟩⟩
    refine ⟨_, rfl, _, rfl, r2, d3, _, rfl, s4 _ _ e3, .inr ⟨n, rfl⟩, r2, _, _, n, rfl, l3.same s4, cm ac1 n1, cm bdn n1, fun r3 H5 l5 s5 => ?_⟩
    have S5 := (((s1.trans s2).trans s3).trans s4).trans s5
    refine ⟨_, rfl, _, rfl, _, rfl, p, a, b, rfl, hl.same S5, sm_lin a1, sm_lin b1, fun H6 s6 => ⟨_, rfl, iteF ?_⟩⟩
    have S6 := S5.trans s6
    refine ⟨_, rfl, _, rfl, _, rfl, q, c, d, rfl, hl2.same S6, sm_lin c1, sm_lin d1, fun H7 s7 => ⟨_, rfl, iteF ?_⟩⟩
    refine ⟨_, rfl, _, rfl, _, rfl, _, _, rfl, rfl, _, rfl, _, _, rfl, rfl, cm ac1 n1, _, rfl, _, rfl, _, _, rfl, rfl, _, rfl, _, _, rfl, rfl, _, rfl, _, _, rfl, rfl, cm bdn n1, r3, _, _, rfl, (l5.same s6).same s7, sm_mul ac1 n1, sm_mul bdn n1, fun H8 s8 => k _ ((S6.trans s7).trans s8)⟩
end
end My
namespace My
open PySem PySem.Spec PyProof.Rows L2
abbrev s_equalR : Stmt := topS 25
theorem sc_equalR : FnScope ["_law_one", "_law_two", "_law_four", "_law_a", "_law_b", "_law_c", "_law_d", "_law_same", "_law_odd"] ["_law_one", "_law_two", "_law_four"] (defScope s_equalR) := ⟨rfl, rfl, rfl, by decide +kernel, rfl, by decide +kernel, by decide +kernel⟩
def spEqs (K : PySem.W.Frag) (C : Addr) : Sp := spOr (spEq C) (spEqX K C)
/-- values of these kinds are no lines -/
def Kinds (K : PySem.W.Frag) (C : Addr) : Prop := ∀ t ∈ ["int", "tuple", "NoneType", "str", "list", "bool"], PySem.W.kitOne K (.type t) (.ref C) = some false ∧ PySem.W.notFirst K C (.type t) = true
def spEqual (K : PySem.W.Frag) (C : Addr) : Sp := fun vs H Q _ => ∃ (p q t : Addr) (a b c d : Int), vs = [.ref p, .ref q, .ref t] ∧ LineAt C H p a b ∧ LineAt C H q c d ∧ SqT K H t [.int a, .int b, .int c, .int d] ∧ Bd a ∧ Bd b ∧ Bd c ∧ Bd d ∧ ∀ H', Same H H' → Q (.bl true) H'
theorem andV_eq {σ : L2.St} {H : Hp} {Q : VK} {a b c d : Int} {i j m n : Nat} (h1 : σ[i]? = some (some (.int a))) (h2 : σ[j]? = some (some (.int c))) (h3 : σ[m]? = some (some (.int b))) (h4 : σ[n]? = some (some (.int d))) (k : Q (.bl (decide (a = c ∧ b = d))) H) : tAndV (tOp rEq (tVar i) (tVar j)) (tOp rEq (tVar m) (tVar n)) σ H Q := by
  refine ⟨_, h1, _, h2, rfl, _, rfl, ?_⟩
  refine ite2 (fun g => ?_) (fun g => ?_)
  · have e : a = c := V.int.inj (of_decide_eq_true g)
    refine ⟨_, h3, _, h4, rfl, ?_⟩
    have e2 : decide (V.int b = V.int d) = decide (a = c ∧ b = d) := decide_eq_decide.mpr ⟨fun z => ⟨e, V.int.inj z⟩, fun z => congrArg V.int z.2⟩
    rw [e2]
    exact k
  · have e : ¬ a = c := fun z => g (decide_eq_true (by rw [z]))
    rw [decide_eq_false (fun z => e z.1)] at k
    exact k
def four (b1 b2 b3 b4 : Bool) : PyData := .list [.bool b1, .bool b2, .bool b3, .bool b4]
theorem four_ok (b1 b2 b3 b4 : Bool) : SeqAt.shaped (four b1 b2 b3 b4) = true ∧ PyData.eqv (four b1 b2 b3 b4) (four b1 b2 b3 b4) = true := by
  cases b1 <;> cases b2 <;> cases b3 <;> cases b4 <;> exact ⟨by decide +kernel, by decide +kernel⟩
theorem four_at {K : PySem.W.Frag} {H : Hp} {l : Addr} {b1 b2 b3 b4 : Bool} (h : H l = some (.lst [.bl b1, .bl b2, .bl b3, .bl b4])) : Dp K H (.ref l) (four b1 b2 b3 b4) := .lst (SqL.of h) (.cons (.bl _) (.cons (.bl _) (.cons (.bl _) (.cons (.bl _) .nil))))
def eight : PyData := .list [.bool false, .bool false, .bool false, .bool false, .bool false, .bool false, .bool false, .bool false]
theorem eight_at {K : PySem.W.Frag} {H : Hp} {l : Addr} (h : H l = some (.lst [.bl false, .bl false, .bl false, .bl false, .bl false, .bl false, .bl false, .bl false])) : Dp K H (.ref l) eight := .lst (SqL.of h) (.cons (.bl _) (.cons (.bl _) (.cons (.bl _) (.cons (.bl _) (.cons (.bl _) (.cons (.bl _) (.cons (.bl _) (.cons (.bl _) .nil))))))))
section
variable {P : Program} {w : World} {K : PySem.W.Frag} {mg : Str → Option Value} {base : Heap} {CLine CBadLine fBadLine : Addr}
theorem ok_equalR {f : Addr} {fd : FuncData} (F : Fun K "_law_equal_right" "_law_equal_right" s_equalR f fd) (T : LTx P K mg CLine CBadLine fBadLine) (ne0 : PySem.W.findIn K (.ref CLine) "__ne__" = some (some (.builtin "object.__ne__"))) (sf : PySem.W.notFirst K CLine (.ref CLine) = true) (kn : Kinds K CLine)
    (M_Line : MakeAt P w K mg base (L2.CX P w) 3 "Line" CLine ["self", "slope", "more"] (spInit CLine CBadLine) []) (ST_str : CmpAt P w K mg base CX0 2 CLine "__str__" ["self"] (spStr CLine)) (CE_eq : CmpAt P w K mg base CX0 2 CLine "__eq__" ["self", "other"] (spEqs K CLine)) : FnOk P w K mg base CX0 5 f fd ["_law_one", "_law_two", "_law_four"] (spEqual K CLine) := by
  refine F.ok sc_equalR (fun vs H Q E h => ?_) (fun cdv A outer s H vs Q E hr h => ?_)
  · obtain ⟨p, q, t, a, b, c, d, rfl, _⟩ := h
    rfl
  · obtain ⟨p, q, t, a, b, c, d, rfl, hl, hl2, ht, ba, bb, bc, bd, k⟩ := h
    refine ⟨_, (pss_cons (ps_asg (pv 2) (pg_tup rfl (pgs_cons (pg_name (i := 3) sc_equalR.nd rfl (Or.inl rfl)) (pgs_cons (pg_name (i := 4) sc_equalR.nd rfl (Or.inl rfl)) (pgs_cons (pg_name (i := 5) sc_equalR.nd rfl (Or.inl rfl)) (pgs_cons (pg_name (i := 6) sc_equalR.nd rfl (Or.inl rfl)) pgs_nil))))))
      (pss_cons (ps_set (i := 7) sc_equalR.nd rfl (Or.inl rfl) (pe_and (pe_cmpR op_eq (pv 3) (pv 5) (nomark _)) (pe_one (pe_cmpR op_eq (pv 4) (pv 6) (nomark _)))))
      (pss_cons (ps_if (pt_cmpR (op_neD hr.units) (pe_lst (pa_cons (pe_cmpR (My.op_cmpO CE_eq (hr.mono (by decide)) pass0) (pv 0) (pv 1) (nomark _)) (pa_cons (pe_cmpR (My.op_neO CE_eq T.hm ne0 (hr.mono (by decide)) pass0) (pv 0) (pv 1) (nomark _)) (pa_cons (pe_cmpR (My.op_cmpO CE_eq (hr.mono (by decide)) pass0) (pv 0) (My.pe_mk M_Line (hr.mono (by decide)) (by rfl) passL (pa_cons (pv 3) (pa_cons (pv 4) pa_nil))) (nomark _)) (pa_cons (pe_cmpR (My.op_neO CE_eq T.hm ne0 (hr.mono (by decide)) pass0) (pv 0) (My.pe_mk M_Line (hr.mono (by decide)) (by rfl) passL (pa_cons (pv 3) (pa_cons (pv 4) pa_nil))) (nomark _)) pa_nil))))) (pe_lst (pa_cons (pv 7) (pa_cons (pe_not (pv 7)) (pa_cons pe_bl (pa_cons pe_bl pa_nil))))) (nomark _)) (pss_one (ps_ret pe_bl)) pss_nil)
      (pss_cons (ps_set (i := 8) sc_equalR.nd rfl (Or.inl rfl) (pe_lst (pa_cons (pe_cmpR (My.op_cmpO CE_eq (hr.mono (by decide)) pass0) (pv 0) (pv 4) (nomark _)) (pa_cons (pe_cmpR (My.op_cmpO CE_eq (hr.mono (by decide)) pass0) (pv 0) (pe_tup (pa_cons (pv 3) (pa_cons (pv 4) pa_nil))) (nomark _)) (pa_cons (pe_cmpR (My.op_cmpO CE_eq (hr.mono (by decide)) pass0) (pv 0) pe_non (nomark _)) (pa_cons (pe_cmpR (My.op_cmpO CE_eq (hr.mono (by decide)) pass0) (pv 0) (pe_callTy (My.call_strO ST_str (hr.mono (by decide)) pass0) (by rfl) T.z_str boot_str (pa_cons (pv 0) pa_nil)) (nomark _)) (pa_cons (pe_cmpR (My.op_cmpO CE_eq (hr.mono (by decide)) pass0) (pv 0) (pe_lst (pa_cons (pv 3) (pa_cons (pv 4) pa_nil))) (nomark _)) (pa_cons (pe_cmpR (My.op_cmpO CE_eq (hr.mono (by decide)) pass0) (pv 0) pe_bl (nomark _)) pa_nil))))))))
      (pss_cons (ps_set (i := 8) sc_equalR.nd rfl (Or.inl rfl) (pe_op op_cat (pv 8) (pe_lst (pa_cons (pe_cmpR (My.op_cmpO CE_eq (hr.mono (by decide)) pass0) (pv 0) (My.pe_mk M_Line (hr.mono (by decide)) (by rfl) passL (pa_cons (pv 3) (pa_cons (pe_op op_add (pv 4) pe_int) pa_nil))) (nomark _)) (pa_cons (pe_cmpR (My.op_cmpO CE_eq (hr.mono (by decide)) pass0) (pv 0) (My.pe_mk M_Line (hr.mono (by decide)) (by rfl) passL (pa_cons (pe_op op_add (pv 3) pe_int) (pa_cons (pv 4) pa_nil))) (nomark _)) pa_nil)))))
      (pss_one (ps_ret (pe_cmpR (op_eqD hr.units) (pv 8) (pe_op op_rep (pe_lst (pa_cons pe_bl pa_nil)) pe_int) (nomark _))))))))), ?_⟩
    obtain ⟨dp, ep⟩ := id hl
    obtain ⟨dq, eq⟩ := id hl2
    refine ⟨_, rfl, t, _, rfl, ht, rfl, _, _, rfl, _, _, rfl, _, _, rfl, _, _, rfl, rfl, ?_⟩
    refine andV_eq rfl rfl rfl rfl ?_
    have tq : ∀ {Hx : Hp} {x : Addr} {u v : Int}, LineAt CLine Hx x u v → TyX K Hx (.ref x) (.ref CLine) := fun h => by
      obtain ⟨dx, e⟩ := h
      exact .base (.ins e T.cl T.ha T.hn T.ht T.hm)
    have tt : decide (a = a ∧ b = b) = true := decide_eq_true ⟨rfl, rfl⟩
    refine ⟨_, rfl, _, rfl, p, dp, _, _, rfl, ep, tq hl2, sf, .inl ⟨p, q, a, b, c, d, rfl, hl, hl2, fun H1 s1 => ?_⟩⟩
    refine ⟨_, rfl, _, rfl, p, dp, _, _, rfl, s1 _ _ ep, tq (hl2.same s1), sf, .inl ⟨p, q, a, b, c, d, rfl, hl.same s1, hl2.same s1, fun H2 s2 => ⟨_, rfl, ?_⟩⟩⟩
    have s2 := s1.trans s2
    refine ⟨_, rfl, _, rfl, _, rfl, fun x dx hx hd ne => init_at hx hd ne fun H3 l3 s3 => ?_⟩
    have s3 := s2.trans s3
    refine ⟨p, dp, _, _, rfl, s3 _ _ ep, tq l3, sf, .inl ⟨p, x, a, b, a, b, rfl, hl.same s3, l3, fun H4 s4 => ?_⟩⟩
    have s4 := s3.trans s4
    refine ⟨_, rfl, _, rfl, _, rfl, fun x2 dx2 hx2 hd2 ne2 => init_at hx2 hd2 ne2 fun H5 l5 s5 => ?_⟩
    have s5 := s4.trans s5
    refine ⟨p, dp, _, _, rfl, s5 _ _ ep, tq l5, sf, .inl ⟨p, x2, a, b, a, b, rfl, hl.same s5, l5, fun H6 s6 => ⟨_, rfl, ?_⟩⟩⟩
    have s6 := s5.trans s6
    rw [tt]
    refine ⟨(by show 4 ≤ sizeLine; decide), fun l7 h7 => ?_⟩
    refine ⟨_, rfl, _, rfl, _, rfl, (by show 4 ≤ sizeLine; decide), fun l8 h8 => ?_⟩
    obtain ⟨f1, f2⟩ := four_ok (decide (a = c ∧ b = d)) (!decide (a = c ∧ b = d)) true false
    refine ⟨_, _, four_at (b1 := decide (a = c ∧ b = d)) (b2 := !decide (a = c ∧ b = d)) (b3 := true) (b4 := false) (same_new h8 _ _ upd_same), four_at (b1 := decide (a = c ∧ b = d)) (b2 := !decide (a = c ∧ b = d)) (b3 := true) (b4 := false) upd_same, f1, f1, _, rfl, ?_⟩
    rw [f2]
    refine iteF ?_
    have s8 := (s6.trans (same_new (o := .lst [.bl (decide (a = c ∧ b = d)), .bl (!decide (a = c ∧ b = d)), .bl true, .bl (!true)]) h7)).trans (same_new (o := .lst [.bl (decide (a = c ∧ b = d)), .bl (!decide (a = c ∧ b = d)), .bl true, .bl false]) h8)
    generalize (upd (upd H6 l7 _) l8 _) = H8 at s8
    have go : ∀ {Hx : Hp} {v : V} {t : String} {Q' : VK}, Same H Hx → Ty0 Hx v t → t ∈ ["int", "tuple", "NoneType", "str", "list", "bool"] → Q' (.bl false) Hx → rCmpO K CLine (spEqs K CLine) E0 (.ref p) v Hx Q' := fun sx ty mt kq =>
      ⟨p, dp, _, _, rfl, sx _ _ ep, ty.tyx, (kn _ mt).2, .inr ⟨p, a, b, _, _, rfl, hl.same sx, ty, (kn _ mt).1, kq⟩⟩
    refine ⟨_, rfl, _, rfl, go s8 (.int b) (.head _) ?_⟩
    refine ⟨_, rfl, _, rfl, _, rfl, (by show 2 ≤ sizeLine; decide), fun t9 h9 => ?_⟩
    have s9 := s8.trans (same_new (o := .tup [.int a, .int b]) h9)
    refine go s9 (.tup upd_same) (.tail _ (.head _)) ?_
    refine ⟨_, rfl, go s9 .non (.tail _ (.tail _ (.head _))) ?_⟩
    refine ⟨_, rfl, _, rfl, p, dp, _, rfl, s9 _ _ ep, p, a, b, rfl, hl.same s9, (sm_lin (lin2 ba.abs ba.abs).2.2).log, (sm_lin (lin2 bb.abs bb.abs).2.2).log, fun H10 s10 => ⟨_, rfl, ?_⟩⟩
    have s10 := s9.trans s10
    refine go s10 (.str _) (.tail _ (.tail _ (.tail _ (.head _)))) ?_
    refine ⟨_, rfl, _, rfl, _, rfl, (by show 2 ≤ sizeLine; decide), fun l11 h11 => ?_⟩
    have s11 := s10.trans (same_new (o := .lst [.int a, .int b]) h11)
    refine go s11 (.lst upd_same) (.tail _ (.tail _ (.tail _ (.tail _ (.head _))))) ?_
    refine ⟨_, rfl, go s11 (.bl true) (.tail _ (.tail _ (.tail _ (.tail _ (.tail _ (.head _)))))) ?_⟩
    refine ⟨(by show 6 ≤ sizeLine; decide), fun l12 h12 => ?_⟩
    have s12 := s11.trans (same_new (o := .lst [.bl false, .bl false, .bl false, .bl false, .bl false, .bl false]) h12)
    have w12 : (upd (upd H10 l11 (.lst [.int a, .int b])) l12 (.lst [.bl false, .bl false, .bl false, .bl false, .bl false, .bl false])) l12 = some (.lst [.bl false, .bl false, .bl false, .bl false, .bl false, .bl false]) := upd_same
    generalize (upd (upd H10 l11 (.lst [.int a, .int b])) l12 (.lst [.bl false, .bl false, .bl false, .bl false, .bl false, .bl false])) = H12 at s12 w12
    refine ⟨_, rfl, _, rfl, _, rfl, _, rfl, _, _, rfl, rfl, fun x dx hx hd ne => init_at hx hd ne fun H13 l13 s13 => ?_⟩
    have s13' := s12.trans s13
    refine ⟨p, dp, _, _, rfl, s13' _ _ ep, tq l13, sf, .inl ⟨p, x, a, b, a, b + 1, rfl, hl.same s13', l13, fun H14 s14 => ?_⟩⟩
    have s14' := s13'.trans s14
    refine ⟨_, rfl, _, rfl, _, _, rfl, rfl, _, rfl, fun x2 dx2 hx2 hd2 ne2 => init_at hx2 hd2 ne2 fun H15 l15 s15 => ?_⟩
    have s15' := s14'.trans s15
    refine ⟨p, dp, _, _, rfl, s15' _ _ ep, tq l15, sf, .inl ⟨p, x2, a, b, a + 1, b, rfl, hl.same s15', l15, fun H16 s16 => ?_⟩⟩
    have s16' := s15'.trans s16
    rw [decide_eq_false (show ¬ (a = a ∧ b = b + 1) by omega), decide_eq_false (show ¬ (a = a + 1 ∧ b = b) by omega)]
    refine ⟨(by show 2 ≤ sizeLine; decide), fun l17 h17 => ?_⟩
    have w16 := s16 _ _ (s15 _ _ (s14 _ _ (s13 _ _ w12)))
    refine ⟨l12, l17, _, _, rfl, rfl, same_new h17 _ _ w16, upd_same, (by show 6 + 2 ≤ sizeLine; decide), fun l18 h18 => ?_⟩
    refine ⟨_, rfl, (by show 1 ≤ sizeLine; decide), fun l19 h19 => ⟨l19, 8, _, rfl, rfl, upd_same, by decide, by decide, (by show 1 * 8 ≤ sizeLine; decide), fun l20 h20 => ?_⟩⟩
    refine ⟨eight, eight, eight_at (same_new h20 _ _ (same_new h19 _ _ upd_same)), eight_at upd_same, by decide +kernel, by decide +kernel, ?_⟩
    rw [show PyData.eqv eight eight = true by decide +kernel]
    exact k _ ((((s16'.trans (same_new h17)).trans (same_new h18)).trans (same_new h19)).trans (same_new h20))
end
end My
namespace My
open PySem PySem.Spec PyProof.Rows L2
abbrev s_refusedR : Stmt := topS 26
theorem sc_refusedR : FnScope ["_law_pen_here", "_law_one", "_law_odd", "_law_also", "_law_heard_here", "_law_wrong", "_law_four"] ["_law_pen_here", "_law_one"] (defScope s_refusedR) := ⟨rfl, rfl, rfl, by decide +kernel, rfl, by decide +kernel, by decide +kernel⟩
theorem ty_ext {H H' : Hp} {v : V} {t : String} (h : Ty0 H v t) (k : LamX.ExtN H H') : Ty0 H' v t := by
  cases h with
  | non => exact .non
  | bl b => exact .bl b
  | int i => exact .int i
  | str x => exact .str x
  | lst e => exact .lst (k _ _ e (by intro ps z; cases z))
  | tup e => exact .tup (k _ _ e (by intro ps z; cases z))
  | dK e => exact .dK (k _ _ e (by intro ps z; cases z))
theorem ext_same {H H' : Hp} (s : Same H H') : LamX.ExtN H H' := fun b o h _ => s b o h
theorem ext_put {Ha Hx : Hp} {lh : Addr} {o : HO} (n : Ha lh = none) (x : LamX.ExtN Ha Hx) : LamX.ExtN Ha (upd Hx lh o) := fun b u e m => by
  rw [upd_ne (ne_of_none e n)]
  exact x b u e m
theorem tabs_put {TS : List (Addr × Str)} {H : Hp} {lh : Addr} {xs : List V} {o : HO} (t : LamX.Tabs TS H) (h : H lh = some (.lst xs)) : LamX.Tabs TS (upd H lh o) := fun p hp => by
  obtain ⟨ps, h1, h2, h3⟩ := t p hp
  refine ⟨ps, by rw [upd_ne (ne_of h1 h (by intro z; cases z))]; exact h1, h2, fun pos cv hc => ?_⟩
  obtain ⟨c, e1, e2⟩ := h3 pos cv hc
  exact ⟨c, e1, by rw [upd_ne (ne_of e2 h (by intro z; unfold LamX.CodeO at z; cases z))]; exact e2⟩
theorem TyL.ext {C : Addr} {H H' : Hp} {v : V} (h : TyL C H v) (k : LamX.ExtN H H') : TyL C H' v := by
  rcases h with ⟨t, h⟩ | ⟨a, dx, fs, e, h⟩
  · exact .inl ⟨t, ty_ext h k⟩
  · exact .inr ⟨a, dx, fs, e, k _ _ h (by intro ps z; cases z)⟩
/-- a new line that is refused -/
theorem mk_ref {C CB : Addr} {H : Hp} {sv mv : V} {part : Str} {Q : VK} {R : Addr → Hp → Prop} (ts : TyL C H sv) (tm : TyL C H mv) (h : (isI sv = false ∧ part = "slope") ∨ (isI sv = true ∧ isI mv = false ∧ part = "more")) (k : ∀ t H', H t = none → Same H H' → H' t = some (.tup [.str "part", .str part]) → Q (.ref t) H')
    (x dx : Addr) (hx : H x = none) (hd : H dx = none) (ne : dx ≠ x) : spInit C CB [.ref x, sv, mv] (upd (upd H dx (.own x)) x (.ins C dx [])) (fun v H2 => v = .non ∧ R x H2) (WHeard CB Q) := by
  have s0 : Same H (upd (upd H dx (.own x)) x (.ins C dx [])) := fun b o e => by
    rw [upd_ne (ne_of_none e hx), upd_ne (ne_of_none e hd)]
    exact e
  refine ⟨x, dx, sv, mv, rfl, upd_same, ts.same s0, tm.same s0, fun a b H' ea eb _ _ => ?_, fun e d H' hd' hw s' => ?_, fun e1 e2 d H' hd' hw s' => ?_⟩
  · exfalso
    subst ea
    subst eb
    rcases h with ⟨h, _⟩ | ⟨_, h, _⟩ <;> cases h
  · rcases h with ⟨_, rfl⟩ | ⟨h, _⟩
    · exact ⟨d, _, rfl, rfl, hw, fun t H'' ht s'' w => k t H'' (s0.free (s'.free ht)) ((s0.trans s').trans s'') w⟩
    · rw [e] at h
      cases h
  · rcases h with ⟨h, _⟩ | ⟨_, _, rfl⟩
    · rw [e1] at h
      cases h
    · exact ⟨d, _, rfl, rfl, hw, fun t H'' ht s'' w => k t H'' (s0.free (s'.free ht)) ((s0.trans s').trans s'') w⟩
/-- a turn that is refused -/
theorem call_ref {C CB p : Addr} {H : Hp} {a b : Int} {v : V} {Q Q' : VK} (hl : LineAt C H p a b) (tv : TyL C H v) (lo : Low v 0) (k : ∀ t H', H t = none → Same H H' → H' t = some (.tup [.str "part", .str "m"]) → Q (.ref t) H') : spCall C CB [.ref p, v] H Q' (WHeard CB Q) := by
  refine ⟨p, a, b, v, rfl, hl, tv, fun m e h0 => ?_, fun _ d H' hd hw s => ⟨d, _, rfl, rfl, hw, fun t H'' ht s' w => k t H'' (s.free ht) (s.trans s') w⟩⟩
  exfalso
  subst e
  rcases lo with lo | ⟨i, e, lo⟩
  · cases lo
  · cases e
    omega
theorem odd_of {C : Addr} {H : Hp} {v : V} {t1 t2 t3 p : Addr} {a b : Int} (h1 : H t1 = some (.tup [.int 1])) (h2 : H t2 = some (.lst [])) (h3 : H t3 = some (.dK [])) (hp : LineAt C H p a b) (hv : v ∈ [V.non, .bl true, .bl false, .str "1", .ref t1, .ref t2, .ref t3, .str "", .ref p]) : TyL C H v ∧ isI v = false := by
  simp only [List.mem_cons, List.mem_nil_iff, or_false] at hv
  rcases hv with rfl | rfl | rfl | rfl | rfl | rfl | rfl | rfl | rfl
  · exact ⟨.inl ⟨_, .non⟩, rfl⟩
  · exact ⟨.inl ⟨_, .bl _⟩, rfl⟩
  · exact ⟨.inl ⟨_, .bl _⟩, rfl⟩
  · exact ⟨.inl ⟨_, .str _⟩, rfl⟩
  · exact ⟨.inl ⟨_, .tup h1⟩, rfl⟩
  · exact ⟨.inl ⟨_, .lst h2⟩, rfl⟩
  · exact ⟨.inl ⟨_, .dK h3⟩, rfl⟩
  · exact ⟨.inl ⟨_, .str _⟩, rfl⟩
  · obtain ⟨dx, e⟩ := hp
    exact ⟨.inr ⟨_, dx, _, rfl, e⟩, rfl⟩
theorem also_of {C : Addr} {H : Hp} {v : V} {t1 : Addr} (h1 : H t1 = some (.lst [.int 2])) (hv : v ∈ [V.non, .bl true, .str "2", .ref t1]) : TyL C H v := by
  simp only [List.mem_cons, List.mem_nil_iff, or_false] at hv
  rcases hv with rfl | rfl | rfl | rfl
  · exact .inl ⟨_, .non⟩
  · exact .inl ⟨_, .bl _⟩
  · exact .inl ⟨_, .str _⟩
  · exact .inl ⟨_, .lst h1⟩
theorem wrong_of {C : Addr} {H : Hp} {v : V} {t1 t2 : Addr} (h1 : H t1 = some (.tup [.int 0])) (h2 : H t2 = some (.lst [])) (hv : v ∈ [V.non, .bl true, .int (-1), .str "0", .ref t1, .ref t2, .int (-(10 ^ Int.toNat 40))]) : TyL C H v ∧ Low v 0 := by
  simp only [List.mem_cons, List.mem_nil_iff, or_false] at hv
  rcases hv with rfl | rfl | rfl | rfl | rfl | rfl | rfl
  · exact ⟨.inl ⟨_, .non⟩, .inl rfl⟩
  · exact ⟨.inl ⟨_, .bl _⟩, .inl rfl⟩
  · exact ⟨TyL.int _ _ _, .inr ⟨_, rfl, by decide⟩⟩
  · exact ⟨.inl ⟨_, .str _⟩, .inl rfl⟩
  · exact ⟨.inl ⟨_, .tup h1⟩, .inl rfl⟩
  · exact ⟨.inl ⟨_, .lst h2⟩, .inl rfl⟩
  · exact ⟨TyL.int _ _ _, .inr ⟨_, rfl, by decide⟩⟩
def hd4 : PyData := .list [.tuple [.str "part", .str "slope"], .tuple [.str "part", .str "slope"], .tuple [.str "part", .str "more"], .tuple [.str "part", .str "more"]]
theorem hd4_at {K : PySem.W.Frag} {H : Hp} {l a b c d : Addr} (h : H l = some (.lst [.ref a, .ref b, .ref c, .ref d])) (ha : H a = some (.tup [.str "part", .str "slope"])) (hb : H b = some (.tup [.str "part", .str "slope"])) (hc : H c = some (.tup [.str "part", .str "more"])) (hd : H d = some (.tup [.str "part", .str "more"])) : Dp K H (.ref l) hd4 :=
  .lst (SqL.of h) (.cons (.tup (SqT.of ha) (.cons (.str _) (.cons (.str _) .nil))) (.cons (.tup (SqT.of hb) (.cons (.str _) (.cons (.str _) .nil))) (.cons (.tup (SqT.of hc) (.cons (.str _) (.cons (.str _) .nil))) (.cons (.tup (SqT.of hd) (.cons (.str _) (.cons (.str _) .nil))) .nil))))
def hd2 : PyData := .list [.tuple [.str "part", .str "m"], .tuple [.str "part", .str "m"]]
theorem hd2_at {K : PySem.W.Frag} {H : Hp} {l a b : Addr} (h : H l = some (.lst [.ref a, .ref b])) (ha : H a = some (.tup [.str "part", .str "m"])) (hb : H b = some (.tup [.str "part", .str "m"])) : Dp K H (.ref l) hd2 :=
  .lst (SqL.of h) (.cons (.tup (SqT.of ha) (.cons (.str _) (.cons (.str _) .nil))) (.cons (.tup (SqT.of hb) (.cons (.str _) (.cons (.str _) .nil))) .nil))
def gSw : List V → List V → List V := fun vs zs => vs ++ zs.reverse
def gApp : List V → List V → List V := fun vs zs => vs ++ zs
def spRefusedR (C : Addr) (TS : List (Addr × Str)) : Sp := fun vs H Q _ => ∃ (pn p : Addr) (a b : Int) (n : Nat), vs = [.ref pn, .ref p] ∧ LineAt C H p a b ∧ PenAt H pn n ∧ n < 90000 ∧ LamX.Tabs TS H ∧ ∀ (H' : Hp), PenAt H' pn (n + 3) → Kp pn TS H H' → Q (.bl true) H'
section
variable {P : Program} {w : World} {K : PySem.W.Frag} {mg : Str → Option Value} {base : Heap} {CE CLine CBadLine fBadLine : Addr}
theorem ok_refusedR {f c tb : Addr} {fd : FuncData} {TS : List (Addr × Str)} (F : FunC K "_law_refused_right" "_law_refused_right" s_refusedR f fd c) (T : LTx P K mg CLine CBadLine fBadLine) (TH : HTx P K mg CE CBadLine fBadLine) (DH : HeardAt K mg)
    (TB : LamX.TabB base mg c tb) (hmT : (tb, (("_law_refused_right" : Str) ++ ".<locals>.") ++ "<lambda>") ∈ TS) (hu : ∀ p ∈ TS, p.1 = tb → p.2 = (("_law_refused_right" : Str) ++ ".<locals>.") ++ "<lambda>")
    (D_pick : DefAt P w K mg base CX0 2 "_law_pick" ["_law_pen_here", "_law_some"] spPick) (M_Line : MakeAt P w K mg base (L2.CX P w) 3 "Line" CLine ["self", "slope", "more"] (spInit CLine CBadLine) []) (M_Line1 : MakeAt P w K mg base (L2.CX P w) 3 "Line" CLine ["self", "slope", "more"] (spInit CLine CBadLine) [.int 0])
    (MK_Line : MakeK P w K mg base (L2.CX P w) 3 "Line" CLine ["self", "slope", "more"] ["more", "slope"] (spInit CLine CBadLine) gSw) (C_Line : CallAt P w K mg base (L2.CX P w) 3 CLine ["self", "m"] (spCall CLine CBadLine)) (CK_Line : CallK P w K mg base (L2.CX P w) 3 CLine ["self", "m"] ["m"] (spCall CLine CBadLine) gApp) :
    FnG P w K mg base CX0 10 f fd ["_law_pen_here", "_law_one"] (spRefusedR CLine TS) := by
  refine okGc F sc_refusedR (fun vs H Q E h => ?_) (fun A outer s H vs Q E hgd hr h => ?_)
  · obtain ⟨pn, p, a, b, n, rfl, _⟩ := h
    rfl
  · obtain ⟨pn, p, a, b, n, rfl, hl, hp, hn, ht, k⟩ := h
    refine ⟨_, (pss_cons (ps_set (i := 2) sc_refusedR.nd rfl (Or.inr rfl) (My.pe_d D_pick (hr.mono (by decide)) (by rfl) pass0 (pa_cons (pv 0) (pa_cons (pe_lst (pa_cons pe_non (pa_cons pe_bl (pa_cons pe_bl (pa_cons pe_str (pa_cons (pe_tup (pa_cons pe_int pa_nil)) (pa_cons (pe_lst pa_nil) (pa_cons pe_dnewK (pa_cons pe_str (pa_cons (pv 1) pa_nil)))))))))) pa_nil))))
      (pss_cons (ps_set (i := 3) sc_refusedR.nd rfl (Or.inr rfl) (My.pe_d D_pick (hr.mono (by decide)) (by rfl) pass0 (pa_cons (pv 0) (pa_cons (pe_lst (pa_cons pe_non (pa_cons pe_bl (pa_cons pe_str (pa_cons (pe_lst (pa_cons pe_int pa_nil)) pa_nil))))) pa_nil))))
      (pss_cons (ps_set (i := 4) sc_refusedR.nd rfl (Or.inl rfl) (pe_lst (pa_cons (My.pe_heard (k := 6) DH TH hgd (hr.mono (by decide)) TB rfl hmT hu (by rfl) (LamX.lamS_by (by show LamX.lamSB (defScope s_refusedR) _ = true; decide +kernel)) rfl (fun _ _ _ _ _ => rfl) (fun A outer s H E f c hrl => (My.pe_mk M_Line (hrl.mono (by decide)) (by rfl) (passes_call (takes_of rfl rfl rfl rfl) (fun _ _ _ _ h => h)) (pa_cons (pv 2) (pa_cons (pv 3) pa_nil))))) pa_nil)))
      (pss_cons (ps_expr (pe_bm PySem.F.plainAttrs_list PySem.F.slot_list_append PySem.F.type_list_append mt_append (pv 4) (pa_cons (My.pe_heard (k := 6) DH TH hgd (hr.mono (by decide)) TB rfl hmT hu (by rfl) (LamX.lamS_by (by show LamX.lamSB (defScope s_refusedR) _ = true; decide +kernel)) rfl (fun _ _ _ _ _ => rfl) (fun A outer s H E f c hrl => (My.pe_mk M_Line1 (hrl.mono (by decide)) (by rfl) (passes_call (takes_of rfl rfl rfl rfl) (fun _ _ _ _ h => h)) (pa_cons (pv 2) pa_nil)))) pa_nil)))
      (pss_cons (ps_expr (pe_bm PySem.F.plainAttrs_list PySem.F.slot_list_append PySem.F.type_list_append mt_append (pv 4) (pa_cons (My.pe_heard (k := 6) DH TH hgd (hr.mono (by decide)) TB rfl hmT hu (by rfl) (LamX.lamS_by (by show LamX.lamSB (defScope s_refusedR) _ = true; decide +kernel)) rfl (fun _ _ _ _ _ => rfl) (fun A outer s H E f c hrl => (My.pe_mk M_Line (hrl.mono (by decide)) (by rfl) (passes_call (takes_of rfl rfl rfl rfl) (fun _ _ _ _ h => h)) (pa_cons pe_int (pa_cons (pv 2) pa_nil))))) pa_nil)))
      (pss_cons (ps_expr (pe_bm PySem.F.plainAttrs_list PySem.F.slot_list_append PySem.F.type_list_append mt_append (pv 4) (pa_cons (My.pe_heard (k := 6) DH TH hgd (hr.mono (by decide)) TB rfl hmT hu (by rfl) (LamX.lamS_by (by show LamX.lamSB (defScope s_refusedR) _ = true; decide +kernel)) rfl (fun _ _ _ _ _ => rfl) (fun A outer s H E f c hrl => (My.pe_mkK MK_Line (hrl.mono (by decide)) (by rfl) (passes_call (takes_of rfl rfl rfl rfl) (fun _ _ _ _ h => h)) (pk_cons (pv 2) (pk_cons pe_int pk_nil))))) pa_nil)))
      (pss_cons (ps_if (pt_cmpR (op_neD hr.units) (pv 4) (pe_lst (pa_cons (pe_tup (pa_cons pe_str (pa_cons pe_str pa_nil))) (pa_cons (pe_tup (pa_cons pe_str (pa_cons pe_str pa_nil))) (pa_cons (pe_tup (pa_cons pe_str (pa_cons pe_str pa_nil))) (pa_cons (pe_tup (pa_cons pe_str (pa_cons pe_str pa_nil))) pa_nil))))) (nomark _)) (pss_one (ps_ret pe_bl)) pss_nil)
      (pss_cons (ps_set (i := 5) sc_refusedR.nd rfl (Or.inr rfl) (My.pe_d D_pick (hr.mono (by decide)) (by rfl) pass0 (pa_cons (pv 0) (pa_cons (pe_lst (pa_cons pe_non (pa_cons pe_bl (pa_cons (pe_un un_neg pe_int) (pa_cons pe_str (pa_cons (pe_tup (pa_cons pe_int pa_nil)) (pa_cons (pe_lst pa_nil) (pa_cons (pe_un un_neg (pe_op op_pow pe_int pe_int)) pa_nil)))))))) pa_nil))))
      (pss_cons (ps_set (i := 6) sc_refusedR.nd rfl (Or.inl rfl) (pe_lst (pa_cons (My.pe_heard (k := 6) DH TH hgd (hr.mono (by decide)) TB rfl hmT hu (by rfl) (LamX.lamS_by (by show LamX.lamSB (defScope s_refusedR) _ = true; decide +kernel)) rfl (fun _ _ _ _ _ => rfl) (fun A outer s H E f c hrl => (My.pe_clI C_Line (hrl.mono (by decide)) (passes_call (takes_of rfl rfl rfl rfl) (fun _ _ _ _ h => h)) (pv 1) (pa_cons (pv 5) pa_nil)))) pa_nil)))
      (pss_cons (ps_expr (pe_bm PySem.F.plainAttrs_list PySem.F.slot_list_append PySem.F.type_list_append mt_append (pv 6) (pa_cons (My.pe_heard (k := 6) DH TH hgd (hr.mono (by decide)) TB rfl hmT hu (by rfl) (LamX.lamS_by (by show LamX.lamSB (defScope s_refusedR) _ = true; decide +kernel)) rfl (fun _ _ _ _ _ => rfl) (fun A outer s H E f c hrl => (My.pe_clK CK_Line (hrl.mono (by decide)) (passes_call (takes_of rfl rfl rfl rfl) (fun _ _ _ _ h => h)) (pv 1) (pk_cons (pv 5) pk_nil)))) pa_nil)))
      (pss_one (ps_ret (pe_cmpR (op_eqD hr.units) (pv 6) (pe_op op_rep (pe_lst (pa_cons (pe_tup (pa_cons pe_str (pa_cons pe_str pa_nil))) pa_nil)) pe_int) (nomark _)))))))))))))), ?_⟩
    refine ⟨_, rfl, (by show 1 ≤ sizeLine; decide), fun t1 h1 => ⟨(by show 0 ≤ sizeLine; decide), fun t2 h2 => fun t3 h3 => ⟨_, rfl, (by show 9 ≤ sizeLine; decide), fun l1 hl1 => ?_⟩⟩⟩
    have pA := pen_new (o := .dK []) (pen_new (o := .lst []) (pen_new (o := .tup [.int 1]) hp h1) h2) h3
    have w1 := same_new (o := .lst [.non, .bl true, .bl false, .str "1", .ref t1, .ref t2, .ref t3, .str "", .ref p]) hl1 _ _ (same_new (o := .dK []) h3 _ _ (same_new (o := .lst []) h2 _ _ (upd_same (H := H) (a := t1) (o := .tup [.int 1]))))
    have w2 := same_new (o := .lst [.non, .bl true, .bl false, .str "1", .ref t1, .ref t2, .ref t3, .str "", .ref p]) hl1 _ _ (same_new (o := .dK []) h3 _ _ (upd_same (H := upd H t1 (.tup [.int 1])) (a := t2) (o := .lst [])))
    have w3 := same_new (o := .lst [.non, .bl true, .bl false, .str "1", .ref t1, .ref t2, .ref t3, .str "", .ref p]) hl1 _ _ (upd_same (H := upd (upd H t1 (.tup [.int 1])) t2 (.lst [])) (a := t3) (o := .dK []))
    refine ⟨pn, l1, n, _, rfl, upd_same, pen_ne pA hl1, (by show 0 < 9; decide), (by show 9 ≤ 1000; decide), pen_new pA hl1, by omega, fun v1 H1 hv1 p1 u1 => ?_⟩
    have n1 : t1 ≠ pn := pen_ne hp h1
    have n2 : t2 ≠ pn := pen_ne (pen_new (o := .tup [.int 1]) hp h1) h2
    have n3 : t3 ≠ pn := pen_ne (pen_new (o := .lst []) (pen_new (o := .tup [.int 1]) hp h1) h2) h3
    have b1 : But pn H H1 := ((((But.new h1).trans (But.new h2)).trans (But.new h3)).trans (But.new hl1)).trans u1
    refine ⟨_, rfl, (by show 1 ≤ sizeLine; decide), fun t4 h4 => ⟨(by show 4 ≤ sizeLine; decide), fun l2 hl2 => ?_⟩⟩
    have pB := pen_new (o := .lst [.int 2]) p1 h4
    have w4 := same_new (o := .lst [.non, .bl true, .str "2", .ref t4]) hl2 _ _ (upd_same (H := H1) (a := t4) (o := .lst [.int 2]))
    refine ⟨pn, l2, n + 1, _, rfl, upd_same, pen_ne pB hl2, (by show 0 < 4; decide), (by show 4 ≤ 1000; decide), pen_new pB hl2, by omega, fun v2 H2 hv2 p2 u2 => ?_⟩
    have n4 : t4 ≠ pn := pen_ne p1 h4
    have b2 : But pn H1 H2 := ((But.new h4).trans (But.new hl2)).trans u2
    have bb := b1.trans b2
    have hlx := line_but hl hp bb
    obtain ⟨od, oi⟩ := odd_of (C := CLine) (b2 _ _ (u1 _ _ w1 n1) n1) (b2 _ _ (u1 _ _ w2 n2) n2) (b2 _ _ (u1 _ _ w3 n3) n3) hlx hv1
    have al := also_of (C := CLine) (u2 _ _ w4 n4) hv2
    have kp2 : Kp pn TS H H2 := Kp.but ht hp bb
    -- the first refusal
    refine ⟨kp2.tabs, fun H4 x4 tb4 Q' hQ' => ?_⟩
    refine ⟨_, rfl, _, rfl, mk_ref (od.ext x4) (al.ext x4) (.inl ⟨oi, rfl⟩) fun ta Ha na sa wa => ?_⟩
    refine ⟨(by show 1 ≤ sizeLine; decide), fun lh hlh => ?_⟩
    have xA : LamX.ExtN H2 Ha := x4.trans (ext_same sa)
    have lA := line_ext hlx xA
    have oA := od.ext xA
    have tA : LamX.Tabs TS Ha := tb4.ext sa
    have kA : Kp pn TS H Ha := kp2.trans (Kp.ext tA xA)
    have pA3 := pen_ext p2 xA
    have X5 : LamX.ExtN Ha (upd Ha lh (.lst [.ref ta])) := ext_same (same_new hlh)
    have T5 : LamX.Tabs TS (upd Ha lh (.lst [.ref ta])) := tA.ext (same_new hlh)
    have L5 : (upd Ha lh (.lst [.ref ta])) lh = some (.lst [.ref ta]) := upd_same
    generalize (upd Ha lh (.lst [.ref ta])) = H5 at X5 T5 L5
    refine ⟨_, rfl, .inl ⟨rfl, _, SqL.of L5⟩, T5, fun G5 y5 tz5 Q5 hQ5 => ?_⟩
    have Y5 := X5.trans y5
    refine ⟨_, rfl, mk_ref (oA.ext Y5) (TyL.int _ _ 0) (.inl ⟨oi, rfl⟩) fun tb1 K5 ntb1 stb1 wtb1 => ?_⟩
    have M5 : K5 lh = some (.lst [.ref ta]) := stb1 _ _ (y5 _ _ L5 (by intro ps z; cases z))
    refine ⟨lh, _, _, rfl, rfl, M5, (by show 1 < sizeLine; decide), ?_⟩
    have X6 : LamX.ExtN Ha (upd K5 lh (.lst ([.ref ta] ++ [.ref tb1]))) := ext_put hlh (Y5.trans (ext_same stb1))
    have T6 : LamX.Tabs TS (upd K5 lh (.lst ([.ref ta] ++ [.ref tb1]))) := tabs_put (tz5.ext stb1) M5
    have L6 : (upd K5 lh (.lst ([.ref ta] ++ [.ref tb1]))) lh = some (.lst [.ref ta, .ref tb1]) := upd_same
    have Wtb16 : (upd K5 lh (.lst ([.ref ta] ++ [.ref tb1]))) tb1 = some (.tup [.str "part", .str "slope"]) := by rw [upd_ne (ne_of wtb1 M5 (by intro z; cases z))]; exact wtb1
    generalize (upd K5 lh (.lst ([.ref ta] ++ [.ref tb1]))) = H6 at X6 T6 L6 Wtb16
    refine ⟨_, rfl, .inl ⟨rfl, _, SqL.of L6⟩, T6, fun G6 y6 tz6 Q6 hQ6 => ?_⟩
    have Y6 := X6.trans y6
    refine ⟨_, rfl, mk_ref (TyL.int _ _ 3) (oA.ext Y6) (.inr ⟨rfl, oi, rfl⟩) fun tc1 K6 ntc1 stc1 wtc1 => ?_⟩
    have M6 : K6 lh = some (.lst [.ref ta, .ref tb1]) := stc1 _ _ (y6 _ _ L6 (by intro ps z; cases z))
    refine ⟨lh, _, _, rfl, rfl, M6, (by show 2 < sizeLine; decide), ?_⟩
    have X7 : LamX.ExtN Ha (upd K6 lh (.lst ([.ref ta, .ref tb1] ++ [.ref tc1]))) := ext_put hlh (Y6.trans (ext_same stc1))
    have T7 : LamX.Tabs TS (upd K6 lh (.lst ([.ref ta, .ref tb1] ++ [.ref tc1]))) := tabs_put (tz6.ext stc1) M6
    have L7 : (upd K6 lh (.lst ([.ref ta, .ref tb1] ++ [.ref tc1]))) lh = some (.lst [.ref ta, .ref tb1, .ref tc1]) := upd_same
    have qtb17 : K6 tb1 = some (.tup [.str "part", .str "slope"]) := stc1 _ _ (y6 _ _ Wtb16 (by intro ps z; cases z))
    have Wtb17 : (upd K6 lh (.lst ([.ref ta, .ref tb1] ++ [.ref tc1]))) tb1 = some (.tup [.str "part", .str "slope"]) := by rw [upd_ne (ne_of qtb17 M6 (by intro z; cases z))]; exact qtb17
    have Wtc17 : (upd K6 lh (.lst ([.ref ta, .ref tb1] ++ [.ref tc1]))) tc1 = some (.tup [.str "part", .str "more"]) := by rw [upd_ne (ne_of wtc1 M6 (by intro z; cases z))]; exact wtc1
    generalize (upd K6 lh (.lst ([.ref ta, .ref tb1] ++ [.ref tc1]))) = H7 at X7 T7 L7 Wtb17 Wtc17
    refine ⟨_, rfl, .inl ⟨rfl, _, SqL.of L7⟩, T7, fun G7 y7 tz7 Q7 hQ7 => ?_⟩
    have Y7 := X7.trans y7
    refine ⟨_, rfl, rfl, rfl, mk_ref (TyL.int _ _ 0) (oA.ext Y7) (.inr ⟨rfl, oi, rfl⟩) fun td1 K7 ntd1 std1 wtd1 => ?_⟩
    have M7 : K7 lh = some (.lst [.ref ta, .ref tb1, .ref tc1]) := std1 _ _ (y7 _ _ L7 (by intro ps z; cases z))
    refine ⟨lh, _, _, rfl, rfl, M7, (by show 3 < sizeLine; decide), ?_⟩
    have X8 : LamX.ExtN Ha (upd K7 lh (.lst ([.ref ta, .ref tb1, .ref tc1] ++ [.ref td1]))) := ext_put hlh (Y7.trans (ext_same std1))
    have T8 : LamX.Tabs TS (upd K7 lh (.lst ([.ref ta, .ref tb1, .ref tc1] ++ [.ref td1]))) := tabs_put (tz7.ext std1) M7
    have L8 : (upd K7 lh (.lst ([.ref ta, .ref tb1, .ref tc1] ++ [.ref td1]))) lh = some (.lst [.ref ta, .ref tb1, .ref tc1, .ref td1]) := upd_same
    have qtb18 : K7 tb1 = some (.tup [.str "part", .str "slope"]) := std1 _ _ (y7 _ _ Wtb17 (by intro ps z; cases z))
    have Wtb18 : (upd K7 lh (.lst ([.ref ta, .ref tb1, .ref tc1] ++ [.ref td1]))) tb1 = some (.tup [.str "part", .str "slope"]) := by rw [upd_ne (ne_of qtb18 M7 (by intro z; cases z))]; exact qtb18
    have qtc18 : K7 tc1 = some (.tup [.str "part", .str "more"]) := std1 _ _ (y7 _ _ Wtc17 (by intro ps z; cases z))
    have Wtc18 : (upd K7 lh (.lst ([.ref ta, .ref tb1, .ref tc1] ++ [.ref td1]))) tc1 = some (.tup [.str "part", .str "more"]) := by rw [upd_ne (ne_of qtc18 M7 (by intro z; cases z))]; exact qtc18
    have Wtd18 : (upd K7 lh (.lst ([.ref ta, .ref tb1, .ref tc1] ++ [.ref td1]))) td1 = some (.tup [.str "part", .str "more"]) := by rw [upd_ne (ne_of wtd1 M7 (by intro z; cases z))]; exact wtd1
    generalize (upd K7 lh (.lst ([.ref ta, .ref tb1, .ref tc1] ++ [.ref td1]))) = H8 at X8 T8 L8 Wtb18 Wtc18 Wtd18
    have Wta8 := X8 _ _ wa (by intro ps z; cases z)
    refine ⟨_, rfl, (by show 2 ≤ sizeLine; decide), fun e1 g1 => ⟨(by show 2 ≤ sizeLine; decide), fun e2 g2 => ⟨(by show 2 ≤ sizeLine; decide), fun e3 g3 => ⟨(by show 2 ≤ sizeLine; decide), fun e4 g4 => ⟨(by show 4 ≤ sizeLine; decide), fun e5 g5 => ?_⟩⟩⟩⟩⟩
    have z1 := same_new (o := .lst [.ref e1, .ref e2, .ref e3, .ref e4]) g5 _ _ (same_new (o := (.tup [.str "part", .str "more"])) g4 _ _ (same_new (o := (.tup [.str "part", .str "more"])) g3 _ _ (same_new (o := (.tup [.str "part", .str "slope"])) g2 _ _ (upd_same (H := H8) (a := e1) (o := (.tup [.str "part", .str "slope"]))))))
    have z2 := same_new (o := .lst [.ref e1, .ref e2, .ref e3, .ref e4]) g5 _ _ (same_new (o := (.tup [.str "part", .str "more"])) g4 _ _ (same_new (o := (.tup [.str "part", .str "more"])) g3 _ _ (upd_same (H := upd H8 e1 (.tup [.str "part", .str "slope"])) (a := e2) (o := (.tup [.str "part", .str "slope"])))))
    have z3 := same_new (o := .lst [.ref e1, .ref e2, .ref e3, .ref e4]) g5 _ _ (same_new (o := (.tup [.str "part", .str "more"])) g4 _ _ (upd_same (H := upd (upd H8 e1 (.tup [.str "part", .str "slope"])) e2 (.tup [.str "part", .str "slope"])) (a := e3) (o := (.tup [.str "part", .str "more"]))))
    have z4 := same_new (o := .lst [.ref e1, .ref e2, .ref e3, .ref e4]) g5 _ _ (upd_same (H := upd (upd (upd H8 e1 (.tup [.str "part", .str "slope"])) e2 (.tup [.str "part", .str "slope"])) e3 (.tup [.str "part", .str "more"])) (a := e4) (o := (.tup [.str "part", .str "more"])))
    have z5 : (upd (upd (upd (upd (upd H8 e1 (.tup [.str "part", .str "slope"])) e2 (.tup [.str "part", .str "slope"])) e3 (.tup [.str "part", .str "more"])) e4 (.tup [.str "part", .str "more"])) e5 (.lst [.ref e1, .ref e2, .ref e3, .ref e4])) e5 = some (.lst [.ref e1, .ref e2, .ref e3, .ref e4]) := upd_same
    have s9 : Same H8 (upd (upd (upd (upd (upd H8 e1 (.tup [.str "part", .str "slope"])) e2 (.tup [.str "part", .str "slope"])) e3 (.tup [.str "part", .str "more"])) e4 (.tup [.str "part", .str "more"])) e5 (.lst [.ref e1, .ref e2, .ref e3, .ref e4])) := ((((same_new g1).trans (same_new g2)).trans (same_new g3)).trans (same_new g4)).trans (same_new g5)
    generalize (upd (upd (upd (upd (upd H8 e1 (.tup [.str "part", .str "slope"])) e2 (.tup [.str "part", .str "slope"])) e3 (.tup [.str "part", .str "more"])) e4 (.tup [.str "part", .str "more"])) e5 (.lst [.ref e1, .ref e2, .ref e3, .ref e4])) = H9 at z1 z2 z3 z4 z5 s9
    refine ⟨hd4, hd4, hd4_at (s9 _ _ L8) (s9 _ _ Wta8) (s9 _ _ Wtb18) (s9 _ _ Wtc18) (s9 _ _ Wtd18), hd4_at z5 z1 z2 z3 z4, by decide +kernel, by decide +kernel, _, rfl, ?_⟩
    rw [show PyData.eqv hd4 hd4 = true by decide +kernel]
    refine iteF ?_
    have X9 := X8.trans (ext_same s9)
    have p9 := pen_ext pA3 X9
    have l9 := line_ext lA X9
    have k9 : Kp pn TS H H9 := kA.trans (Kp.ext (T8.ext s9) X9)
    -- a wrong turn
    refine ⟨_, rfl, _, rfl, (by show 1 ≤ sizeLine; decide), fun t5 h5 => ⟨(by show 0 ≤ sizeLine; decide), fun t6 h6 => ⟨_, _, rfl, rfl, ⟨by decide, by decide, by decide⟩, _, rfl, (by show 7 ≤ sizeLine; decide), fun l3 hl3 => ?_⟩⟩⟩
    have pC := pen_new (o := .lst []) (pen_new (o := .tup [.int 0]) p9 h5) h6
    have w5 := same_new (o := .lst [.non, .bl true, .int (-1), .str "0", .ref t5, .ref t6, .int (-(10 ^ Int.toNat 40))]) hl3 _ _ (same_new (o := .lst []) h6 _ _ (upd_same (H := H9) (a := t5) (o := .tup [.int 0])))
    have w6 := same_new (o := .lst [.non, .bl true, .int (-1), .str "0", .ref t5, .ref t6, .int (-(10 ^ Int.toNat 40))]) hl3 _ _ (upd_same (H := upd H9 t5 (.tup [.int 0])) (a := t6) (o := .lst []))
    refine ⟨pn, l3, n + 2, _, rfl, upd_same, pen_ne pC hl3, (by show 0 < 7; decide), (by show 7 ≤ 1000; decide), pen_new pC hl3, by omega, fun v3 H10 hv3 p10 u10 => ?_⟩
    have n5 : t5 ≠ pn := pen_ne p9 h5
    have n6 : t6 ≠ pn := pen_ne (pen_new (o := .tup [.int 0]) p9 h5) h6
    have b10 : But pn H9 H10 := (((But.new h5).trans (But.new h6)).trans (But.new hl3)).trans u10
    obtain ⟨wt, wl⟩ := wrong_of (C := CLine) (u10 _ _ w5 n5) (u10 _ _ w6 n6) hv3
    have l10 := line_but l9 p9 b10
    have k10 : Kp pn TS H H10 := k9.trans (Kp.but k9.tabs p9 b10)
    refine ⟨k10.tabs, fun H11 x11 tb11 Q11 hQ11 => ?_⟩
    have l11 := line_ext l10 x11
    obtain ⟨d11, e11⟩ := id l11
    refine ⟨_, rfl, p, rfl, _, rfl, ⟨d11, _, e11⟩, call_ref l11 (wt.ext x11) wl fun ua Ua nua sua wua => ?_⟩
    refine ⟨(by show 1 ≤ sizeLine; decide), fun lf hlf => ?_⟩
    have xU : LamX.ExtN H10 Ua := x11.trans (ext_same sua)
    have tU : LamX.Tabs TS Ua := tb11.ext sua
    have sf := same_new (o := .lst [.ref ua]) hlf
    have Lf : (upd Ua lf (.lst [.ref ua])) lf = some (.lst [.ref ua]) := upd_same
    have Wu : (upd Ua lf (.lst [.ref ua])) ua = some (.tup [.str "part", .str "m"]) := sf _ _ wua
    generalize (upd Ua lf (.lst [.ref ua])) = H12 at sf Lf Wu
    refine ⟨_, rfl, .inl ⟨rfl, _, SqL.of Lf⟩, tU.ext sf, fun H13 x13 tb13 Q13 hQ13 => ?_⟩
    have X13 := (xU.trans (ext_same sf)).trans x13
    have l13 := line_ext l10 X13
    obtain ⟨d13, e13⟩ := id l13
    refine ⟨_, rfl, p, rfl, _, rfl, rfl, ⟨d13, _, e13⟩, call_ref l13 (wt.ext X13) wl fun ub Ub nub sub wub => ?_⟩
    have Mf : Ub lf = some (.lst [.ref ua]) := sub _ _ (x13 _ _ Lf (by intro ps z; cases z))
    refine ⟨lf, _, _, rfl, rfl, Mf, (by show 1 < sizeLine; decide), ?_⟩
    have X14 : LamX.ExtN Ua (upd Ub lf (.lst ([.ref ua] ++ [.ref ub]))) := ext_put hlf (((ext_same sf).trans x13).trans (ext_same sub))
    have T14 : LamX.Tabs TS (upd Ub lf (.lst ([.ref ua] ++ [.ref ub]))) := tabs_put (tb13.ext sub) Mf
    have L14 : (upd Ub lf (.lst ([.ref ua] ++ [.ref ub]))) lf = some (.lst [.ref ua, .ref ub]) := upd_same
    have qa : Ub ua = some (.tup [.str "part", .str "m"]) := sub _ _ (x13 _ _ Wu (by intro ps z; cases z))
    have A14 : (upd Ub lf (.lst ([.ref ua] ++ [.ref ub]))) ua = some (.tup [.str "part", .str "m"]) := by rw [upd_ne (ne_of qa Mf (by intro z; cases z))]; exact qa
    have B14 : (upd Ub lf (.lst ([.ref ua] ++ [.ref ub]))) ub = some (.tup [.str "part", .str "m"]) := by rw [upd_ne (ne_of wub Mf (by intro z; cases z))]; exact wub
    generalize (upd Ub lf (.lst ([.ref ua] ++ [.ref ub]))) = H14 at X14 T14 L14 A14 B14
    refine ⟨_, rfl, (by show 2 ≤ sizeLine; decide), fun r1 k1 => ⟨(by show 1 ≤ sizeLine; decide), fun r2 k2 => ⟨r2, 2, _, rfl, rfl, upd_same, by decide, by decide, (by show 1 * 2 ≤ sizeLine; decide), fun r3 k3 => ?_⟩⟩⟩
    have y1 := same_new (o := .lst (List.replicate (Int.toNat 2) [.ref r1]).flatten) k3 _ _ (same_new (o := .lst [.ref r1]) k2 _ _ (upd_same (H := H14) (a := r1) (o := .tup [.str "part", .str "m"])))
    have S15 := ((same_new (o := .tup [.str "part", .str "m"]) k1).trans (same_new (o := .lst [.ref r1]) k2)).trans (same_new (o := .lst (List.replicate (Int.toNat 2) [.ref r1]).flatten) k3)
    refine ⟨hd2, hd2, hd2_at (S15 _ _ L14) (S15 _ _ A14) (S15 _ _ B14), hd2_at upd_same y1 y1, by decide +kernel, by decide +kernel, ?_⟩
    rw [show PyData.eqv hd2 hd2 = true by decide +kernel]
    have X15 := (xU.trans X14).trans (ext_same S15)
    exact k _ (pen_ext p10 X15) (k10.trans (Kp.ext (T14.ext S15) X15))
end
end My
namespace My
open PySem PySem.Spec PyProof.Rows L2
abbrev s_law : Stmt := topS 27
theorem sc_law : FnScope ["_law_script", "_law_pen_here", "_law_turn", "_law_a", "_law_b", "_law_c", "_law_d", "_law_one", "_law_two", "_law_four", "_law_n", "_law_at"] ["_law_script"] (defScope s_law) := ⟨rfl, rfl, rfl, by decide +kernel, rfl, by decide +kernel, by decide +kernel⟩
def spLaw (K : PySem.W.Frag) (TS : List (Addr × Str)) : Sp := fun vs H Q _ => ∃ (a : Addr) (ns : List Int), vs = [.ref a] ∧ SqL K H a (ns.map V.int) ∧ LamX.Tabs TS H ∧ ∀ (H' : Hp), Q (.bl true) H'
section
variable {P : Program} {w : World} {K : PySem.W.Frag} {mg : Str → Option Value} {base : Heap} {CE CLine CBadLine fBadLine : Addr}
theorem ok_law {f : Addr} {fd : FuncData} {TS : List (Addr × Str)} (F : Fun K "law" "law" s_law f fd) (T : LTx P K mg CLine CBadLine fBadLine)
    (D_pen : DefAt P w K mg base CX0 1 "_law_pen" ["_law_script"] (spPen K)) (D_draw : DefAt P w K mg base CX0 1 "_law_draw" ["_law_pen_here", "_law_many"] spDraw) (D_pick : DefAt P w K mg base CX0 2 "_law_pick" ["_law_pen_here", "_law_some"] spPick) (D_integer : DefAt P w K mg base CX0 3 "_law_integer" ["_law_pen_here"] spInteger)
    (M_Line : MakeAt P w K mg base (L2.CX P w) 3 "Line" CLine ["self", "slope", "more"] (spInit CLine CBadLine) []) (M_Line1 : MakeAt P w K mg base (L2.CX P w) 3 "Line" CLine ["self", "slope", "more"] (spInit CLine CBadLine) [.int 0])
    (MK_Line : MakeK P w K mg base (L2.CX P w) 3 "Line" CLine ["self", "slope", "more"] ["more", "slope"] (spInit CLine CBadLine) gSw) (C_Line : CallAt P w K mg base (L2.CX P w) 3 CLine ["self", "m"] (spCall CLine CBadLine)) (CK_Line : CallK P w K mg base (L2.CX P w) 3 CLine ["self", "m"] ["m"] (spCall CLine CBadLine) gApp)
    (S_constant : StatAt P w K mg base CX0 5 CLine "constant" ["number"] (spConst CLine)) (SK_constant : StatK P w K mg base CX0 5 CLine "constant" ["number"] ["number"] (spConst CLine) gApp)
    (D_is : DefG P w K mg base CX0 5 "_law_is" ["_law_line", "_law_rise", "_law_base"] (spIs CLine)) (D_signsR : DefG P w K mg base CX0 9 "_law_signs_right" ["_law_one", "_law_two", "_law_four", "_law_number_so"] (spSigns K CLine)) (D_placeR : DefG P w K mg base CX0 9 "_law_in_place_right" ["_law_one", "_law_two", "_law_four", "_law_number_so"] (spSigns K CLine))
    (D_equalR : DefAt P w K mg base CX0 5 "_law_equal_right" ["_law_one", "_law_two", "_law_four"] (spEqual K CLine)) (D_refusedR : DefG P w K mg base CX0 10 "_law_refused_right" ["_law_pen_here", "_law_one"] (spRefusedR CLine TS)) : FnG P w K mg base CX0 12 f fd ["_law_script"] (spLaw K TS) := by
  refine okG F sc_law (fun vs H Q E h => ?_) (fun cdv A outer s H vs Q E hf hgd hr h => ?_)
  · obtain ⟨a, ns, rfl, _⟩ := h
    rfl
  · obtain ⟨sc, ns, rfl, hs, ht, k⟩ := h
    refine ⟨_, (pss_cons (ps_set (i := 1) sc_law.nd rfl (Or.inl rfl) (My.pe_d D_pen (hr.mono (by decide)) (by rfl) pass0 (pa_cons (pv 0) pa_nil)))
      (pss_cons (ps_for PassesOwn.never rfl (pi_range1 rfl T.z_range (pa_cons pe_int pa_nil)) (pg_name (i := 2) sc_law.nd rfl (Or.inl rfl)) (pss_cons (ps_par (i := 3) (j := 4) (by rfl) sc_law.nd rfl rfl (by decide) rfl rfl (pa_cons (My.pe_d D_integer (hr.mono (by decide)) (by rfl) pass0 (pa_cons (pv 1) pa_nil)) (pa_cons (My.pe_d D_integer (hr.mono (by decide)) (by rfl) pass0 (pa_cons (pv 1) pa_nil)) pa_nil)) (by rfl))
      (pss_cons (ps_par (i := 5) (j := 6) (by rfl) sc_law.nd rfl rfl (by decide) rfl rfl (pa_cons (My.pe_d D_integer (hr.mono (by decide)) (by rfl) pass0 (pa_cons (pv 1) pa_nil)) (pa_cons (My.pe_d D_integer (hr.mono (by decide)) (by rfl) pass0 (pa_cons (pv 1) pa_nil)) pa_nil)) (by rfl))
      (C8.pss_cut (ps_if (pt_cmpR op_eq (My.pe_d D_draw (hr.mono (by decide)) (by rfl) pass0 (pa_cons (pv 1) (pa_cons pe_int pa_nil))) pe_int (nomark _)) (pss_one (ps_par (i := 5) (j := 6) (by rfl) sc_law.nd rfl rfl (by decide) rfl rfl (pa_cons (pv 3) (pa_cons (My.pe_d D_pick (hr.mono (by decide)) (by rfl) pass0 (pa_cons (pv 1) (pa_cons (pe_lst (pa_cons (pv 4) (pa_cons (pv 6) pa_nil))) pa_nil))) pa_nil)) (by rfl))) pss_nil)
      (pss_cons (ps_par (i := 7) (j := 8) (by rfl) sc_law.nd rfl rfl (by decide) rfl rfl (pa_cons (My.pe_mk M_Line (hr.mono (by decide)) (by rfl) passL (pa_cons (pv 3) (pa_cons (pv 4) pa_nil))) (pa_cons (My.pe_mkK MK_Line (hr.mono (by decide)) (by rfl) passL (pk_cons (pv 6) (pk_cons (pv 5) pk_nil))) pa_nil)) (by rfl))
      (pss_cons (ps_par (i := 9) (j := 10) (by rfl) sc_law.nd rfl rfl (by decide) rfl rfl (pa_cons (pe_tup (pa_cons (pv 3) (pa_cons (pv 4) (pa_cons (pv 5) (pa_cons (pv 6) pa_nil))))) (pa_cons (My.pe_d D_integer (hr.mono (by decide)) (by rfl) pass0 (pa_cons (pv 1) pa_nil)) pa_nil)) (by rfl))
      (pss_cons (ps_if (PW.pt (pw_or (pt_not (pt_val (My.pe_dG D_is hgd (hr.mono (by decide)) (by rfl) pass0 (pa_cons (pv 7) (pa_cons (pv 3) (pa_cons (pv 4) pa_nil)))))) (pw_or1 (pt_not (pt_val (My.pe_dG D_is hgd (hr.mono (by decide)) (by rfl) pass0 (pa_cons (pv 8) (pa_cons (pv 5) (pa_cons (pv 6) pa_nil))))))))) (pss_one (ps_ret pe_bl)) pss_nil)
      (pss_cons (ps_if (pt_not (pt_val (My.pe_dG D_is hgd (hr.mono (by decide)) (by rfl) pass0 (pa_cons (My.pe_mk M_Line1 (hr.mono (by decide)) (by rfl) passL (pa_cons (pv 3) pa_nil)) (pa_cons (pv 3) (pa_cons pe_int pa_nil)))))) (pss_one (ps_ret pe_bl)) pss_nil)
      (pss_cons (ps_if (pt_not (pt_val (My.pe_dG D_is hgd (hr.mono (by decide)) (by rfl) pass0 (pa_cons (My.pe_st S_constant (hr.mono (by decide)) pass0 (pe_glob (v := .ref CLine) (by rfl) T.gLine rfl) (pa_cons (pv 10) pa_nil)) (pa_cons pe_int (pa_cons (pv 10) pa_nil)))))) (pss_one (ps_ret pe_bl)) pss_nil)
      (pss_cons (ps_if (pt_not (pt_val (My.pe_dG D_is hgd (hr.mono (by decide)) (by rfl) pass0 (pa_cons (My.pe_stK SK_constant (hr.mono (by decide)) pass0 (pe_glob (v := .ref CLine) (by rfl) T.gLine rfl) (pk_cons (pv 10) pk_nil)) (pa_cons pe_int (pa_cons (pv 10) pa_nil)))))) (pss_one (ps_ret pe_bl)) pss_nil)
      (pss_cons (ps_set (i := 11) sc_law.nd rfl (Or.inl rfl) (My.pe_d D_pick (hr.mono (by decide)) (by rfl) pass0 (pa_cons (pv 1) (pa_cons (pe_lst (pa_cons pe_int (pa_cons pe_int (pa_cons (My.pe_d D_draw (hr.mono (by decide)) (by rfl) pass0 (pa_cons (pv 1) (pa_cons pe_int pa_nil))) (pa_cons (pe_op op_pow pe_int pe_int) pa_nil))))) pa_nil))))
      (pss_cons (ps_if (pt_cmpR op_ne (pe_callB (My.call_repr hgd hr) (by rfl) T.z_repr boot_repr (pa_cons (pe_lst (pa_cons (My.pe_clI C_Line (hr.mono (by decide)) passL (pv 7) (pa_cons (pv 11) pa_nil)) (pa_cons (My.pe_clK CK_Line (hr.mono (by decide)) passL (pv 7) (pk_cons (pv 11) pk_nil)) pa_nil))) pa_nil)) (pe_callB (My.call_repr hgd hr) (by rfl) T.z_repr boot_repr (pa_cons (pe_op op_rep (pe_lst (pa_cons (pe_op op_add (pe_op op_mulW (pv 3) (pv 11)) (pv 4)) pa_nil)) pe_int) pa_nil)) (nomark _)) (pss_one (ps_ret pe_bl)) pss_nil)
      (pss_cons (ps_if (pt_not (pt_val (My.pe_dG D_signsR hgd (hr.mono (by decide)) (by rfl) pass0 (pa_cons (pv 7) (pa_cons (pv 8) (pa_cons (pv 9) (pa_cons (pv 10) pa_nil))))))) (pss_one (ps_ret pe_bl)) pss_nil)
      (pss_cons (ps_if (pt_not (pt_val (My.pe_dG D_placeR hgd (hr.mono (by decide)) (by rfl) pass0 (pa_cons (pv 7) (pa_cons (pv 8) (pa_cons (pv 9) (pa_cons (pv 10) pa_nil))))))) (pss_one (ps_ret pe_bl)) pss_nil)
      (pss_cons (ps_if (pt_not (pt_val (My.pe_d D_equalR (hr.mono (by decide)) (by rfl) pass0 (pa_cons (pv 7) (pa_cons (pv 8) (pa_cons (pv 9) pa_nil)))))) (pss_one (ps_ret pe_bl)) pss_nil)
      (pss_one (ps_if (pt_not (pt_val (My.pe_dG D_refusedR hgd (hr.mono (by decide)) (by rfl) pass0 (pa_cons (pv 1) (pa_cons (pv 7) pa_nil))))) (pss_one (ps_ret pe_bl)) pss_nil)))))))))))))))))
      (pss_one (ps_ret pe_bl)))), ?_⟩
    refine ⟨_, rfl, sc, ns, rfl, hs, fun pn H1 h1 p1 s1 => ?_⟩
    refine ⟨6, rfl, by decide, by decide, for_range (fun i σ H' => ∃ v2 v3 v4 v5 v6 v7 v8 v9 v10 v11, σ = [some (.ref sc), some (.ref pn), v2, v3, v4, v5, v6, v7, v8, v9, v10, v11] ∧ PenAt H' pn (40 * i) ∧ LamX.Tabs TS H') ⟨none, none, none, none, none, none, none, none, none, none, rfl, p1, ht.ext s1⟩ ?_ ?_⟩
    · rintro i σ H' hi ⟨v2, v3, v4, v5, v6, v7, v8, v9, v10, v11, rfl, hp, htb⟩
      have hi6 : i < 6 := hi
      refine ⟨_, rfl, pn, 40 * i, rfl, hp, by omega, fun a H2 a1 b1 p2 u2 => ?_⟩
      refine ⟨_, rfl, pn, _, rfl, p2, by omega, fun b H3 a2 b2 p3 u3 => ⟨_, _, rfl, ?_⟩⟩
      refine ⟨_, rfl, pn, _, rfl, p3, by omega, fun c0 H4 a3 b3 p4 u4 => ?_⟩
      refine ⟨_, rfl, pn, _, rfl, p4, by omega, fun d0 H5 a4 b4 p5 u5 => ⟨_, _, rfl, ?_⟩⟩
      have ba : Bd a := ⟨a1, b1⟩
      have bb : Bd b := ⟨a2, b2⟩
      have t5 := tabs_but (tabs_but (tabs_but (tabs_but htb hp u2) p2 u3) p3 u4) p4 u5
      refine ⟨fun σ Hz => ∃ c d, σ = [some (.ref sc), some (.ref pn), some (.int (0 + i)), some (.int a), some (.int b), some (.int c), some (.int d), v7, v8, v9, v10, v11] ∧ Bd c ∧ Bd d ∧ PenAt Hz pn (40 * i + 22) ∧ LamX.Tabs TS Hz, ?_, ?_⟩
      · refine ⟨_, rfl, pn, 3, _, rfl, by decide, by decide, p5, by omega, fun d6 H6 a6 b6 p6 u6 => ⟨rfl, _, rfl, ?_⟩⟩
        have t6 := tabs_but t5 p5 u6
        refine ite2 (fun g => ?_) (fun g => ?_)
        · refine ⟨_, rfl, _, rfl, _, rfl, _, rfl, (by show 2 ≤ sizeLine; decide), fun l hl => ?_⟩
          refine ⟨pn, l, _, _, rfl, upd_same, pen_ne p6 hl, (by show 0 < 2; decide), (by show 2 ≤ 1000; decide), pen_new p6 hl, by omega, fun v H7 hv p7 u7 => ⟨_, _, rfl, ?_⟩⟩
          obtain ⟨z, rfl, hz⟩ := mem_ints (zs := [b, d0]) hv
          have bz : Bd z := by
            simp only [List.mem_cons, List.mem_nil_iff, or_false] at hz
            rcases hz with rfl | rfl
            · exact bb
            · exact ⟨a4, b4⟩
          exact ⟨a, z, rfl, ba, bz, p7.le (by omega), tabs_but (t6.ext (same_new hl)) (pen_new p6 hl) u7⟩
        · exact ⟨c0, d0, rfl, ⟨a3, b3⟩, ⟨a4, b4⟩, p6.le (by omega), t6⟩
      · rintro σ H6 ⟨c, d, rfl, bc, bd, p6, t6⟩
        have sma : Sm a := sm_lin (lin2 ba.abs ba.abs).2.2
        have smb : Sm b := sm_lin (lin2 bb.abs bb.abs).2.2
        have smc : Sm c := sm_lin (lin2 bc.abs bc.abs).2.2
        have smd : Sm d := sm_lin (lin2 bd.abs bd.abs).2.2
        refine ⟨_, rfl, _, rfl, fun x dx hx hd ne => init_at hx hd ne fun H7 l7 s7 => ?_⟩
        refine ⟨_, rfl, _, rfl, rfl, rfl, fun y dy hy hdy ney => init_at hy hdy ney fun H8 l8 s8 => ⟨_, _, rfl, ?_⟩⟩
        have s8' := s7.trans s8
        refine ⟨_, rfl, _, rfl, _, rfl, _, rfl, (by show 4 ≤ sizeLine; decide), fun t9 h9 => ?_⟩
        have s9 := s8'.trans (same_new (o := .tup [.int a, .int b, .int c, .int d]) h9)
        have p9 := pen_same p6 s9
        refine ⟨_, rfl, pn, _, rfl, p9, by omega, fun m H10 am bm p10 u10 => ⟨_, _, rfl, ?_⟩⟩
        have bm' : Bd m := ⟨am, bm⟩
        have smm : Sm m := sm_lin (lin2 bm'.abs bm'.abs).2.2
        have sm0 : Sm 0 := by
          show (0 : Int).natAbs < 2 ^ 300
          decide
        have w9 : (upd H8 t9 (.tup [.int a, .int b, .int c, .int d])) t9 = some (.tup [.int a, .int b, .int c, .int d]) := upd_same
        have ht10 : H10 t9 = some (.tup [.int a, .int b, .int c, .int d]) := u10 _ _ w9 (by
          obtain ⟨cl, ns', a', r', g1, _⟩ := p9
          exact ne_of w9 g1 (by intro z; cases z))
        have lx := line_but ((l7.same s8).same (same_new (o := .tup [.int a, .int b, .int c, .int d]) h9)) p9 u10
        have ly := line_but (l8.same (same_new (o := .tup [.int a, .int b, .int c, .int d]) h9)) p9 u10
        have t10 := tabs_but (t6.ext s9) p9 u10
        refine ⟨_, rfl, _, rfl, _, rfl, x, a, b, rfl, lx, sma, smb, fun H11 s11 => ⟨_, rfl, iteF ?_⟩⟩
        refine ⟨_, rfl, _, rfl, _, rfl, y, c, d, rfl, ly.same s11, smc, smd, fun H12 s12 => ⟨_, rfl, iteF ?_⟩⟩
        have S12 := s11.trans s12
        refine ⟨_, rfl, fun x2 dx2 hx2 hd2 ne2 => init_at (a := a) (b := 0) hx2 hd2 ne2 fun H13 l13 s13 => ?_⟩
        have S13 := S12.trans s13
        refine ⟨_, rfl, x2, a, 0, rfl, l13, sma, sm0, fun H14 s14 => ⟨_, rfl, iteF ?_⟩⟩
        have S14 := S13.trans s14
        refine ⟨rfl, _, rfl, m, rfl, fun q H15 l15 s15 => ?_⟩
        have S15 := S14.trans s15
        refine ⟨_, rfl, q, 0, m, rfl, l15, sm0, smm, fun H16 s16 => ⟨_, rfl, iteF ?_⟩⟩
        have S16 := S15.trans s16
        refine ⟨rfl, _, rfl, rfl, m, rfl, fun q2 H17 l17 s17 => ?_⟩
        have S17 := S16.trans s17
        refine ⟨_, rfl, q2, 0, m, rfl, l17, sm0, smm, fun H18 s18 => ⟨_, rfl, iteF ?_⟩⟩
        have S18 := S17.trans s18
        have p18 := pen_same p10 S18
        -- the turn
        refine ⟨_, rfl, _, rfl, pn, 100, _, rfl, by decide, by decide, p18, by omega, fun d19 H19 a19 b19 p19 u19 => ?_⟩
        refine ⟨_, _, rfl, rfl, ⟨by decide, by decide, by decide⟩, (by show 4 ≤ sizeLine; decide), fun l20 h20 => ?_⟩
        refine ⟨pn, l20, _, _, rfl, upd_same, pen_ne p19 h20, (by show 0 < 4; decide), (by show 4 ≤ 1000; decide), pen_new p19 h20, by omega, fun v21 H21 hv p21 u21 => ?_⟩
        obtain ⟨at_, rfl, hz⟩ := mem_ints (zs := [0, 1, d19, 10 ^ Int.toNat 40]) hv
        have az : 0 ≤ at_ ∧ at_.natAbs < 2 ^ 150 := by
          have e : (10 : Int) ^ Int.toNat 40 = 10000000000000000000000000000000000000000 := by decide
          have e2 : (2 : Nat) ^ 150 = 1427247692705959881058285969449495136382746624 := rfl
          simp only [List.mem_cons, List.mem_nil_iff, or_false] at hz
          rw [e] at hz
          rcases hz with rfl | rfl | rfl | rfl <;> omega
        have b21 : But pn H10 H21 := (((but_same S18).trans u19).trans (But.new h20)).trans u21
        have lx21 := line_but lx p10 b21
        have ly21 := line_but ly p10 b21
        have t21 := tabs_but t10 p10 b21
        have ht21 : H21 t9 = some (.tup [.int a, .int b, .int c, .int d]) := b21 _ _ ht10 (by
          obtain ⟨cl, ns', a', r', g1, _⟩ := p10
          exact ne_of ht10 g1 (by intro z; cases z))
        obtain ⟨dx21, ex21⟩ := id lx21
        have cmx : CMulW a at_ := Sm.mul sma az.2
        have lgx := at_log sma smb az.2
        have lo_no : ¬ Low (V.int at_) 0 := fun lo => by
          rcases lo with lo | ⟨z, e, lo⟩
          · cases lo
          · cases e
            omega
        refine ⟨_, rfl, x, rfl, _, rfl, ⟨dx21, _, ex21⟩, x, a, b, _, rfl, lx21, TyL.int _ _ _, fun m' em _ => ?_, fun lo => absurd lo lo_no⟩
        cases em
        refine ⟨cmx, _, rfl, x, rfl, _, rfl, rfl, ⟨dx21, _, ex21⟩, x, a, b, _, rfl, lx21, TyL.int _ _ _, fun m' em _ => ?_, fun lo => absurd lo lo_no⟩
        cases em
        refine ⟨cmx, (by show 2 ≤ sizeLine; decide), fun l22 h22 => ?_⟩
        have two : ∀ z ∈ [a * at_ + b, a * at_ + b], z.natAbs.log2 < 1920 := fun z hz => by
          simp only [List.mem_cons, List.mem_nil_iff, or_false] at hz
          rcases hz with rfl | rfl <;> exact lgx
        obtain ⟨i1, i2, i3, i4⟩ := ints_show (K := K) (H := upd H21 l22 (.lst [.int (a * at_ + b), .int (a * at_ + b)])) (l := l22) [a * at_ + b, a * at_ + b] two (by show 2 ≤ 1000; decide) upd_same
        refine ⟨_, _, rfl, i1, i2, i3, i4, ?_⟩
        refine ⟨_, rfl, _, rfl, _, _, rfl, rfl, cmx, _, rfl, _, _, rfl, rfl, (by show 1 ≤ sizeLine; decide), fun l23 h23 => ⟨l23, 2, _, rfl, rfl, upd_same, by decide, by decide, (by show 1 * 2 ≤ sizeLine; decide), fun l24 h24 => ?_⟩⟩
        have S24 := ((same_new (o := .lst [.int (a * at_ + b), .int (a * at_ + b)]) h22).trans (same_new (o := .lst [.int (a * at_ + b)]) h23)).trans (same_new (o := .lst (List.replicate (Int.toNat 2) [.int (a * at_ + b)]).flatten) h24)
        obtain ⟨i1, i2, i3, i4⟩ := ints_show (K := K) (H := upd (upd (upd H21 l22 (.lst [.int (a * at_ + b), .int (a * at_ + b)])) l23 (.lst [.int (a * at_ + b)])) l24 (.lst (List.replicate (Int.toNat 2) [.int (a * at_ + b)]).flatten)) (l := l24) [a * at_ + b, a * at_ + b] two (by show 2 ≤ 1000; decide) upd_same
        refine ⟨_, _, rfl, i1, i2, i3, i4, rfl, _, rfl, iteNS rfl ?_⟩
        clear i1
        generalize (upd (upd (upd H21 l22 (.lst [.int (a * at_ + b), .int (a * at_ + b)])) l23 (.lst [.int (a * at_ + b)])) l24 (.lst (List.replicate (Int.toNat 2) [.int (a * at_ + b)]).flatten)) = H24 at S24
        refine ⟨_, rfl, _, rfl, _, rfl, _, rfl, x, y, t9, a, b, c, d, m, rfl, lx21.same S24, ly21.same S24, SqT.of (S24 _ _ ht21), ba, bb, bc, bd, bm', fun H25 s25 => ⟨_, rfl, iteF ?_⟩⟩
        have S25 := S24.trans s25
        refine ⟨_, rfl, _, rfl, _, rfl, _, rfl, x, y, t9, a, b, c, d, m, rfl, lx21.same S25, ly21.same S25, SqT.of (S25 _ _ ht21), ba, bb, bc, bd, bm', fun H26 s26 => ⟨_, rfl, iteF ?_⟩⟩
        have S26 := S25.trans s26
        refine ⟨_, rfl, _, rfl, _, rfl, x, y, t9, a, b, c, d, rfl, lx21.same S26, ly21.same S26, SqT.of (S26 _ _ ht21), ba, bb, bc, bd, fun H27 s27 => ⟨_, rfl, iteF ?_⟩⟩
        have S27 := S26.trans s27
        refine ⟨_, rfl, _, rfl, pn, x, a, b, _, rfl, lx21.same S27, pen_same p21 S27, by omega, t21.ext S27, fun H28 p28 k28 => ⟨_, rfl, iteF ?_⟩⟩
        exact ⟨_, _, _, _, _, _, _, _, _, _, rfl, p28.le (by omega), k28.tabs⟩
    · rintro σ H' ⟨v2, v3, v4, v5, v6, v7, v8, v9, v10, v11, rfl, hp, htb⟩
      exact k _
end
end My
namespace My
open PySem PySem.Spec PyProof.Rows L2
theorem nm_part : Sup.Nm "part" := ⟨by decide, by decide, by decide, by decide, fun _ _ _ _ _ _ _ _ _ _ _ _ => rfl⟩
theorem app_rel {vs : List V} {us : List Value} {zs : List V} {ws : List Value} (h1 : Vals vs us) (h2 : Vals zs ws) : Vals (gApp vs zs) (us ++ ws) := h1.append h2
/-- the class has the static method -/
structure HasS (K : PySem.W.Frag) (C : Addr) (m qual : Str) (st : Stmt) : Prop where
  ex : ∃ f fd, Stat K C m f ∧ Fun K m qual st f fd
section
variable {P : Program} {w : World} {K : PySem.W.Frag} {mg : Str → Option Value} {base : Heap} {CX : CXT} {k : Nat} {m qual : Str} {st : Stmt} {ps ks : List Str} {sp : Sp} {C : Addr}
theorem stat_at (A : HasS K C m qual st) (ok : ∀ f fd, Fun K m qual st f fd → FnOk P w K mg base CX k f fd ps sp) (b : BindW m qual st ps) : StatAt P w K mg base CX k C m ps sp := by
  obtain ⟨f, fd, h1, F⟩ := A.ex
  exact ⟨f, fd, h1, ok f fd F, F.binds b⟩
theorem statK_at {gV : List V → List V → List V} {g : List Value → List Value → List Value} (A : HasS K C m qual st) (ok : ∀ f fd, Fun K m qual st f fd → FnOk P w K mg base CX k f fd ps sp)
    (b : ∀ (kV doc pm : Value) (an : Option Addr) (cdv ct : Value) (us ws : List Value), us.length = 0 → ws.length = ks.length → bindArgs (PySem.W.fnOf m qual (defArgs st) (defBody st) (defScope st) .none kV doc pm an cdv ct) ⟨us, ks.zip ws⟩ = pure (ps.zip (g us ws)))
    (r : ∀ {vs : List V} {us : List Value} {zs : List V} {ws : List Value}, Vals vs us → Vals zs ws → Vals (gV vs zs) (g us ws)) : StatK P w K mg base CX k C m ps ks sp gV := by
  obtain ⟨f, fd, h1, F⟩ := A.ex
  obtain ⟨oc, od, kV, doc, pm, an, cdv, ct, osl, rfl, _⟩ := id F.ex
  exact ⟨f, _, g, h1, ok f _ F, ⟨fun s us ws _ l1 l2 => .of_eq (b kV doc pm an cdv ct us ws l1 l2), r⟩⟩
end
theorem sw_rel {vs : List V} {us : List Value} {zs : List V} {ws : List Value} (h1 : Vals vs us) (h2 : Vals zs ws) : Vals (gSw vs zs) (us ++ ws.reverse) := h1.append h2.reverse
theorem kinds_of {K : PySem.W.Frag} {C : Addr} (a1 : PySem.W.kitOne K (.type "int") (.ref C) = some false) (b1 : PySem.W.notFirst K C (.type "int") = true) (a2 : PySem.W.kitOne K (.type "tuple") (.ref C) = some false) (b2 : PySem.W.notFirst K C (.type "tuple") = true) (a3 : PySem.W.kitOne K (.type "NoneType") (.ref C) = some false) (b3 : PySem.W.notFirst K C (.type "NoneType") = true)
    (a4 : PySem.W.kitOne K (.type "str") (.ref C) = some false) (b4 : PySem.W.notFirst K C (.type "str") = true) (a5 : PySem.W.kitOne K (.type "list") (.ref C) = some false) (b5 : PySem.W.notFirst K C (.type "list") = true) (a6 : PySem.W.kitOne K (.type "bool") (.ref C) = some false) (b6 : PySem.W.notFirst K C (.type "bool") = true) : Kinds K C := fun t ht => by
  simp only [List.mem_cons, List.mem_nil_iff, or_false] at ht
  rcases ht with rfl | rfl | rfl | rfl | rfl | rfl
  · exact ⟨a1, b1⟩
  · exact ⟨a2, b2⟩
  · exact ⟨a3, b3⟩
  · exact ⟨a4, b4⟩
  · exact ⟨a5, b5⟩
  · exact ⟨a6, b6⟩
section
variable {P : Program} {w : World} {K : PySem.W.Frag} {mg : Str → Option Value} {base : Heap} {CX : CXT} {k : Nat} {x qual : Str} {st : Stmt} {ps ks : List Str} {sp : Sp} {C : Addr} {dvs : List V}
/-- the class is made with its defaults left out -/
theorem make_dfl {n : Nat} (A : HasD K C "__init__" qual st dvs []) (hx : mg x = some (.ref C)) (mk : PySem.W.makesIn K C = true) (kp : PySem.W.keepIn K (.ref C) = true) (ok : ∀ f fd, FunD K "__init__" qual (defArgs st) (defBody st) (defScope st) dvs [] f fd → FnOk P w K mg base CX k f fd ps sp) (hd : dvs ≠ []) (hn : n + (dvs.length - 0) = ps.length)
    (b : ∀ (T : Addr) (kV doc pm : Value) (an : Option Addr) (cdv ct : Value) (us its : List Value), us.length = n → its.length = dvs.length →
      ∃ k, bindArgs (PySem.W.fnOf "__init__" qual (defArgs st) (defBody st) (defScope st) (.ref T) kV doc pm an cdv ct) ⟨us, []⟩ = seqItems? (.ref T) >>= k ∧ k (some its.toArray) = pure (ps.zip (us ++ its.drop 0))) : MakeAt P w K mg base CX k x C ps sp dvs := by
  obtain ⟨f, fd, h1, h2, F⟩ := A.ex
  obtain ⟨ds, r, bs⟩ := F.binds1 n 0 hd hn b
  rw [List.drop_zero] at r
  exact ⟨f, fd, ds, ⟨mk, h1, h2, kp⟩, ok f fd F, hx, bs, r⟩
theorem make_sw (A : HasD K C "__init__" qual st dvs []) (hx : mg x = some (.ref C)) (mk : PySem.W.makesIn K C = true) (kp : PySem.W.keepIn K (.ref C) = true) (ok : ∀ f fd, FunD K "__init__" qual (defArgs st) (defBody st) (defScope st) dvs [] f fd → FnOk P w K mg base CX k f fd ps sp) (hd : dvs ≠ [])
    (b : ∀ (T : Addr) (kV doc pm : Value) (an : Option Addr) (cdv ct : Value) (us its ws : List Value), us.length = 1 → its.length = dvs.length → ws.length = ks.length →
      ∃ k, bindArgs (PySem.W.fnOf "__init__" qual (defArgs st) (defBody st) (defScope st) (.ref T) kV doc pm an cdv ct) ⟨us, ks.zip ws⟩ = seqItems? (.ref T) >>= k ∧ k (some its.toArray) = pure (ps.zip (us ++ ws.reverse))) : MakeK P w K mg base CX k x C ps ks sp gSw := by
  obtain ⟨f, fd, h1, h2, F⟩ := A.ex
  obtain ⟨its, kb⟩ := F.kbindsD (ps := ps) 1 ks (fun us _ ws => us ++ ws.reverse) hd (fun h1 _ h3 => h1.append h3.reverse) b
  exact ⟨f, fd, _, ⟨mk, h1, h2, kp⟩, ok f fd F, hx, kb⟩
theorem callK_at {g : List Value → List Value → List Value} (A : HasM K C "__call__" qual st) (ok : ∀ f fd, Fun K "__call__" qual st f fd → FnOk P w K mg base CX k f fd ps sp)
    (b : ∀ (kV doc pm : Value) (an : Option Addr) (cdv ct : Value) (us ws : List Value), us.length = 1 → ws.length = ks.length → bindArgs (PySem.W.fnOf "__call__" qual (defArgs st) (defBody st) (defScope st) .none kV doc pm an cdv ct) ⟨us, ks.zip ws⟩ = pure (ps.zip (us ++ ws))) : CallK P w K mg base CX k C ps ks sp gApp := by
  obtain ⟨f, fd, h1, h2, F⟩ := A.ex
  obtain ⟨oc, od, kV, doc, pm, an, cdv, ct, osl, rfl, lk, _⟩ := id F.ex
  refine ⟨f, _, _, ⟨h1, h2, ?_⟩, ok f _ F, ⟨fun s us ws _ l1 l2 => .of_eq (b kV doc pm an cdv ct us ws l1 l2), app_rel⟩⟩
  unfold PySem.W.fnIn
  rw [lk]
end
theorem all_mk {l : PySem.W.OpenLaw} {w : World} {K : PySem.W.Frag} {h : Heap} {mg : Str → Option Value} {fa CE CLine CBadLine fBadLine c1 t1 : Addr} {e1 : Value} {dd1 : Option Addr} {vs1 : Array Value} {sx1 : Array (Option Value)} (hfa : mg "law" = some (.ref fa))
    (_gL : mg "Line" = some (.ref CLine)) (_gB : mg "BadLine" = some (.ref CBadLine)) (_gE : mg "ClipError" = some (.ref CE)) (_iB : PySem.W.findIn K (.ref CBadLine) "__init__" = some (some (.ref fBadLine)))
    (T : LTx l.prog K mg CLine CBadLine fBadLine) (TH : HTx l.prog K mg CE CBadLine fBadLine) (mk : PySem.W.makesIn K CLine = true) (kp : PySem.W.keepIn K (.ref CLine) = true) (noI : PySem.W.kitOne K (.type "int") (.ref CLine) = some false) (sf : PySem.W.notFirst K CLine (.ref CLine) = true) (kn : Kinds K CLine)
    (ne0 : PySem.W.findIn K (.ref CLine) "__ne__" = some (some (.builtin "object.__ne__"))) (B_add : BinF K CLine (Operator.info .Add).2) (R_add : RefF K CLine (Operator.info .Add).2) (N_add : InpF K CLine (Operator.info .Add).2) (B_sub : BinF K CLine (Operator.info .Sub).2) (R_sub : RefF K CLine (Operator.info .Sub).2) (N_sub : InpF K CLine (Operator.info .Sub).2) (B_mul : BinF K CLine (Operator.info .Mult).2) (R_mul : RefF K CLine (Operator.info .Mult).2) (N_mul : InpF K CLine (Operator.info .Mult).2)
    (A_init : HasD K CLine "__init__" "Line.__init__" s_init [.int 0] [])
    (A_call : HasM K CLine "__call__" "Line.__call__" s_call) (A_rank : HasM K CLine "rank" "Line.rank" s_rank) (A_eq : HasM K CLine "__eq__" "Line.__eq__" s_eq) (A_neg : HasM K CLine "__neg__" "Line.__neg__" s_neg) (A_add : HasM K CLine "__add__" "Line.__add__" s_add) (A_sub : HasM K CLine "__sub__" "Line.__sub__" s_sub) (A_mul : HasM K CLine "__mul__" "Line.__mul__" s_mul) (A_radd : HasM K CLine "__radd__" "Line.__radd__" s_radd) (A_rsub : HasM K CLine "__rsub__" "Line.__rsub__" s_rsub) (A_rmul : HasM K CLine "__rmul__" "Line.__rmul__" s_rmul) (A_str : HasM K CLine "__str__" "Line.__str__" s_str) (A_constant : HasS K CLine "constant" "Line.constant" s_constant)
    (A_isint : Has K mg "is_integer" s_isint) (A_asline : Has K mg "as_line" s_asline) (A_textof : Has K mg "text_of" s_textof) (A_pen : Has K mg "_law_pen" s_pen) (A_draw : Has K mg "_law_draw" s_draw) (A_pick : Has K mg "_law_pick" s_pick) (A_integer : Has K mg "_law_integer" s_integer) (A_heard : Has K mg "_law_heard" s_heard) (A_is : Has K mg "_law_is" s_is) (A_signsR : Has K mg "_law_signs_right" s_signsR) (A_placeR : Has K mg "_law_in_place_right" s_placeR) (A_equalR : Has K mg "_law_equal_right" s_equalR) (A_law : Has K mg "law" s_law)
    (A_refusedR : HasC K mg "_law_refused_right" s_refusedR c1) (_p1 : K.lookup c1 = some ⟨e1, dd1, .fields vs1, sx1⟩) (_q1 : vs1[11]? = some (.ref t1)) (T1 : TabF K h (c1, t1)) : LawG l w K 12 63 "_law_script" mg fa h := by
  obtain ⟨fl, fdl, hl, Fl⟩ := A_law.ex
  have e := hfa.symm.trans hl
  cases e
  obtain ⟨f2, oc2, od2, kV2, dc2, pm2, an2, ct2, sl2, m2, l2, d2, k2⟩ := A_refusedR.ex
  obtain ⟨fh, fdh, hh, Fh⟩ := A_heard.ex
  refine ⟨fdl, [(c1, t1)], spLaw K [(t1, (("_law_refused_right" : Str) ++ ".<locals>.") ++ "<lambda>")], fun p hp => ?_, fun s u => ?_, fun H a ns hn hb ht hs => ?_, fun base hK hN hT => ?_⟩
  · rw [List.mem_singleton.mp hp]
    exact T1
  · obtain ⟨oc, od, kV, doc, pm, an, cdv, ct, osl, rfl, _⟩ := Fl.ex
    exact .of_eq rfl
  · refine ⟨a, ns, rfl, hs, fun p hp => ?_, fun _ => rfl⟩
    rw [List.mem_singleton.mp hp]
    exact LamX.TabS.nil (ht (c1, t1) (.head _))
  · have TB1 := hT (c1, t1) (.head _)
    have D_isint : DefAt l.prog w K mg base CX0 1 "is_integer" ["thing"] (spIsint CLine) := def_at A_isint (fun f fd F => ok_isint F T) fun _ _ _ _ _ _ us hl => match us, hl with | [_], _ => rfl
    have D_pen : DefAt l.prog w K mg base CX0 1 "_law_pen" ["_law_script"] (spPen K) := def_at A_pen (fun f fd F => ok_pen F T.toBI) fun _ _ _ _ _ _ us hl => match us, hl with | [_], _ => rfl
    have D_draw : DefAt l.prog w K mg base CX0 1 "_law_draw" ["_law_pen_here", "_law_many"] spDraw := def_at A_draw (fun f fd F => ok_draw F T.toBI) fun _ _ _ _ _ _ us hl => match us, hl with | [_, _], _ => rfl
    have D_pick : DefAt l.prog w K mg base CX0 2 "_law_pick" ["_law_pen_here", "_law_some"] spPick := def_at A_pick (fun f fd F => ok_pick F T.toBI D_draw) fun _ _ _ _ _ _ us hl => match us, hl with | [_, _], _ => rfl
    have D_integer : DefAt l.prog w K mg base CX0 3 "_law_integer" ["_law_pen_here"] spInteger := def_at A_integer (fun f fd F => ok_integer F T.toBI D_draw D_pick) fun _ _ _ _ _ _ us hl => match us, hl with | [_], _ => rfl
    have M_Line : MakeAt l.prog w K mg base (L2.CX l.prog w) 3 "Line" CLine ["self", "slope", "more"] (spInit CLine CBadLine) [] := make_all A_init T.gLine mk kp (fun f fd F => ok_init F T D_isint) (by simp) fun _ _ _ _ _ _ _ us its hl hi => match us, hl, its, hi with | [_, _, _], _, [_], _ => ⟨_, rfl, rfl⟩
    have M_Line1 : MakeAt l.prog w K mg base (L2.CX l.prog w) 3 "Line" CLine ["self", "slope", "more"] (spInit CLine CBadLine) [.int 0] := make_dfl (n := 2) A_init T.gLine mk kp (fun f fd F => ok_init F T D_isint) (by simp) rfl fun _ _ _ _ _ _ _ us its hl hi => match us, hl, its, hi with | [_, _], _, [_], _ => ⟨_, rfl, rfl⟩
    have MK_Line : MakeK l.prog w K mg base (L2.CX l.prog w) 3 "Line" CLine ["self", "slope", "more"] ["more", "slope"] (spInit CLine CBadLine) gSw := make_sw A_init T.gLine mk kp (fun f fd F => ok_init F T D_isint) (by simp) fun _ _ _ _ _ _ _ us its ws hl hi hw => match us, hl, its, hi, ws, hw with | [_], _, [_], _, [_, _], _ => ⟨_, rfl, rfl⟩
    have C_Line : CallAt l.prog w K mg base (L2.CX l.prog w) 3 CLine ["self", "m"] (spCall CLine CBadLine) := call_at A_call (fun f fd F => ok_call F T D_isint) fun _ _ _ _ _ _ us hl => match us, hl with | [_, _], _ => rfl
    have CK_Line : CallK l.prog w K mg base (L2.CX l.prog w) 3 CLine ["self", "m"] ["m"] (spCall CLine CBadLine) gApp := callK_at (g := fun us ws => us ++ ws) A_call (fun f fd F => ok_call F T D_isint) (fun _ _ _ _ _ _ us ws h1 h2 => match us, h1, ws, h2 with | [_], _, [_], _ => rfl)
    have D_asline : DefAt l.prog w K mg base CX0 5 "as_line" ["thing"] (spAs CLine) := def_at A_asline (fun f fd F => ok_asline F T noI M_Line) fun _ _ _ _ _ _ us hl => match us, hl with | [_], _ => rfl
    have D_textof : DefAt l.prog w K mg base CX0 1 "text_of" ["slope", "more"] spText := def_at A_textof (fun f fd F => ok_textof F T) fun _ _ _ _ _ _ us hl => match us, hl with | [_, _], _ => rfl
    have X_rank : MethAt l.prog w K mg base CX0 1 CLine "rank" ["self"] (spRank CLine) := meth_at A_rank (fun f fd F => ok_rank F T) fun _ _ _ _ _ _ us hl => match us, hl with | [_], _ => rfl
    have CE_eq : CmpAt l.prog w K mg base CX0 2 CLine "__eq__" ["self", "other"] (spEqs K CLine) := cmp_at A_eq (fun f fd F => ok_or (ok_eq F T X_rank) (ok_eqX F T X_rank)) fun _ _ _ _ _ _ us hl => match us, hl with | [_, _], _ => rfl
    have O_neg : CmpAt l.prog w K mg base CX0 5 CLine "__neg__" ["self"] (spNeg CLine) := cmp_at A_neg (fun f fd F => ok_neg F T M_Line) fun _ _ _ _ _ _ us hl => match us, hl with | [_], _ => rfl
    have O_add : CmpAt l.prog w K mg base CX0 6 CLine "__add__" ["self", "other"] (spAdd CLine) := cmp_at A_add (fun f fd F => ok_add F T D_asline M_Line) fun _ _ _ _ _ _ us hl => match us, hl with | [_, _], _ => rfl
    have O_sub : CmpAt l.prog w K mg base CX0 7 CLine "__sub__" ["self", "other"] (spSub CLine) := cmp_at A_sub (fun f fd F => ok_sub F T D_asline O_neg O_add B_add) fun _ _ _ _ _ _ us hl => match us, hl with | [_, _], _ => rfl
    have O_mul : CmpAt l.prog w K mg base CX0 5 CLine "__mul__" ["self", "other"] (spMul CLine) := cmp_at A_mul (fun f fd F => ok_mul F T M_Line) fun _ _ _ _ _ _ us hl => match us, hl with | [_, _], _ => rfl
    have O_radd : CmpAt l.prog w K mg base CX0 7 CLine "__radd__" ["self", "other"] (spAdd CLine) := cmp_at A_radd (fun f fd F => ok_radd F T O_add B_add) fun _ _ _ _ _ _ us hl => match us, hl with | [_, _], _ => rfl
    have O_rsub : CmpAt l.prog w K mg base CX0 8 CLine "__rsub__" ["self", "other"] (spRsub CLine) := cmp_at A_rsub (fun f fd F => ok_rsub F T D_asline O_sub B_sub) fun _ _ _ _ _ _ us hl => match us, hl with | [_, _], _ => rfl
    have O_rmul : CmpAt l.prog w K mg base CX0 6 CLine "__rmul__" ["self", "other"] (spMul CLine) := cmp_at A_rmul (fun f fd F => ok_rmul F T O_mul B_mul) fun _ _ _ _ _ _ us hl => match us, hl with | [_, _], _ => rfl
    have ST_str : CmpAt l.prog w K mg base CX0 2 CLine "__str__" ["self"] (spStr CLine) := cmp_at A_str (fun f fd F => ok_str F T D_textof) fun _ _ _ _ _ _ us hl => match us, hl with | [_], _ => rfl
    have S_constant : StatAt l.prog w K mg base CX0 5 CLine "constant" ["number"] (spConst CLine) := stat_at A_constant (fun f fd F => ok_constant F T M_Line) fun _ _ _ _ _ _ us hl => match us, hl with | [_], _ => rfl
    have SK_constant : StatK l.prog w K mg base CX0 5 CLine "constant" ["number"] ["number"] (spConst CLine) gApp := statK_at A_constant (fun f fd F => ok_constant F T M_Line) (fun _ _ _ _ _ _ us ws h1 h2 => match us, h1, ws, h2 with | [], _, [_], _ => rfl) app_rel
    have D_is : DefG l.prog w K mg base CX0 5 "_law_is" ["_law_line", "_law_rise", "_law_base"] (spIs CLine) := def_atG A_is (fun f fd F => ok_is F T C_Line) fun _ _ _ _ _ _ us hl => match us, hl with | [_, _, _], _ => rfl
    have D_signsR : DefG l.prog w K mg base CX0 9 "_law_signs_right" ["_law_one", "_law_two", "_law_four", "_law_number_so"] (spSigns K CLine) := def_atG A_signsR (fun f fd F => ok_signsR F T D_is O_neg O_add O_sub O_mul O_radd O_rsub O_rmul B_add B_sub B_mul R_add R_sub R_mul) fun _ _ _ _ _ _ us hl => match us, hl with | [_, _, _, _], _ => rfl
    have D_placeR : DefG l.prog w K mg base CX0 9 "_law_in_place_right" ["_law_one", "_law_two", "_law_four", "_law_number_so"] (spSigns K CLine) := def_atG A_placeR (fun f fd F => ok_placeR F T D_is O_add O_sub O_mul B_add B_sub B_mul N_add N_sub N_mul) fun _ _ _ _ _ _ us hl => match us, hl with | [_, _, _, _], _ => rfl
    have D_equalR : DefAt l.prog w K mg base CX0 5 "_law_equal_right" ["_law_one", "_law_two", "_law_four"] (spEqual K CLine) := def_at A_equalR (fun f fd F => ok_equalR F T ne0 sf kn M_Line ST_str CE_eq) fun _ _ _ _ _ _ us hl => match us, hl with | [_, _, _], _ => rfl
    have DH : HeardAt K mg := ⟨⟨fh, fdh, Fh, hh, Fh.binds fun _ _ _ _ _ _ us hl => match us, hl with | [_], _ => rfl⟩⟩
    have D_refusedR : DefG l.prog w K mg base CX0 10 "_law_refused_right" ["_law_pen_here", "_law_one"] (spRefusedR CLine [(t1, (("_law_refused_right" : Str) ++ ".<locals>.") ++ "<lambda>")]) := ⟨f2, _, ok_refusedR ⟨⟨oc2, od2, kV2, dc2, pm2, an2, ct2, sl2, rfl, l2, d2⟩, k2⟩ T TH DH TB1 (.head _) (fun p hp _ => by rw [List.mem_singleton.mp hp]) D_pick M_Line M_Line1 MK_Line C_Line CK_Line, m2, k2, .all fun us hl => match us, hl with | [_, _], _ => rfl⟩
    exact ok_law Fl T D_pen D_draw D_pick D_integer M_Line M_Line1 MK_Line C_Line CK_Line S_constant SK_constant D_is D_signsR D_placeR D_equalR D_refusedR
end My
open PySem PySem.W PyProof.Rows
set_option maxRecDepth 100000 in
set_option maxHeartbeats 0 in
theorem PySem.Challenge.cw_clipfades_k15_lines_reckoned_holds : PySem.Challenge.rw_clipfades_k15_lines_reckoned.Holds := by
  w_on; o_law; k_head; (case hw => w_witness2)
  k_fill
  refine My.walk_G (l := PySem.Challenge.rw_clipfades_k15_lines_reckoned) (n := 63) (k := 12) (x := "_law_script") rfl (by decide) rfl ⟨rfl, by decide, by decide⟩ (fun w h Y => by first | exact PySem.W.km_in_of Y | exact PySem.W.kIn_of Y) ?F
  case F =>
    intro w mg fa h Y KX G hmg tf
    have bi : My.BI mg := ⟨mg_none_of KX G (by k_is), mg_none_of KX G (by k_is), mg_none_of KX G (by k_is), mg_none_of KX G (by k_is), mg_none_of KX G (by k_is), mg_none_of KX G (by k_is), mg_none_of KX G (by k_is), mg_none_of KX G (by k_is)⟩
    refine' My.all_mk hmg ?gL ?gB ?gE ?iB ?T ?TH ?mk ?kp ?noI ?sf ?kn ?ne0 ?B_add ?R_add ?N_add ?B_sub ?R_sub ?N_sub ?B_mul ?R_mul ?N_mul ?A_init ?A_call ?A_rank ?A_eq ?A_neg ?A_add ?A_sub ?A_mul ?A_radd ?A_rsub ?A_rmul ?A_str ?A_constant ?A_isint ?A_asline ?A_textof ?A_pen ?A_draw ?A_pick ?A_integer ?A_heard ?A_is ?A_signsR ?A_placeR ?A_equalR ?A_law ?A_refusedR ?p1 ?q1 ?T1
    (case gL => exact mg_of KX G (by k_is)); (case gB => exact mg_of KX G (by k_is)); (case gE => exact mg_of KX G (by k_is)); (case iB => k_is)
    case T => exact ⟨bi, ⟨by k_is, by k_is, by k_is, by k_is⟩, show PySem.W.findIn _ (.ref _) "slope" = some none by k_is, show PySem.W.findIn _ (.ref _) "more" = some none by k_is, mg_of KX G (by k_is), by k_is, by k_is, by k_is, by k_is, by kernel_rfl,
      ⟨mg_of KX G (by k_is), ⟨⟨_, _, _, _, _, _, _, _, _, _, _, _, _, _, _, by k_is, by decide⟩, by k_is, by k_is, by k_is, by k_is⟩, ⟨by k_is, by k_is, by k_is, by k_is⟩, by k_is, My.nm_part, by k_is, by k_is,
      ⟨_, _, _, _, _, _, _, _, _, _, _, _, _, _, _, _, _, _, _, _, _, _, by k_is, by k_is, ⟨_, _, _, by k_is⟩, _, _, _, _, _, _, by k_is, rfl, by decide +kernel, rfl⟩, by ks_is, by k_is, by k_is, mg_none_of KX G (by k_is), by k_is, by decide +kernel⟩, mg_none_of KX G (by k_is), by kernel_rfl⟩
    case TH => exact ⟨bi, mg_of KX G (by k_is),
      ⟨mg_of KX G (by k_is), ⟨⟨_, _, _, _, _, _, _, _, _, _, _, _, _, _, _, by k_is, by decide⟩, by k_is, by k_is, by k_is, by k_is⟩, ⟨by k_is, by k_is, by k_is, by k_is⟩, by k_is, My.nm_part, by k_is, by k_is,
      ⟨_, _, _, _, _, _, _, _, _, _, _, _, _, _, _, _, _, _, _, _, _, _, by k_is, by k_is, ⟨_, _, _, by k_is⟩, _, _, _, _, _, _, by k_is, rfl, by decide +kernel, rfl⟩, by ks_is, by k_is, by k_is, mg_none_of KX G (by k_is), by k_is, by decide +kernel⟩, by kernel_rfl, ⟨by kernel_rfl, by k_is, by k_is, by k_is, by k_is, by k_is, by k_is, by k_is⟩, by kernel_rfl⟩
    (case mk => k_is); (case kp => k_is); (case noI => kernel_rfl); (case sf => k_is); (case ne0 => k_is)
    case kn => exact My.kinds_of (by kernel_rfl) (by k_is) (by kernel_rfl) (by k_is) (by kernel_rfl) (by k_is) (by kernel_rfl) (by k_is) (by kernel_rfl) (by k_is) (by kernel_rfl) (by k_is)
    case B_add => exact ⟨by k_is, ⟨_, by k_is, .inr ⟨_, rfl⟩⟩, ⟨_, by k_is⟩, ⟨_, by k_is⟩, by k_is⟩
    case R_add => exact ⟨by k_is, ⟨_, by k_is⟩, ⟨_, _, by k_is, by k_is, by decide +kernel⟩, by k_is⟩
    case N_add => exact ⟨⟨_, by k_is, rfl⟩, by k_is, by k_is⟩
    case B_sub => exact ⟨by k_is, ⟨_, by k_is, .inr ⟨_, rfl⟩⟩, ⟨_, by k_is⟩, ⟨_, by k_is⟩, by k_is⟩
    case R_sub => exact ⟨by k_is, ⟨_, by k_is⟩, ⟨_, _, by k_is, by k_is, by decide +kernel⟩, by k_is⟩
    case N_sub => exact ⟨⟨_, by k_is, rfl⟩, by k_is, by k_is⟩
    case B_mul => exact ⟨by k_is, ⟨_, by k_is, .inr ⟨_, rfl⟩⟩, ⟨_, by k_is⟩, ⟨_, by k_is⟩, by k_is⟩
    case R_mul => exact ⟨by k_is, ⟨_, by k_is⟩, ⟨_, _, by k_is, by k_is, by decide +kernel⟩, by k_is⟩
    case N_mul => exact ⟨⟨_, by k_is, rfl⟩, by k_is, by k_is⟩
    case A_init => exact ⟨_, _, by k_is, by k_is, ⟨_, _, _, _, _, _, _, _, _, _, rfl, by k_is, by k_is, .inr ⟨by simp, _, _, [.int 0 _], _, rfl, by k_is, rfl, .cons ⟨_, rfl⟩ .nil⟩, .inl rfl⟩, by k_is⟩
    case A_call => exact ⟨_, _, by k_is, by k_is, L2.fun_mk (by k_is) (by k_is) (by k_is)⟩
    case A_rank => exact ⟨_, _, by k_is, by k_is, L2.fun_mk (by k_is) (by k_is) (by k_is)⟩
    case A_eq => exact ⟨_, _, by k_is, by k_is, L2.fun_mk (by k_is) (by k_is) (by k_is)⟩
    case A_neg => exact ⟨_, _, by k_is, by k_is, L2.fun_mk (by k_is) (by k_is) (by k_is)⟩
    case A_add => exact ⟨_, _, by k_is, by k_is, L2.fun_mk (by k_is) (by k_is) (by k_is)⟩
    case A_sub => exact ⟨_, _, by k_is, by k_is, L2.fun_mk (by k_is) (by k_is) (by k_is)⟩
    case A_mul => exact ⟨_, _, by k_is, by k_is, L2.fun_mk (by k_is) (by k_is) (by k_is)⟩
    case A_radd => exact ⟨_, _, by k_is, by k_is, L2.fun_mk (by k_is) (by k_is) (by k_is)⟩
    case A_rsub => exact ⟨_, _, by k_is, by k_is, L2.fun_mk (by k_is) (by k_is) (by k_is)⟩
    case A_rmul => exact ⟨_, _, by k_is, by k_is, L2.fun_mk (by k_is) (by k_is) (by k_is)⟩
    case A_str => exact ⟨_, _, by k_is, by k_is, L2.fun_mk (by k_is) (by k_is) (by k_is)⟩
    case A_constant => exact ⟨_, _, ⟨by k_is, ⟨.type "type", _, _, by k_is, by k_is, by k_is⟩, by k_is⟩, L2.fun_mk (by k_is) (by k_is) (by k_is)⟩
    case A_isint => exact ⟨_, _, mg_of KX G (by k_is), L2.fun_mk (by k_is) (by k_is) (by k_is)⟩
    case A_asline => exact ⟨_, _, mg_of KX G (by k_is), L2.fun_mk (by k_is) (by k_is) (by k_is)⟩
    case A_textof => exact ⟨_, _, mg_of KX G (by k_is), L2.fun_mk (by k_is) (by k_is) (by k_is)⟩
    case A_pen => exact ⟨_, _, mg_of KX G (by k_is), L2.fun_mk (by k_is) (by k_is) (by k_is)⟩
    case A_draw => exact ⟨_, _, mg_of KX G (by k_is), L2.fun_mk (by k_is) (by k_is) (by k_is)⟩
    case A_pick => exact ⟨_, _, mg_of KX G (by k_is), L2.fun_mk (by k_is) (by k_is) (by k_is)⟩
    case A_integer => exact ⟨_, _, mg_of KX G (by k_is), L2.fun_mk (by k_is) (by k_is) (by k_is)⟩
    case A_heard => exact ⟨_, _, mg_of KX G (by k_is), L2.fun_mk (by k_is) (by k_is) (by k_is)⟩
    case A_is => exact ⟨_, _, mg_of KX G (by k_is), L2.fun_mk (by k_is) (by k_is) (by k_is)⟩
    case A_signsR => exact ⟨_, _, mg_of KX G (by k_is), L2.fun_mk (by k_is) (by k_is) (by k_is)⟩
    case A_placeR => exact ⟨_, _, mg_of KX G (by k_is), L2.fun_mk (by k_is) (by k_is) (by k_is)⟩
    case A_equalR => exact ⟨_, _, mg_of KX G (by k_is), L2.fun_mk (by k_is) (by k_is) (by k_is)⟩
    case A_law => exact ⟨_, _, mg_of KX G (by k_is), L2.fun_mk (by k_is) (by k_is) (by k_is)⟩
    case A_refusedR => exact ⟨_, _, _, _, _, _, _, _, _, mg_of KX G (by k_is), by k_is, by k_is, by k_is⟩
    (case p1 => k_is); (case q1 => rfl)
    case T1 => exact tf "_law_refused_right" _ _ (by decide +kernel) (by kernel_rfl) (by kernel_rfl)
