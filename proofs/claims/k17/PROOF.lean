import PyProof.Rows.All
import Wide.All
import OpenK.AllK
import Wide.FinOn
import HandS.ForExc
import HandS.ExcInit
import HandS.ExcField
import KE.KExcSuper
import HandS.ForMost
import HandS.Lambda
import HandS.IsInst
import KE.KExcIs
import PyProof.Rows.NestShow
import HandS.Wide
import HandS.Star
import HandS.Defaults
import HandS.Codes
import PyProof.ReprLen
import HandS.EndTab
import PySem.Challenge.RW_clipfades_k17_lines_halved_and_refined
set_option Elab.async false
set_option linter.all false
set_option maxRecDepth 100000
set_option maxHeartbeats 4000000
/-! An own error class E(Base(ValueError)) whose __init__ says super().__init__(f) and self.f = f. -/
namespace Sup
open PySem PySem.W PySem.Calls PyProof.Rows PySem.HandSPX
def a1 (f : Str) (p1 p2 : Pos) : Arguments :=
  { posonlyargs := [], args := [{ arg := "self", annotation := none, pos := p1 }, { arg := f, annotation := none, pos := p2 }], vararg := none, kwonlyargs := [], kw_defaults := [], kwarg := none, defaults := [] }
def b1 (f : Str) (q1 q2 q3 q4 q5 q6 r1 r2 r3 r4 : Pos) : List Stmt :=
  [.Expr (.Call (.Attribute (.Call (.Name "super" q1) [] [] q2) "__init__" q3) [.Name f q4] [] q5) q6, .Assign [.Attribute (.Name "self" r1) f r2] (.Name f r3) r4]
def s1 (f : Str) : Scope :=
  { kind := .function, names := [(PySem.Str.ofString "self", .local), (f, .local), (PySem.Str.ofString "__class__", .free), (PySem.Str.ofString "super", .globalImplicit)], isGenerator := false, isCoroutine := false, more := [] }
/-- the field's name is no other name of the text -/
structure Nm (f : Str) : Prop where
  n1 : (f == ("self" : Str)) = false
  n2 : (("__class__" : Str) == f) = false
  n3 : (("super" : Str) == f) = false
  n4 : (f == ("__debug__" : Str)) = false
  bd : ∀ (qual : Str) (body : List Stmt) (doc pm : Value) (an : Option Addr) (cdv ct : Value) (cc : Addr) (p1 p2 : Pos) (a b : Value),
    bindArgs (ksFn "__init__" qual (a1 f p1 p2) body (s1 f) .none .none doc pm an cdv ct cc) ⟨[a, b], []⟩ = pure [(("self" : Str), a), (f, b)]
/-- what the top has written of the class x, at C, and of its __init__, at fI -/
structure Err1 (prog : Program) (K : Frag) (mg : Str → Option Value) (x f : Str) (C fI : Addr) : Prop where
  gC : mg x = some (.ref C)
  ox : L2.OexC K C
  rd : L2.XfC K C
  nf : findIn K (.ref C) f = some none
  nm : Nm f
  iC : findIn K (.ref C) "__init__" = some (some (.ref fI))
  tI : typeIn K (.ref fI) = some (.type "function")
  fn : ∃ (qual : Str) (oc : Value) (od : Option Addr) (doc pm : Value) (an : Option Addr) (cda : Addr) (ct : Value) (cc : Addr) (osl : Array (Option Value)) (p1 p2 q1 q2 q3 q4 q5 q6 r1 r2 r3 r4 : Pos),
    K.lookup fI = some ⟨oc, od, .func (ksFn "__init__" qual (a1 f p1 p2) (b1 f q1 q2 q3 q4 q5 q6 r1 r2 r3 r4) (s1 f) .none .none doc pm an (.ref cda) ct cc), osl⟩ ∧ codeIn K (.ref cda) qual = true ∧
    (∃ cl cld csl, K.lookup cc = some ⟨cl, cld, .cell (some (.ref C)), csl⟩) ∧ ∃ ccl cdd vs ccs file tf, K.lookup cda = some ⟨ccl, cdd, .fields vs, ccs⟩ ∧ vs[2]? = some (.str file tf) ∧ ((prog.main.file : Str) == file) = true ∧ (q3.endLine == q5.line) = true
  su : ks_superIn K C C "__init__" = some (some (.builtin "ValueError.__init__"))
  sV : subIn K (.ref C) (.type "ValueError") = some true
  sC : mroIn K C (.ref C) = some true
  gS : mg "super" = none
  oq : nsIn K cStatics "thirdparty.any" = some none
  top : (prog.main.scope.names.lookup ("super" : Str)).isSome = false
/-- what __init__ leaves of a fresh exception at x -/
structure End1 (h h' : Heap) (f : Str) (x C dx t1 : Addr) (v : Value) : Prop where
  keep : ∀ b o, b ≠ x → h.get? b = some o → h'.get? b = some o
  obj : h'.get? x = some { cls := .ref C, dict := some dx, data := .fields #[.ref t1, .none, .none, .none, .bool false, .none] }
  dbig : h.objs.size ≤ dx
  dne : dx ≠ x
  ns : h'.Ns1 dx (fun y => if y = f then some v else none)
theorem lk2 {f : Str} (N : Nm f) : (s1 f).names.lookup f = some .local := by
  simp only [s1, List.lookup, N.n1, beq_self_eq_true]
theorem lk3 {f : Str} (N : Nm f) : (s1 f).names.lookup ("__class__" : Str) = some .free := by
  have e : (("__class__" : Str) == ("self" : Str)) = false := by decide +kernel
  have e2 : (("__class__" : Str) == ("__class__" : Str)) = true := by decide +kernel
  simp only [s1, List.lookup, N.n2, e, e2]
theorem lk4 {f : Str} (N : Nm f) : (s1 f).names.lookup ("super" : Str) = some .globalImplicit := by
  have e : (("super" : Str) == ("self" : Str)) = false := by decide +kernel
  have e2 : (("super" : Str) == ("__class__" : Str)) = false := by decide +kernel
  have e3 : (("super" : Str) == ("super" : Str)) = true := by decide +kernel
  simp only [s1, List.lookup, N.n3, e, e2, e3]
theorem meth_eq {o : Expr} {name f : Str} {q3 q4 q5 : Pos} {env : Env} (hp : (q3.endLine == q5.line) = true) :
    eval (.Call (.Attribute o name q3) [.Name f q4] [] q5) env = (do
      let ov ← attributeBase o name env (eval o env)
      standAt q3.atName
      let (g, first) ← holding [ov] (getMethod ov name (do return (← importBound o env).getD true))
      callWith q5 g first (backTo q5 (starEach [.Name f q4] env)) []) := by
  rw [arm_eval_Call]
  have hf : methodCallForm ([Expr.Name f q4].length + ([] : List Keyword).length) (backTo q5 (starEach [.Name f q4] env)) (backToKw q5 (keywordEach [] env)) = true := rfl
  have e : ∀ ov, methodCall o name q3 q5 env ov ([Expr.Name f q4].length + ([] : List Keyword).length) (backTo q5 (starEach [.Name f q4] env)) (backToKw q5 (keywordEach [] env)) = (do
      let (g, first) ← holding [ov] (getMethod ov name (do return (← importBound o env).getD true))
      callWith q5 g first (backTo q5 (starEach [.Name f q4] env)) []) := fun ov => by
    unfold methodCall
    rw [hf]
    unfold calleeOf methodCallPos
    simp only [hp, Bool.not_true, Bool.false_or, if_true]
    rfl
  simp only [e]
section
variable {prog : Program} {w : World} {A : Around} {E : Value → Shared → Prop} {R : Result → Shared → Prop} {s : Shared} {K : Frag} {mg : Str → Option Value} {x f : Str} {C fI : Addr}
/-- the bound ValueError.__init__ called -/
theorem call_mw {h : Heap} {g : Array GenState} {d : Drawn} {t : Nat} {os : OsState} {u e t0 : Addr} {rest : List Value} {Q : Value → Shared → Prop} {nm q : Str} {N : Addr} {bs bm : List Value} {hdct : Bool} {sn : List Str} {sub : List Value} {ab : Bool} {col : Option Bool} {dd : Option Addr} {k0 k1 k2 k3 k5 : Option Value}
    (hC : h.get? C = some (excClassObj nm q C N bs bm hdct sn sub ab col dd k0 k1 k2 k3 k5 "ValueError.__new__")) (he : h.get? e = some (excO C t0)) (hu : h.get? u = some (kxs_mw "ValueError.__init__" e)) (hz : rest.length ≤ sizeLine)
    (hq : ∀ h' t1, (∀ b o, b ≠ e → h.get? b = some o → h'.get? b = some o) → h'.get? e = some (excO C t1) → Q .none ⟨h', g, d, t, os⟩) :
    wpAny (model prog w) A (call (.ref u) rest) Q E ⟨h, g, d, t, os⟩ := by
  refine wpAny_call (codeAny_of_tree ?_)
  show wpAny _ A.in1 (callAny (.ref u) ⟨rest, []⟩) _ _ _
  simp only [callAny]
  refine wpAny_bind (wpAny_load hu ?_)
  simp only [kxs_mw, show (Value.type "method-wrapper" == Value.type "method" || Value.type "method-wrapper" == Value.type "builtin_function_or_method" || Value.type "method-wrapper" == Value.type "method-wrapper") = true by decide, if_true]
  refine KFB.if_so (by decide) ?_
  refine wpAny_bind (check_bound_init F.excBase_ValueError.toExcCallFacts hC he rfl ?_)
  refine wpAny_bind (wpAny_pure (wpAny_pure ?_))
  refine ⟨plainId_quiet F.excBase_ValueError.init.plain _, codeAny_builtin F.excBase_ValueError.initEntry ?_⟩
  exact exc_init_tree (cls := .ref C) (t0 := t0) (dv := none) (c2 := .none) (c3 := .none) (b4 := .bool false) he hz fun h' k e' _ => hq h' _ k e'
theorem init1 (T : Err1 prog K mg x f C fI) {e t0 : Addr} {v : Value} (X : K.In s.heap) (hlim : s.heap.NoLimit) (hg : s.heap.Ns mainGlobals mg) (hb : ∃ mb, s.heap.Ns builtinsNs mb ∧ ∀ x : Str, x ≠ "__name__" → mb x = bootBuiltins x)
    (he : s.heap.get? e = some (excO C t0)) (hnx : K.lookup e = none) (hroom : A.depth < recursionLimit)
    (hq : ∀ h' tk dx t1, End1 s.heap h' f e C dx t1 v → R (.ok (.ret .none)) { s with heap := h', toks := tk }) :
    codeAny (model prog w) A (.call (.ref fI) ⟨[.ref e, v], []⟩) R s := by
  obtain ⟨qual, oc, od, doc, pm, an, cda, ct, cc, osl, p1, p2, q1, q2, q3, q4, q5, q6, r1, r2, r3, r4, ho, hcd, ⟨cl, cld, csl, hcell⟩, ccl, cdd, vs, ccs, file, tf, hcode, hvs, hfile, hqq⟩ := T.fn
  obtain ⟨nm, q, N, bs, bm, sn, sub, ab, col, dd, k0, k1, k2, k3, k5, hC, hbm⟩ := T.ox.cls
  obtain ⟨mb, hb1, hb2⟩ := hb
  have hcl : clsIn K C = some { name := nm, bases := bs, mro := .ref C :: bm, ns := N, qualname := q, hasDict := true, slotNames := sn, subclasses := sub, abstract := ab, collection := col, hasDel := false } := by unfold clsIn; rw [hC] <;> rfl
  have hloc : ∀ y ∈ [(("self" : Str), Value.ref e), (f, v)], (s1 f).names.lookup y.1 = some .local := fun y hy => by
    rcases List.mem_cons.mp hy with z | z
    · rw [z]; rfl
    · rw [List.mem_singleton.mp z]; exact lk2 T.nm
  have hsu : alongIn K "__init__" ((((Value.ref C :: bm) : List Value).dropWhile (· != .ref C)).drop 1) = some (some (.builtin "ValueError.__init__")) := by
    have z := T.su
    unfold ks_superIn at z
    rw [hcl] at z
    exact z
  refine ks_codeAny_call_defAt (fd := ksFn "__init__" qual (a1 f p1 p2) (b1 f q1 q2 q3 q4 q5 q6 r1 r2 r3 r4) (s1 f) .none .none doc pm an (.ref cda) ct cc) (binds := [("self", .ref e), (f, v)]) hroom (X _ _ ho) rfl hlim (codeRec_of X hcd) rfl (BindsTo.of_eq (T.nm.bd _ _ _ _ _ _ _ _ _ _ _ _))
    (by intro y hy; simp only [s1, List.mem_cons, List.mem_nil_iff, or_false] at hy; rcases hy with z | z | z | z <;> rw [z] <;> exact (fun w => nomatch w)) hloc (fun h1 hns kp => ?_)
  have X1 : K.In h1 := X.keeps kp
  have he1 := kp _ _ he
  have hC1 := X1 _ _ hC
  have hx0 : e ≠ C := fun z => by
    have y := X _ _ hC
    rw [← z, he] at y
    cases y
  have mself : ([(("self" : Str), Value.ref e), (f, v)].reverse.lookup ("self" : Str)) = some (.ref e) := by
    have e1 : (("self" : Str) == f) = false := by
      have z := T.nm.n1
      rw [Bool.eq_false_iff] at z ⊢
      intro y
      exact z (by rw [beq_iff_eq] at y ⊢; exact y.symm)
    simp only [List.reverse_cons, List.reverse_nil, List.nil_append, List.cons_append, List.lookup, e1, beq_self_eq_true]
  have mf : ([(("self" : Str), Value.ref e), (f, v)].reverse.lookup f) = some v := by
    simp only [List.reverse_cons, List.reverse_nil, List.nil_append, List.cons_append, List.lookup, beq_self_eq_true]
  show _root_.PySem.wpAt _ _ _ (execs (b1 f q1 q2 q3 q4 q5 q6 r1 r2 r3 r4) _) _ _ _
  unfold b1
  refine ks_wpAt_execs_cons (ks_wpAt_Expr_any (ks_wpAt_MethodCall (ks_wpAt_super_base (lk4 T.nm) (lk3 T.nm) (by decide +kernel) rfl (X1 _ _ ho) rfl rfl rfl (X1 _ _ hcode) rfl hvs hfile T.top ?_) (meth_eq hqq)))
  refine ks_loadName_global rfl (lk4 T.nm) (loadGlobal_builtin (hg.keeps kp) T.gS (hb1.keeps kp) ((hb2 _ (by decide +kernel)).trans (by decide +kernel : bootBuiltins "super" = some (.type "super"))) ⟨rfl, ?_⟩)
  refine wpAny_loadName_free rfl (lk3 T.nm) rfl ⟨_, X1 _ _ hcell, rfl⟩ ?_
  refine wpAny_loadName_local rfl rfl hns mself ?_
  refine ks_wpAny_isType_cls hC1 rfl ⟨rfl, ?_⟩
  refine ks_wpAny_call_super hC1 rfl he1 rfl (fun c z => nomatch z) (looks_mroIn X1 T.sC) (fun h2 hso k2 => ?_)
  have X2 : K.In h2 := X1.keeps k2
  have he2 := k2 _ _ he1
  have I2 : InstAt h2 e (excO C t0) C none := ⟨he2, rfl, rfl, trivial⟩
  refine kxs_getMethod kxs_ValueError hso (looks_opaque X2 T.oq) (l₀ := .ref C :: bm) (fun A Q E s k q => wpAny_bind ((looks_clsIn X2 hcl) A _ E s k (wpAny_pure q))) rfl X2 hsu (I2.type.andThen (looks_subIn X2 T.sV)) hx0 (by decide +kernel) ?_
  refine kxs_callWith (i := "ValueError.__init__") (x := e) rfl ?_
  have hns2 := hns.keeps k2
  refine evalArgs_plain (Calls.spliced_cons (ldc rfl (lk2 T.nm) (hns2.keeps fun b o z => Heap.get?_push_of_some _ z) mf (Calls.spliced_nil ⟨Heap.get?_push_size _ rfl, ?_⟩) T.nm.n4))
  have k3 : ∀ b o, h2.get? b = some o → (h2.push (kxs_mw "ValueError.__init__" e)).get? b = some o := fun b o z => Heap.get?_push_of_some _ z
  show wpAny _ _ (call (.ref h2.objs.size) [v]) _ _ _
  refine call_mw (X2.keeps k3 _ _ hC) (k3 _ _ he2) (Heap.get?_push_size _ rfl) (by rw [sizeLine_eq]; exact (by decide : 1 ≤ 16777216)) fun h4 t1 k4 he4 => ?_
  have kall : ∀ b o, b ≠ e → s.heap.get? b = some o → h4.get? b = some o := fun b o hb z => k4 b o hb (k3 b o (k2 b o (kp b o z)))
  have X4 : K.In h4 := fun a o z => kall a o (fun y => by rw [y, hnx] at z; cases z) (X a o z)
  have hL : s.heap.objs.size ≠ e := Nat.ne_of_gt (Heap.lt_size he)
  have hns4 : h4.Ns s.heap.objs.size (fun y => [(("self" : Str), Value.ref e), (f, v)].reverse.lookup y) := by
    obtain ⟨oL, es, ep, hoL, r⟩ := hns2
    exact ⟨oL, es, ep, k4 _ _ hL (k3 _ _ hoL), r⟩
  show _root_.PySem.wpAt _ _ _ (execs [.Assign [.Attribute (.Name "self" r1) f r2] (.Name f r3) r4] _) _ _ _
  refine wpAt_of_wpAny (wpAny_execs_cons (plainObj_wpAny_Assign_Attribute (ldc rfl (lk2 T.nm) hns4 mf (ldc rfl rfl hns4 mself ?_) T.nm.n4)))
  refine set_plain X4 (ox := excO C t1) (od := none) ⟨he4, rfl, rfl, trivial⟩ T.ox.sa ?_
  refine exc_osa X4 he4 hcl (show refsVE (.ref C :: bm) = true from hbm) rfl T.nf (fun h5 tk5 dx k5 dn dne hx5 hn5 => ?_)
  have z1 : s.heap.objs.size ≤ h1.objs.size := Nat.le_of_lt hns.lt
  refine wpAny_execs_nil (hq h5 tk5 dx t1 ⟨fun b o hb z => k5 b o hb (kall b o hb z), hx5, ?_, dne, hn5⟩)
  have z2 := hns4.lt
  exact Nat.le_trans (Nat.le_of_lt z2) dn
/-- a made error -/
structure Made1 (h h' : Heap) (f : Str) (e C d : Addr) (v : Value) : Prop where
  keep : ∀ b o, h.get? b = some o → h'.get? b = some o
  new : h.objs.size ≤ e
  obj : ∃ oe vs, h'.get? e = some oe ∧ oe.cls = .ref C ∧ oe.dict = some d ∧ oe.data = .fields vs ∧ vs[1]? = some .none
  dbig : h.objs.size ≤ d
  dne : d ≠ e
  ns : h'.Ns1 d (fun y => if y = f then some v else none)
theorem made1 (T : Err1 prog K mg x f C fI) {v : Value} (X : K.In s.heap) (hlim : s.heap.NoLimit) (hg : s.heap.Ns mainGlobals mg) (hb : ∃ mb, s.heap.Ns builtinsNs mb ∧ ∀ x : Str, x ≠ "__name__" → mb x = bootBuiltins x) (hroom : A.depth + 1 < recursionLimit)
    (hq : ∀ h' tk e d, Made1 s.heap h' f e C d v → R (.ok (.ret (.ref e))) { s with heap := h', toks := tk }) :
    codeAny (model prog w) A (.call (.ref C) ⟨[v], []⟩) R s := by
  obtain ⟨nm, q, N, bs, bm, sn, sub, ab, col, dd, k0, k1, k2, k3, k5, hC, hbm⟩ := T.ox.cls
  obtain ⟨hp, g, dr, tk, os⟩ := s
  have kp : ∀ b o, hp.get? b = some o → ((hp.push (kdv_tup [v])).push (excO C hp.objs.size)).get? b = some o := fun b o z => Heap.get?_push_of_some _ (Heap.get?_push_of_some _ z)
  have hget : ((hp.push (kdv_tup [v])).push (excO C hp.objs.size)).get? (hp.objs.size + 1) = some (excO C hp.objs.size) := by heap_get
  have hnx : K.lookup (hp.objs.size + 1) = none := by
    cases z : K.lookup (hp.objs.size + 1) with
    | none => rfl
    | some o => exact absurd (Nat.lt_of_succ_lt (Heap.lt_size (X _ _ z))) (Nat.lt_irrefl _)
  refine call_own F.excBase_ValueError (fun Y => refsVE_contains Y bm hbm) (X _ _ hC) (looks_findIn X T.iC) (fun self => bind_fn X self T.tI) (by rw [sizeLine_eq]; exact (by decide : 1 ≤ 16777216)) ?_
  obtain ⟨mb, hb1, hb2⟩ := hb
  refine init1 (s := ⟨(hp.push (kdv_tup [v])).push (excO C hp.objs.size), g, dr, tk, os⟩) T (X.keeps kp) (hlim.keeps kp) (hg.keeps kp) ⟨mb, hb1.keeps kp, hb2⟩ hget hnx ?_ fun h' tk' dx t1 ⟨k', hx, dn, dne, hns⟩ => ?_
  · show A.depth + 1 < recursionLimit
    exact hroom
  · have old : ∀ b o, hp.get? b = some o → h'.get? b = some o := fun b o z => k' b o (Nat.ne_of_lt (Nat.lt_succ_of_lt (Heap.lt_size z))) (kp b o z)
    have z : hp.objs.size + 1 + 1 ≤ dx := by
      have y := dn
      first
        | (rw [Heap.size_push, Heap.size_push] at y; exact y)
        | exact y
    exact ⟨rfl, hq h' tk' (hp.objs.size + 1) dx ⟨old, Nat.le_succ _, ⟨_, _, hx, rfl, rfl, rfl, rfl⟩, Nat.le_trans (Nat.le_trans (Nat.le_succ _) (Nat.le_succ _)) z, dne, hns⟩⟩
end
end Sup
namespace L2
open PySem PySem.Spec PyProof.Rows
theorem relO_one {v : V} {v' : Value} {f : Str} (r : RelV v v') (g : Str) : RelO (List.lookup g [(f, v)]) (if g = f then some v' else none) := by
  by_cases hw : g = f
  · rw [if_pos hw, hw]
    have z : List.lookup f [(f, v)] = some v := by simp [List.lookup]
    rw [z]
    exact r
  · rw [if_neg hw]
    have y : (g == f) = false := by simpa using hw
    have z : List.lookup g [(f, v)] = none := by simp [List.lookup, y]
    rw [z]
    trivial
section
variable {X : Cx} {C fI : Addr} {x f : Str}
/-- E(e) -/
def tMk1 (C : Addr) (f : Str) (ta : TA) : St → Hp → XK → Prop := fun σ H Q => ta σ H fun vs H1 => ∃ v, vs = [v] ∧ ∀ d, H1 d = none → Q (.ref C) (some d) (upd H1 d (.xd [(f, v)]))
theorem pmk_1 {a : Expr} {ta : TA} {p pos : Pos} {k : Nat} (T : Sup.Err1 X.prog X.K X.mg x f C fI) (hr : Room k X.A) (ha : PA X [a] ta) (hg : Gl X x := by rfl) (hdb : (x == ("__debug__" : Str)) = false := by decide)
    (hs : starEach (a :: []) X.env = (false, eval a X.env) :: starEach [] X.env := by rfl) (hpl : (backTo pos (starEach [] X.env)).any (·.1) = false := by rfl) :
    PMk X (.Call (.Name x p) [a] [] pos) (tMk1 C f ta) := by
  intro pins s σ H Q I h
  refine wpAny_Call_Name_kw (ld_glob I hg T.gC ?_ hdb)
  refine PySem.W.callWith_K (h₀ := X.base) I.ok.mod.kin T.ox.kC (thn (ha.run pos pins s σ H _ I h) fun us s1 hh => ?_) hs hpl
  obtain ⟨vs, H1, I1, r1, v, ev, q1⟩ := hh
  subst ev
  refine ⟨I1.kIn, ?_⟩
  cases r1 with
  | cons rv rn =>
    rename_i v' us'
    cases rn
    show wpAny _ _ (call (.ref C) [v']) _ _ _
    have hlim := I1.nolimit
    obtain ⟨mb, hb1, hb2⟩ := I1.mod.blt
    have bk1 := I1.bk
    have gl1 := I1.mod.glob
    obtain ⟨hp, g, dr, tk, os⟩ := s1
    refine wpAny_call (Sup.made1 T I1.kIn hlim (gl1.keeps bk1) ⟨mb, hb1.keeps bk1, hb2⟩ (by have := hr.dp; omega) fun h' tk' e d M => ?_)
    show MkP X pins σ Q (.ref e) ⟨h', g, dr, tk', os⟩
    obtain ⟨oe, fv, hoe, hc, hd, hdat, h1⟩ := M.obj
    have hns := M.ns
    obtain ⟨G', g1, g2⟩ := restrict h' fun b => decide (b ≠ e)
    have gk : ∀ b, b ≠ e → G'.get? b = h'.get? b := fun b hb => g1 b (decide_eq_true hb)
    have ge : G'.get? e = none := g2 e (by simp)
    have old : ∀ b o, hp.get? b = some o → G'.get? b = some o := fun b o z => (gk b (Nat.ne_of_lt (Nat.lt_of_lt_of_le (Heap.lt_size z) M.new))).trans (M.keep b o z)
    have ob : ObjOk X.prog X.w (upd H1 d (.xd [(f, v)])) G' d (.xd [(f, v)]) :=
      ⟨_, hns.at (fun o z => (gk d M.dne).trans z), fun y => relO_one rv y⟩
    have J : Inv X pins σ (upd H1 d (.xd [(f, v)])) ⟨G', g, dr, tk', os⟩ := I1.laid (t' := tk') old M.dbig ob
    refine ⟨e, oe, fv, ⟨G', g, dr, tk', os⟩, _, .ref C, some d, rfl, J, fun b o z => ?_, ge, hoe, ⟨hc, hd⟩, hdat, h1, ?_, rfl, I1.bare, raises_own T.ox.exC T.ox.tyC, q1 d (I1.hok.fresh M.dbig)⟩
    · by_cases hb : b = e
      · have z' : G'.get? b = some o := z
        rw [hb, ge] at z'; cases z'
      · exact (gk b hb).symm.trans z
    · rw [upd_ne (Ne.symm M.dne)]
      exact I1.hok.fresh M.new
/-- raise E(e) -/
def tRaise1 (C : Addr) (f : Str) (W : WX) (ta : TA) : TS := fun _ σ H => tMk1 C f ta σ H fun cls d H' => W cls d σ H'
theorem ps_raise1 {a : Expr} {ta : TA} {W : WX} {p pos pos2 : Pos} {k : Nat} (hc : X.calm = true) (T : Sup.Err1 X.prog X.K X.mg x f C fI) (hr : Room k X.A) (tk : Takes X W) (ha : PA X [a] ta) (hg : Gl X x := by rfl) (hdb : (x == ("__debug__" : Str)) = false := by decide)
    (hs : starEach (a :: []) X.env = (false, eval a X.env) :: starEach [] X.env := by rfl) (hpl : (backTo pos (starEach [] X.env)).any (·.1) = false := by rfl) :
    PS X (.Raise (some (.Call (.Name x p) [a] [] pos)) none pos2) (tRaise1 C f W ta) := ps_raise hc tk (pmk_1 T hr ha hg hdb hs hpl)
end
end L2
/-! Rules of our own over the hand layer: defs whose guards are told (for repr), repr of data, an error kept behind its except suite. -/
namespace My
open PySem PySem.Spec PyProof.Rows L2
/-! ### a def that is run where no repr is under way -/
structure FnG (P : Program) (w : World) (K : PySem.W.Frag) (mg : Str → Option Value) (base : Heap) (CX : CXT) (k : Nat) (f : Addr) (fd : FuncData) (ps : List Str) (sp : Sp) : Prop where
  len : ∀ vs H Q E, sp vs H Q E → vs.length = ps.length
  run : ∀ (A : Around) (outer : List Env) (s : Shared) (H : Hp) (args : Args) (us : List Value) (vs : List V) (Q : VK) (E : XK), A.guards = some [] → Room k A → Env0 P w K mg base A outer s H → BindsTo s fd args (ps.zip us) → Vals vs us → sp vs H Q E →
    codeAny (model P w) A (.call (.ref f) args) (CR CX outer P w H s Q E) s
section
variable {P : Program} {w : World} {K : PySem.W.Frag} {mg : Str → Option Value} {base : Heap}
theorem okG {x qual : Str} {st : Stmt} {f : Addr} {fd : FuncData} {N ps : List Str} {k : Nat} {sp : Sp} (F : Fun K x qual st f fd) (S : FnScope N ps (defScope st)) (len : ∀ vs H Q E, sp vs H Q E → vs.length = ps.length)
    (hbody : ∀ (cdv : Value) (A : Around) (outer : List Env) (s : Shared) (H : Hp) (vs : List V) (Q : VK) (E : XK), K.lookup f ≠ none → A.guards = some [] → Room k (A.deeper (envOfC qual (defScope st) s.heap.objs.size f cdv)) → sp vs H Q E →
      ∃ t, PSs (cxOf CX0 P w K mg base N qual (defScope st) f cdv A outer s H E).nox (defBody st) t ∧ t { nx := fun _ H' => Q .non H', rt := Q } (start N vs) H) : FnG P w K mg base CX0 (k + 1) f fd ps sp := by
  obtain ⟨oc, od, kV, doc, pm, an, cdv, ct, osl, rfl, lk, hcd⟩ := F.ex
  refine ⟨len, fun A outer s H args us vs Q E hg hr e0 hb r hsp => LamX.run_ofS lk hcd S hr e0 hb r (len _ _ _ _ hsp) fun hr' => ?_⟩
  obtain ⟨t, h, q⟩ := hbody cdv A outer s H vs Q E (by rw [lk]; exact fun z => nomatch z) hg hr' hsp
  exact ⟨t, h.nox, q⟩
end
section
variable {X : Cx} {CX : CXT} {k : Nat} {f : Addr} {fd : FuncData} {ps : List Str} {sp : Sp} {E : XK} {x : Str} {e : Expr} {es : List Expr} {t : TA} {p pos : Pos} {ds : List Value} {dvs : List V}
/-- x(e, ..) -/
theorem pe_callG (F : FnG X.prog X.w X.K X.mg X.base CX k f fd ps sp) (hgd : X.A.guards = some []) (hr : Room k X.A) (hg : Gl X x) (hm : X.mg x = some (.ref f)) (hk : PySem.W.keepIn X.K (.ref f) = true) (hb : Binds X.K fd ps []) (hx : Passes CX X E)
    (ha : PA X (e :: es) t) (hdb : (x == ("__debug__" : Str)) = false := by decide) (hs : starEach (e :: es) X.env = (false, eval e X.env) :: starEach es X.env := by rfl) (hpl : (backTo pos (starEach es X.env)).any (·.1) = false := by rfl) :
    PE X (.Call (.Name x p) (e :: es) [] pos) (tCall sp [] E t) := by
  refine ⟨fun pins s σ H Q I h => ?_⟩
  refine wpAny_Call_Name_kw (ld_glob I hg hm ?_ hdb)
  refine PySem.W.callWith_K (h₀ := X.base) I.ok.mod.kin hk (thn (ha.run pos pins s σ H _ I h) fun us s1 ⟨vs, H1, I1, r, q⟩ => ⟨I1.kIn, ?_⟩) hs hpl
  have q' : sp vs H1 Q E := by
    have z : sp (vs ++ []) H1 Q E := q
    rw [List.append_nil] at z
    exact z
  have hl : us.length = ps.length := by rw [← r.length]; exact F.len _ _ _ _ q'
  have hb' : BindsTo s1 fd ⟨us, []⟩ (ps.zip us) := by
    have z := hb s1 us I1.kIn (by rw [List.append_nil]; exact hl)
    rw [List.append_nil] at z
    exact z
  refine wpAny_call (codeAny_mono (F.run X.A X.stack s1 H1 ⟨us, []⟩ us vs Q E hgd hr I1.env0 hb' r q') fun res s2 hq => ?_)
  cases res with
  | error er => exact hx pins σ H1 s1 er s2 I1 hq
  | ok fl =>
    cases fl with
    | ret u => exact I1.after hq
    | next => exact False.elim hq
    | brk => exact False.elim hq
    | cont => exact False.elim hq
end
/-! ### repr of data -/
theorem sqt_same {K : PySem.W.Frag} {H H' : Hp} {a : Addr} {xs : List V} (e : Same H H') (h : SqT K H a xs) : SqT K H' a xs := by
  rcases h with (h | ⟨o, h⟩) | h
  · exact .inl (.inl (e _ _ h))
  · exact .inl (.inr ⟨o, e _ _ h⟩)
  · exact .inr h
/-- data that repr shows: as for ==, and the empty dict -/
def Dr (K : PySem.W.Frag) (H : Hp) (v : V) (d : PyData) : Prop := Dp K H v d ∨ (∃ a, v = .ref a ∧ d = .dict [] ∧ H a = some (.dK []))
mutual
theorem dp_same {K : PySem.W.Frag} {H H' : Hp} (k : Same H H') : ∀ (d : PyData) (v : V), Dp K H v d → Dp K H' v d
  | _, _, .non => .non
  | _, _, .bl b => .bl b
  | _, _, .int i => .int i
  | _, _, .str x => .str x
  | .list ds, _, .lst h ha => .lst (k.seq h) (dp_sameAll k ds _ ha)
  | .tuple ds, _, .tup h ha => .tup (sqt_same k h) (dp_sameAll k ds _ ha)
theorem dp_sameAll {K : PySem.W.Frag} {H H' : Hp} (k : Same H H') : ∀ (ds : List PyData) (vs : List V), DpAll K H vs ds → DpAll K H' vs ds
  | [], _, .nil => .nil
  | d :: ds, _, .cons h1 h2 => .cons (dp_same k d _ h1) (dp_sameAll k ds _ h2)
end
theorem dr_same {K : PySem.W.Frag} {H H' : Hp} {v : V} {d : PyData} (k : Same H H') (h : Dr K H v d) : Dr K H' v d := by
  rcases h with h | ⟨a, e1, e2, e3⟩
  · exact .inl (dp_same k d v h)
  · exact .inr ⟨a, e1, e2, k _ _ e3⟩
def rRepr (K : PySem.W.Frag) : List V → Hp → VK → Prop := fun xs H Q => ∃ (v : V) (d : PyData), xs = [v] ∧ Dr K H v d ∧ d.showable = true ∧ d.depth ≤ 60 ∧ d.shown.length ≤ sizeLine ∧ Q (.str d.shown) H
mutual
theorem noDict {K : PySem.W.Frag} {H : Hp} : ∀ (d : PyData) (v : V), Dp K H v d → d.hasDict = false
  | .none, _, _ => rfl
  | .bool _, _, _ => rfl
  | .int _, _, _ => rfl
  | .str _, _, _ => rfl
  | .list ds, _, h => by
    cases h with
    | lst _ ha => exact noDictAll ds _ ha
  | .tuple ds, _, h => by
    cases h with
    | tup _ ha => exact noDictAll ds _ ha
  | .dict _, _, h => by cases h
theorem noDictAll {K : PySem.W.Frag} {H : Hp} : ∀ (ds : List PyData) (vs : List V), DpAll K H vs ds → PyData.hasDictAll ds = false
  | [], _, _ => rfl
  | d :: ds, _, h => by
    cases h with
    | cons h1 h2 =>
      show (d.hasDict || PyData.hasDictAll ds) = false
      rw [noDict d _ h1, noDictAll ds _ h2]
      rfl
end
section
variable {X : Cx} {k : Nat}
theorem call_repr (hgd : X.A.guards = some []) (hr : Room k X.A) : CallR X (.builtin "repr") (rRepr X.K) := by
  intro pins s σ H xs us Q I r h
  obtain ⟨v, d, rfl, hd, hs, hdp, hz, q⟩ := h
  obtain ⟨u, rfl, r1⟩ := vals1 r
  have hu : X.A.units + (d.depth + 1) < cLine := by
    have := hr.units
    omega
  have fin : ∀ (h' : Heap) (t : Tok) (tk : Nat), (∀ b o, s.heap.get? b = some o → h'.get? b = some o) → EP X pins σ Q (.str d.shown t) { s with heap := h', toks := tk } :=
    fun h' t tk hk => ⟨.str d.shown, H, I.kept (t' := tk) hk, ⟨t, rfl⟩, q⟩
  rcases hd with hd | ⟨a, rfl, rfl, ha⟩
  · have hn := noDict d v hd
    obtain ⟨as, rd⟩ := Dp.reads I d v u hd r1
    cases hd with
    | non => cases (show u = Value.none from r1); exact PySem.P.repr_of_none (fin s.heap _ _ fun _ _ e => e)
    | bl b => cases (show u = Value.bool b from r1); exact PySem.P.repr_of_bool (fin s.heap _ _ fun _ _ e => e)
    | int i =>
      obtain ⟨t, e⟩ := (show ∃ t, u = Value.int i t from r1)
      cases e
      exact PySem.P.repr_of_int (of_decide_eq_true hs) (fin s.heap _ _ fun _ _ e => e)
    | str z =>
      obtain ⟨t, e⟩ := (show ∃ t, u = Value.str z t from r1)
      cases e
      exact PySem.P.repr_of_str (fin s.heap _ _ fun _ _ e => e) hz
    | @lst a xs ds _ _ =>
      cases (show u = Value.ref a from r1)
      exact repr_of_reads' rd hs (PyData.noDict_hsm hn) hgd hu (fun _ _ e => e) (fun h' t tk hk => fin h' t tk hk) hz
    | @tup a xs ds _ _ =>
      cases (show u = Value.ref a from r1)
      exact repr_of_reads' rd hs (PyData.noDict_hsm hn) hgd hu (fun _ _ e => e) (fun h' t tk hk => fin h' t tk hk) hz
  · cases (show u = Value.ref a from r1)
    obtain ⟨_, hne, vs, kv, o, es, ep, e1, e2, e3, e4⟩ := (show ObjOk X.prog X.w H s.heap a (.dK []) from I.hok a _ ha)
    cases kv
    have hes : es.toList = [] := by
      obtain ⟨_, pr, _⟩ := e4
      revert pr
      generalize es.toList = l
      intro pr
      cases pr
      rfl
    have rd : Reads s.heap (.ref a) (.dict []) (a :: [] ++ []) := .dict e1 e2.1 e3 (by rw [hes]; exact .nil) (by rw [hes]; exact .nil)
    exact repr_of_reads' rd hs (fun _ hm => by simp at hm; simp [hm] at hne) hgd hu (fun _ _ e => e) (fun h' t tk hk => fin h' t tk hk) hz
end
/-! ### an error that stands behind its except suite -/
/-- at a: an error of the class cls, its own dict at d -/
def ExA (cls : Value) (d : Option Addr) (a : Addr) : HO := .ext fun h => ∃ (oe : Obj) (vs : Array Value), h.get? a = some oe ∧ Zc cls d oe ∧ oe.data = .fields vs
theorem exA_ok {P : Program} {w : World} {H : Hp} {h : Heap} {a : Addr} {cls : Value} {d : Option Addr} {oe : Obj} {vs : Array Value} (e : h.get? a = some oe) (z : Zc cls d oe) (hd : oe.data = .fields vs) : ObjOk P w H h a (ExA cls d a) :=
  ⟨⟨oe, vs, e, z, hd⟩, ⟨oe, e⟩, fun _ _ ⟨o, v, q, r⟩ k => ⟨o, v, k o q, r⟩⟩
section
variable {X : Cx} {pins : List (Addr × Obj)} {σ : L2.St} {H : Hp} {s : Shared}
/-- an object of the heap that was not there at the entry, tracked from now on -/
theorem track {a : Addr} {o : HO} (I : Inv X pins σ H s) (h0 : X.s_0.heap.get? a = none) (na : H a = none) (nL : a ≠ X.env.locals) (nC : ∀ x c, X.env.cells.lookup x = some c → c ≠ a) (nP : ∀ p ∈ X.pn ++ pins, p.1 ≠ a)
    (new : ObjOk X.prog X.w (upd H a o) s.heap a o) : Inv X pins σ (upd H a o) s := by
  have ne0 : ∀ b ob, X.s_0.heap.get? b = some ob → b ≠ a := fun b ob e z => by rw [z, h0] at e; cases e
  refine ⟨I.ok, I.os, I.bare, ⟨I.base.keep, I.base.slot, fun b ob e n hx => ?_, I.base.there, fun b xs e => ?_, fun b ob u e => ?_, fun b ps e => ?_⟩, I.loc, I.cell, ?_, fun x c e => ?_, fun p hp => ?_, fun b u e => ?_, I.len⟩
  · rw [upd_ne (ne0 b ob e)]
    exact I.base.free b ob e n hx
  · have z := I.base.tups b xs e
    rw [upd_ne (ne_of_none z na)]
    exact z
  · have z := I.base.frzs b ob u e
    rw [upd_ne (ne_of_none z na)]
    exact z
  · obtain ⟨m, z⟩ := I.base.tbls b ps e
    exact ⟨m, by rw [upd_ne (ne_of_none z na)]; exact z⟩
  · rw [upd_ne (Ne.symm nL)]
    exact I.free
  · rw [upd_ne (nC x c e)]
    exact I.freeC x c e
  · obtain ⟨e, n, r⟩ := I.pin p hp
    exact ⟨e, by rw [upd_ne (nP p hp)]; exact n, r⟩
  · by_cases hb : b = a
    · subst hb
      rw [upd_same] at e
      cases e
      exact new
    · rw [upd_ne hb] at e
      exact (I.hok b u e).stay (fun _ _ _ q => q) (fun c q => by rw [upd_ne (ne_of_none q na)]; exact q) fun c xs q => by rw [upd_ne (ne_of_none q na)]; exact q
end
/-- the wish of «except c as n: y = n»: slot i is n's, slot j is y's -/
def wKeep (K : PySem.W.Frag) (c : Value) (i j n : Nat) (Wout : WX) (D : Ends) : WX := fun cls d σ H =>
  ∃ b, PySem.W.exmOne K cls c = some b ∧ (b = true → ∀ a, H a = none → σ.length = n → D.nx (((σ.set i (some (.ref a))).set j (some (.ref a))).set i none) (upd H a (ExA cls d a))) ∧ (b = false → Wout cls d σ H)
section
variable {X : Cx} {x n y : Str} {c : Value} {i j : Nat} {body : List Stmt} {np p1 p2 p3 pos pos' : Pos} {tb : WX → TS} {Wout : WX}
theorem ps_try_keep (hs : X.stack = X.env :: X.outer) (hf : X.env.frame = some X.env.locals) (hN : X.N.Nodup) (hi : X.N[i]? = some n) (hln : X.env.kindOf n = some .local) (hj : X.N[j]? = some y) (hly : X.env.kindOf y = some .local) (hex : X.ex = []) (hc : Names X x c) (tk : Takes X Wout)
    (hb : ∀ (W : WX) (pn : List (Addr × Obj)) (xe : Value → Shared → Prop), Takes (X.tr pn xe) W → PassesOwn (model X.prog X.w) X.A X.env xe → PSs (X.tr pn xe) body (tb W)) (hd1 : (n == ("__debug__" : Str)) = false := by decide) (hd2 : (n == ("__classdict__" : Str)) = false := by decide) :
    PS X (.Try body [.ExceptHandler (some (.Name x np)) (some n) [.Assign [.Name y p1] (.Name n p2) p3] pos'] [] [] pos) (fun D σ H => tb (wKeep X.K c i j X.N.length Wout D) D σ H) := by
  refine ⟨fun pins s σ H D I h => ?_⟩
  have ok := I.ok
  have hfr : X.A.frames = some (X.env :: X.outer) := by rw [ok.frames, hs]
  refine wpAny_Try_except ?_
  refine wpAny_mono ((hb (wKeep X.K c i j X.N.length Wout D) (X.pn ++ pins) (fun e t1 => wpAny (model X.prog X.w) X.A (noteFrame e X.env) (fun _ t2 => wpAny (model X.prog X.w) X.A (setFlight e none) (fun _ t3 =>
    wpAny (model X.prog X.w) X.A (handleBy e X.env [.ExceptHandler (some (.Name x np)) (some n) [.Assign [.Name y p1] (.Name n p2) p3] pos']) (SP X pins D) X.xe t3) X.xe t2) X.xe t1) (fun u s' xx => ?_) PassesOwn.looking).run [] s σ H D (I.toTry _) h) (fun fl t1 hsp => ?_) (fun _ _ he => he)
  · obtain ⟨a, B, sI, pins', σ1, H1, cls, d, rfl, J0, nb, up, sky, na, os, ag, b, hb1, hyes, hno⟩ := xx
    have J : Inv X pins σ1 H1 sI := J0.ofTry ok
    have sky' : Sky B (X.env :: X.outer) a (Zc cls d) X.env.locals s'.heap := by rw [← hs]; exact sky
    show wpAny (model X.prog X.w) X.A (noteFrame (.ref a) X.env) _ _ _
    refine Sky.land Zc.steady hfr hf sky' fun h3 fl3 up3 => ?_
    have J3 : Inv X pins σ1 H1 { s' with heap := h3 } := J.landed nb fl3.1 (up.trans up3) os ag
    obtain ⟨oe3, vs3, he3, hz3, hd3⟩ := fl3.there
    have nfr : a ∉ frs (X.env :: X.outer) := fun hm => by
      obtain ⟨_, o', e', hnf⟩ := fl3.2.2.1.mem hm
      rw [he3] at e'
      cases e'
      exact hnf _ hd3
    have nL : a ≠ X.env.locals := fun z => nfr (List.mem_filterMap.mpr ⟨X.env, List.mem_cons_self, by rw [hf, z]⟩)
    have nF : a ∉ X.fs := fun hm => by
      obtain ⟨e1, he1, q1⟩ := List.mem_filterMap.mp hm
      exact nfr (List.mem_filterMap.mpr ⟨e1, List.mem_cons_of_mem _ he1, q1⟩)
    -- the error was not there at the entry, and is no pin
    have Ba : B.get? a = none := fl3.2.1
    have sIa : sI.heap.get? a = none := by
      cases z : sI.heap.get? a with
      | none => rfl
      | some o =>
        have y := nb a o z (by rw [hs]; exact nfr)
        rw [Ba] at y
        cases y
    have s0a : X.s_0.heap.get? a = none := by
      cases z : X.s_0.heap.get? a with
      | none => rfl
      | some o =>
        obtain ⟨o', y⟩ := J.base.there a o z (by rw [hex]; exact fun w => nomatch w)
        rw [sIa] at y
        cases y
    have nPin : ∀ p ∈ X.pn ++ pins, p.1 ≠ a := fun p hp z => by
      have y := (J.pin p hp).1
      rw [z, sIa] at y
      cases y
    have S3 := J3.suite he3 hd3 na nL nF
    refine wpAny_handleBy_cons (codeAny_handlers_test ?_) (by intro q; cases q)
    have LT : PySem.W.Looks (model X.prog X.w) h3 (typeOf (.ref a)) cls := fun A Q E s k q => wpAny_typeOf_ref (k _ _ he3) (by rw [hz3.1]; exact q)
    have LM := PySem.W.exm_one (M := model X.prog X.w) (J3.kIn) LT hb1
    have test : ∀ {Q : Value → Shared → Prop} {E : Value → Shared → Prop}, Q c { s' with heap := h3 } → wpAny (model X.prog X.w) (X.A.mark (some (.ref a))) (eval (.Name x np) X.env) Q E { s' with heap := h3 } := fun {Q E} q => by
      obtain ⟨hg, hdbg, hm | ⟨hm, hv, hnn⟩⟩ := hc
      · exact ld_glob (X := X.suite a ((a, oe3) :: (X.pn ++ pins))) S3 hg hm q hdbg
      · exact ld_blt (X := X.suite a ((a, oe3) :: (X.pn ++ pins))) S3 hg hm hv q hnn hdbg
    refine test (LM.here ?_)
    cases b with
    | true =>
      refine codeAny_handlers_suite_as ?_
      refine HandSPX.lands_againZ fl3 fun h4 fl4 up4 => ?_
      have J4 : Inv X pins σ1 H1 { s' with heap := h4 } := J.landed nb fl4.1 ((up.trans up3).trans up4) os ag
      obtain ⟨oe4, vs4, he4, hz4, hd4⟩ := fl4.there
      have S4 := J4.suite he4 hd4 na nL nF
      refine store_ok (X := X.suite a ((a, oe4) :: (X.pn ++ pins))) (v := .ref a) S4 hN hi (.inl hln) rfl (fun s5 S5 => ?_) (.inr hln)
      have suite : PSs (X.suite a ((a, oe4) :: (X.pn ++ pins))) [.Assign [.Name y p1] (.Name n p2) p3] (tAsg (tVar i) (gName j)) :=
        pss_one (ps_asg (pe_var (i := i) hi (.inl hln) hd1 hd2) (pg_name (i := j) hN hj (.inl hly) (hf := .inr hly)))
      have hlen : i < σ1.length := by
        rw [J.len]
        exact (List.getElem?_eq_some_iff.mp hi).1
      refine wpAny_mono (suite.run [] s5 _ H1 { nx := fun σ' H' => σ' = (σ1.set i (some (.ref a))).set j (some (.ref a)) ∧ H' = H1, rt := fun _ _ => False } S5 ⟨.ref a, by rw [List.getElem?_set_self hlen], rfl, rfl⟩) (fun fl s6 hsp => ?_) (fun _ _ z => False.elim z)
      cases fl with
      | next =>
        obtain ⟨σ6, H6, S6, eσ, eH⟩ := hsp
        subst eσ
        subst eH
        refine gone_ok (X := X.suite a ((a, oe4) :: (X.pn ++ pins))) S6 hN hi hln fun s7 S7 => ?_
        have ha7 : s7.heap.get? a = some oe4 := (S7.pin (a, oe4) (List.mem_append_left _ List.mem_cons_self)).1
        have J7 := S7.unsuite ok
        have nC : ∀ (x : Str) (c : Addr), X.env.cells.lookup x = some c → c ≠ a := fun x c e z => by
          obtain ⟨v, o, ho, hdc⟩ := J7.cell x c e
          rw [z, ha7] at ho
          cases ho
          rw [hd4] at hdc
          cases hdc
        exact ⟨_, _, track J7 s0a na nL nC nPin (exA_ok ha7 hz4 hd4), hyes rfl a na J.len⟩
      | brk => obtain ⟨_, _, _, z⟩ := hsp; exact z.elim
      | cont => obtain ⟨_, _, _, z⟩ := hsp; exact z.elim
      | ret u => obtain ⟨_, _, _, _, _, z⟩ := hsp; exact z.elim
    | false =>
      show wpAny _ X.A (handleBy (.ref a) X.env []) _ _ _
      refine wpAny_handleBy_nil ?_
      obtain ⟨w1, w2, w3, oe, vs, T, oT, ts', he, hz, hdd, h1, hr⟩ := id fl3
      unfold PySem.passOn
      refine wpAny_bind (wpAny_field he hdd h1 ?_)
      rw [if_neg (show ¬ ((Value.ref T == Value.none) = true) from by simp)]
      have fin : wpAny (model X.prog X.w) X.A (setFlight (.ref a) X.env.frame) (fun _ s4 => wpAny (model X.prog X.w) X.A (throw (.ref a) : Sem Flow) (SP X pins D) X.xe s4) X.xe { s' with heap := h3 } := by
        rw [hf]
        refine HandSPX.setFlight_upZ fl3 fun h4 hh4 up4 => wpAny_throw (tk _ _ ?_)
        exact ⟨a, B, sI, pins, σ1, H1, cls, d, rfl, J, nb, (up.trans up3).trans up4, .inr (.inr (by rw [hs]; exact hh4)), na, os, ag, hno rfl⟩
      first
        | exact wpAny_bind (wpAny_pure (wpAny_bind fin))
        | exact wpAny_bind fin
  · cases fl with
    | next =>
      obtain ⟨σ', H', J', q⟩ := hsp
      exact wpAny_execs_nil ⟨σ', H', J'.ofTry ok, q⟩
    | brk =>
      obtain ⟨σ', H', J', q⟩ := hsp
      exact ⟨σ', H', J'.ofTry ok, q⟩
    | cont =>
      obtain ⟨σ', H', J', q⟩ := hsp
      exact ⟨σ', H', J'.ofTry ok, q⟩
    | ret u =>
      obtain ⟨v, σ', H', J', r, q⟩ := hsp
      exact ⟨v, σ', H', J'.ofTry ok, r, q⟩
end
/-! ### isinstance and fields of such an error -/
structure ExcK (K : PySem.W.Frag) (C : Addr) : Prop where
  cl : (PySem.W.clsIn K C).isSome = true
  ga : PySem.W.findIn K (.ref C) "__getattribute__" = some (some (.builtin "BaseException.__getattribute__"))
  gg : PySem.W.findIn K (.ref C) "__getattr__" = some none
  sb : PySem.W.subIn K (.ref C) (.type "BaseException") = some true
  ha : PySem.W.findIn K (.ref C) "__class__" = some (some (.builtin "object.__class__"))
  hn : PySem.W.specialIn K (.builtin "object.__class__") "__get__" = some (some (.builtin "getset_descriptor.__get__"))
  ht : PySem.W.takesIn K (.builtin "object.__class__") = some true
  hm : PySem.W.mroIn K C (.type "object") = some true
/-- isinstance(e, D) -/
def rIsA (K : PySem.W.Frag) : List V → Hp → VK → Prop := fun xs H Q => ∃ (a C d : Addr) (fs : List (Str × V)) (c : V) (cv : Value) (b : Bool), xs = [.ref a, c] ∧ ClsV c cv ∧ ExcK K C ∧ H a = some (ExA (.ref C) (some d) a) ∧ H d = some (.xd fs) ∧ PySem.W.kitOne K (.ref C) cv = some b ∧ Q (.bl b) H
section
variable {X : Cx} {pins : List (Addr × Obj)} {σ : L2.St} {H : Hp} {s : Shared}
theorem exA_at {a C d : Addr} {fs : List (Str × V)} (I : Inv X pins σ H s) (ha : H a = some (ExA (.ref C) (some d) a)) (hd : H d = some (.xd fs)) :
    ∃ (oe od : Obj) (mA : Str → Option Value), PySem.W.InstAt s.heap a oe C (some od) ∧ (∀ name, PySem.W.lookIn name od = some (mA name)) ∧ ∀ f, RelO (fs.lookup f) (mA f) := by
  obtain ⟨⟨oe, vs, ho, hz, hdat⟩, _, _⟩ := I.hok a _ ha
  obtain ⟨mA, hns, hr⟩ := (show ObjOk X.prog X.w H s.heap d (.xd fs) from I.hok d _ hd)
  obtain ⟨od, hod, hl⟩ := lookIn_ns hns
  exact ⟨oe, od, mA, ⟨ho, hz.1, by unfold PySem.W.notCls; rw [hdat] <;> rfl, by rw [hz.2]; exact hod⟩, hl, hr⟩
theorem call_isA : CallR X (.builtin "isinstance") (rIsA X.K) := by
  intro pins s σ H xs us Q I r h
  obtain ⟨a, C, d, fs, c, cv, b, rfl, k, T, ha, hd, e, q⟩ := h
  obtain ⟨u1, u2, rfl, r1, r2⟩ := vals2 r
  cases (show u1 = Value.ref a from r1)
  have e2 := k.eq r2
  subst e2
  obtain ⟨oe, od, mA, J, _, _⟩ := exA_at I ha hd
  exact PySem.W.kia_one (PySem.W.kitx_exc T.cl T.ga T.gg T.sb T.ha T.hn T.ht T.hm) I.kIn J e (fun z => nomatch z) fun t => ⟨.bl b, H, I.tok t, rfl, q⟩
/-- e.f -/
def tXa (K : PySem.W.Frag) (f : Str) (te : TE) : TE := fun σ H Q => te σ H fun x H1 => ∃ (a C d : Addr) (fs : List (Str × V)) (v : V), x = .ref a ∧ H1 a = some (ExA (.ref C) (some d) a) ∧ H1 d = some (.xd fs) ∧ XfC K C ∧ PySem.W.findIn K (.ref C) f = some none ∧ fs.lookup f = some v ∧ Q v H1
theorem pe_xa {e : Expr} {te : TE} {n : Str} {pos : Pos} (he : PE X e te) (hb : attributeBase e n X.env (eval e X.env) = eval e X.env := by rfl) : PE X (.Attribute e n pos) (tXa X.K n te) := by
  refine ⟨fun pins s σ H Q I h => ?_⟩
  refine attr_of hb (thn (he.run pins s σ H _ I h) fun u s1 hh => ?_)
  obtain ⟨x, H1, I1, rx, a, C, d, fs, v, ex, ha, hd, T, hno, l, q⟩ := hh
  subst ex
  obtain rfl : u = Value.ref a := rx
  obtain ⟨oe, od, mA, J, hl, hr⟩ := exA_at I1 ha hd
  obtain ⟨u, hu, ru⟩ := RelO.some_of (v := v) (o := mA n) (by rw [← l]; exact hr n)
  exact HandSPX.exc_get I1.kIn J T.ga T.gg T.exC (PySem.W.findObj_own T.hdC hno rfl (by rw [hl, hu])) (handed_of ru) ⟨v, H1, I1.tok _, ru, q⟩
end
end My
/-! Defs by name, the pen. -/
namespace My
open PySem PySem.Spec PyProof.Rows L2
/-- a def of the module that keeps its promise -/
structure DefAt (P : Program) (w : World) (K : PySem.W.Frag) (mg : Str → Option Value) (base : Heap) (CX : CXT) (k : Nat) (x : Str) (ps : List Str) (sp : Sp) : Prop where
  ex : ∃ f fd, FnOk P w K mg base CX k f fd ps sp ∧ mg x = some (.ref f) ∧ PySem.W.keepIn K (.ref f) = true ∧ L2.Binds K fd ps []
structure DefG (P : Program) (w : World) (K : PySem.W.Frag) (mg : Str → Option Value) (base : Heap) (CX : CXT) (k : Nat) (x : Str) (ps : List Str) (sp : Sp) : Prop where
  ex : ∃ f fd, FnG P w K mg base CX k f fd ps sp ∧ mg x = some (.ref f) ∧ PySem.W.keepIn K (.ref f) = true ∧ L2.Binds K fd ps []
section
variable {X : Cx} {CX : CXT} {k : Nat} {ps : List Str} {sp : Sp} {E : XK} {x : Str} {e : Expr} {es : List Expr} {t : TA} {p pos : Pos}
theorem pe_d (D : DefAt X.prog X.w X.K X.mg X.base CX k x ps sp) (hr : Room k X.A) (hg : Gl X x) (hx : Passes CX X E) (ha : PA X (e :: es) t) (hdb : (x == ("__debug__" : Str)) = false := by decide)
    (hs : starEach (e :: es) X.env = (false, eval e X.env) :: starEach es X.env := by rfl) (hpl : (backTo pos (starEach es X.env)).any (·.1) = false := by rfl) : PE X (.Call (.Name x p) (e :: es) [] pos) (tCall sp [] E t) := by
  obtain ⟨f, fd, F, m, hk, b⟩ := D.ex
  exact pe_call F hr hg m hk b .nil hx ha hdb hs hpl
theorem pe_dG (D : DefG X.prog X.w X.K X.mg X.base CX k x ps sp) (hgd : X.A.guards = some []) (hr : Room k X.A) (hg : Gl X x) (hx : Passes CX X E) (ha : PA X (e :: es) t) (hdb : (x == ("__debug__" : Str)) = false := by decide)
    (hs : starEach (e :: es) X.env = (false, eval e X.env) :: starEach es X.env := by rfl) (hpl : (backTo pos (starEach es X.env)).any (·.1) = false := by rfl) : PE X (.Call (.Name x p) (e :: es) [] pos) (tCall sp [] E t) := by
  obtain ⟨f, fd, F, m, hk, b⟩ := D.ex
  exact pe_callG F hgd hr hg m hk b hx ha hdb hs hpl
end
/-- a class of the module that is made by its __init__, some defaults filled up -/
structure MakeAt (P : Program) (w : World) (K : PySem.W.Frag) (mg : Str → Option Value) (base : Heap) (CX : CXT) (k : Nat) (x : Str) (C : Addr) (ps : List Str) (sp : Sp) (dvs : List V) : Prop where
  ex : ∃ f fd ds, Mk K C f ∧ FnOk P w K mg base CX k f fd ps sp ∧ mg x = some (.ref C) ∧ L2.Binds K fd ps ds ∧ Vals dvs ds
structure MethAt (P : Program) (w : World) (K : PySem.W.Frag) (mg : Str → Option Value) (base : Heap) (CX : CXT) (k : Nat) (C : Addr) (m : Str) (ps : List Str) (sp : Sp) : Prop where
  ex : ∃ f fd, Meth K C m f ∧ FnOk P w K mg base CX k f fd ps sp ∧ L2.Binds K fd ps []
/-- .. called with keywords alone: their names ks, gV puts them in the parameters' order -/
structure MethK (P : Program) (w : World) (K : PySem.W.Frag) (mg : Str → Option Value) (base : Heap) (CX : CXT) (k : Nat) (C : Addr) (m : Str) (ps ks : List Str) (sp : Sp) (gV : List V → List V → List V) : Prop where
  ex : ∃ f fd g, Meth K C m f ∧ FnOk P w K mg base CX k f fd ps sp ∧ KBn K fd ps 1 ks g gV
structure CallAt (P : Program) (w : World) (K : PySem.W.Frag) (mg : Str → Option Value) (base : Heap) (CX : CXT) (k : Nat) (C : Addr) (ps : List Str) (sp : Sp) : Prop where
  ex : ∃ f fd, StX.CallO K C f ∧ FnOk P w K mg base CX k f fd ps sp ∧ L2.Binds K fd ps []
section
variable {X : Cx} {CX : CXT} {k : Nat} {C : Addr} {ps ks : List Str} {sp : Sp} {E : XK} {x m : Str} {e o fe : Expr} {es : List Expr} {kws : List Keyword} {t tk : TA} {ta tf : TE} {p pos apos : Pos} {dvs : List V} {gV : List V → List V → List V}
theorem pe_mk (M : MakeAt X.prog X.w X.K X.mg X.base CX k x C ps sp dvs) (hr : Room (k + 1) X.A) (hg : Gl X x) (hx : Passes CX X E) (ha : PA X (e :: es) t) (hdb : (x == ("__debug__" : Str)) = false := by decide)
    (hs : starEach (e :: es) X.env = (false, eval e X.env) :: starEach es X.env := by rfl) (hpl : (backTo pos (starEach es X.env)).any (·.1) = false := by rfl) : PE X (.Call (.Name x p) (e :: es) [] pos) (tMake C sp dvs E t) := by
  obtain ⟨f, fd, ds, mk, F, hm, b, d⟩ := M.ex
  exact pe_make mk F hr hg hm b d hx ha hdb hs hpl
theorem pe_mt {pl : Sem Bool} (c : Cls X.K C) (M : MethAt X.prog X.w X.K X.mg X.base CX k C m ps sp) (hr : Room k X.A) (hx : Passes CX X E) (he : PE X o ta) (ha : PA X (e :: es) t)
    (hst : starEach (e :: es) X.env = (false, eval e X.env) :: starEach es X.env := by rfl) (hpl : (backTo pos (starEach es X.env)).any (·.1) = false := by rfl)
    (ht : eval (.Call (.Attribute o m apos) (e :: es) [] pos) X.env = (do
      let ov ← eval o X.env
      standAt apos.atName
      let (f, first) ← holding [ov] (getMethod ov m pl)
      callWith pos f first (backTo pos (starEach (e :: es) X.env)) (backToKw pos (keywordEach [] X.env))) := by rfl) :
    PE X (.Call (.Attribute o m apos) (e :: es) [] pos) (tMeth C m sp [] E ta t) := by
  obtain ⟨f, fd, hm, F, b⟩ := M.ex
  exact pe_meth he c hm F hr b .nil hx ha hst hpl ht
theorem pe_mt0 {pl : Sem Bool} (c : Cls X.K C) (M : MethAt X.prog X.w X.K X.mg X.base CX k C m ps sp) (hr : Room k X.A) (hx : Passes CX X E) (he : PE X o ta)
    (ht : eval (.Call (.Attribute o m apos) [] [] pos) X.env = (do
      let ov ← eval o X.env
      standAt apos.atName
      let (f, first) ← holding [ov] (getMethod ov m pl)
      callWith pos f first (backTo pos (starEach [] X.env)) (backToKw pos (keywordEach [] X.env))) := by rfl) :
    PE X (.Call (.Attribute o m apos) [] [] pos) (tMeth C m sp [] E ta tNil) := by
  obtain ⟨f, fd, hm, F, b⟩ := M.ex
  exact pe_meth0 he c hm F hr b .nil hx ht
/-- o.m(k = v, ..) -/
def tMethK (C : Addr) (m : Str) (j : Nat) (sp : Sp) (gV : List V → List V → List V) (E : XK) (ta : TE) (tk : TA) : TE := fun σ H Q => ta σ H fun x H1 => ∃ a dx fs, x = .ref a ∧ H1 a = some (.ins C dx fs) ∧ fs.lookup m = none ∧
  tk σ H1 fun zs H2 => zs.length = j ∧ sp (gV [.ref a] zs) H2 Q E
theorem pe_mtK {pl : Sem Bool} (c : Cls X.K C) (M : MethK X.prog X.w X.K X.mg X.base CX k C m ps ks sp gV) (hr : Room k X.A) (hx : Passes CX X E) (he : PE X o ta) (hkw : PK X kws tk)
    (hall : (backToKw pos (keywordEach kws X.env)).all (·.1.isSome) = true := by rfl) (hks : (backToKw pos (keywordEach kws X.env)).filterMap (·.1) = ks := by rfl)
    (hpl : ((backTo pos (starEach [] X.env)).any (·.1) || (backToKw pos (keywordEach kws X.env)).any (·.1.isNone)) = false := by rfl)
    (ht : eval (.Call (.Attribute o m apos) [] kws pos) X.env = (do
      let ov ← eval o X.env
      standAt apos.atName
      let (f, first) ← holding [ov] (getMethod ov m pl)
      callWith pos f first (backTo pos (starEach [] X.env)) (backToKw pos (keywordEach kws X.env))) := by rfl) :
    PE X (.Call (.Attribute o m apos) [] kws pos) (tMethK C m ks.length sp gV E ta tk) := by
  obtain ⟨f, fd, g, hm, F, b⟩ := M.ex
  refine ⟨fun pins s σ H Q I h => ?_⟩
  refine PySem.W.methodCall_KW (pl := pl) (thn (he.run pins s σ H _ I h) fun u s1 ⟨x, H1, I1, rx, a, dx, fs, ex, ea, l, q⟩ => ?_) ht
  subst ex
  obtain rfl : u = Value.ref a := rx
  refine getmeth_ok I1 ea c hm l ?_
  refine PySem.W.callWith_KW0 (first := [.ref a]) (h₀ := X.base) I.ok.mod.kin hm.kp hall (thn (hkw.run pos pins s1 σ H1 _ I1 q) fun ws s2 ⟨zs, H2, I2, rz, l2, q2⟩ => ⟨I2.kIn, ?_⟩) hpl
  rw [hks]
  exact run_fnN (us := [.ref a]) (vs := [.ref a]) F hr b hx I2 (.cons rfl .nil) rz rfl l2 q2
theorem pe_cl (M : CallAt X.prog X.w X.K X.mg X.base CX k C ps sp) (hr : Room k X.A) (hx : Passes CX X E) (hf : PE X fe tf) (ha : PA X (e :: es) t)
    (ht : eval (.Call fe (e :: es) [] pos) X.env = (do callWith pos (← eval fe X.env) [] (backTo pos (starEach (e :: es) X.env)) (backToKw pos (keywordEach [] X.env))) := by rfl)
    (hs : starEach (e :: es) X.env = (false, eval e X.env) :: starEach es X.env := by rfl) (hpl : (backTo pos (starEach es X.env)).any (·.1) = false := by rfl) : PE X (.Call fe (e :: es) [] pos) (StX.tCallO X C sp E tf t) := by
  obtain ⟨f, fd, c, F, b⟩ := M.ex
  refine StX.pe_callO hf c (fun A outer s H us vs Q E hr e0 r hsp => ?_) hr hx ha ht hs hpl
  have hl : (us ++ []).length = ps.length := by rw [List.append_nil, ← r.length]; exact F.len _ _ _ _ hsp
  have hb := b s us (e0.mod.kin.keeps fun b o e => (e0.bs b o e).1) hl
  rw [List.append_nil] at hb
  exact F.run A outer s H ⟨us, []⟩ us vs Q E hr e0 hb r hsp
end
/-- an own comparison -/
structure CmpAt (P : Program) (w : World) (K : PySem.W.Frag) (mg : Str → Option Value) (base : Heap) (CX : CXT) (k : Nat) (C : Addr) (m : Str) (ps : List Str) (sp : Sp) : Prop where
  ex : ∃ f fd, PySem.W.findIn K (.ref C) m = some (some (.ref f)) ∧ PySem.W.isFn K (.ref f) = true ∧ FnOk P w K mg base CX k f fd ps sp ∧ L2.Binds K fd ps []
def rCmpO (K : PySem.W.Frag) (C : Addr) (sp : Sp) (E : XK) : R2 := fun x y H Q => ∃ a dx fs t, x = .ref a ∧ H a = some (.ins C dx fs) ∧ TyX K H y t ∧ PySem.W.notFirst K C t = true ∧ sp [.ref a, y] H Q E
theorem op_cmpO {X : Cx} {CX : CXT} {k : Nat} {C : Addr} {m : Str} {ps : List Str} {sp : Sp} {E : XK} {op : CmpOp} (M : CmpAt X.prog X.w X.K X.mg X.base CX k C m ps sp) (hr : Room k X.A) (hx : Passes CX X E) (hop : (cmpInfo op).2.1 = m := by rfl)
    (hco : ∀ v u, compareOp op v u = richCompare op v u := by intro _ _; rfl) : OpR X (compareOp op) (rCmpO X.K C sp E) := by
  intro pins s σ H x y v u Q I rx ry h
  obtain ⟨f, fd, hs, hf, F, hb⟩ := M.ex
  obtain ⟨a, dx, fs, t, rfl, ha, ty, hn, hsp⟩ := h
  obtain rfl : v = Value.ref a := rx
  obtain ⟨mA, J, _⟩ := ins_get I.hok ha
  obtain ⟨od, J, _⟩ := J.look
  obtain ⟨m', hF⟩ := I.fr
  obtain ⟨Pz, Z, pz, _⟩ := kit_of I ry ty
  rw [hco]
  refine PySem.W.cmp_K (op := op) (tb := t) hr.units0 hF I.ok.mod.kin J (Z.ty _ _ I.kIn pz) hn (by rw [hop]; exact hs) hf ?_
  have hl := F.len _ _ _ _ hsp
  have r2 : Vals [V.ref a, y] [Value.ref a, u] := .cons rfl (.cons ry .nil)
  refine wpAny_call (codeAny_mono (F.run X.A X.stack s H ⟨[.ref a, u], []⟩ [.ref a, u] [.ref a, y] _ E hr I.env0 (by
    have := hb s [.ref a, u] I.kIn (by simpa using hl)
    simpa using this) r2 hsp) fun r s' hq => ?_)
  cases r with
  | error e => exact hx pins σ H s e s' I hq
  | ok fl =>
    cases fl with
    | ret z =>
      have q := I.after hq
      obtain ⟨zv, H', I', rz, q'⟩ := id q
      cases z with
      | notImplemented => cases zv <;> first | (cases rz; done) | (obtain ⟨_, rz⟩ := rz; cases rz)
      | _ => exact q
    | next => exact False.elim hq
    | brk => exact False.elim hq
    | cont => exact False.elim hq
/-! ### the pen: a list of the cells, an index, what is left of a great cell -/
def PenAt (H : Hp) (pn : Addr) (n : Nat) : Prop := ∃ (cl : Addr) (ns : List Int) (at_ rest : Int), H pn = some (.lst [.ref cl, .int at_, .int rest]) ∧ H cl = some (.lst (ns.map V.int)) ∧ ns.length ≤ 63 ∧ 0 ≤ at_ ∧ at_ ≤ n
/-- all but pn stays -/
def But (pn : Addr) (H H' : Hp) : Prop := ∀ b o, H b = some o → b ≠ pn → H' b = some o
theorem But.refl (pn : Addr) (H : Hp) : But pn H H := fun _ _ h _ => h
theorem But.trans {pn : Addr} {H H1 H2 : Hp} (a : But pn H H1) (b : But pn H1 H2) : But pn H H2 := fun c o h n => b c o (a c o h n) n
theorem But.new {pn p : Addr} {H : Hp} {o : HO} (h : H p = none) : But pn H (upd H p o) := fun b u e _ => by rw [upd_ne (ne_of_none e h)]; exact e
theorem But.put {pn : Addr} {H : Hp} {o : HO} : But pn H (upd H pn o) := fun b u e n => by rw [upd_ne n]; exact e
theorem pen_new {H : Hp} {pn p : Addr} {n : Nat} {o : HO} (h : PenAt H pn n) (hp : H p = none) : PenAt (upd H p o) pn n := by
  obtain ⟨cl, ns, a, r, h1, h2, h3⟩ := h
  exact ⟨cl, ns, a, r, by rw [upd_ne (ne_of_none h1 hp)]; exact h1, by rw [upd_ne (ne_of_none h2 hp)]; exact h2, h3⟩
theorem PenAt.le {H : Hp} {pn : Addr} {n m : Nat} (h : PenAt H pn n) (le : n ≤ m) : PenAt H pn m := by
  obtain ⟨cl, ns, a, r, h1, h2, h3, h4, h5⟩ := h
  exact ⟨cl, ns, a, r, h1, h2, h3, h4, by omega⟩
def spDraw : Sp := fun vs H Q _ => ∃ (pn : Addr) (m : Int) (n : Nat), vs = [.ref pn, .int m] ∧ 0 < m ∧ m.natAbs.log2 < 9000 ∧ PenAt H pn n ∧ n < 100000 ∧
  ∀ (d : Int) (H' : Hp), 0 ≤ d → d < m → PenAt H' pn (n + 1) → But pn H H' → Q (.int d) H'
/-- pick(pen, some): one of some -/
def spPick : Sp := fun vs H Q _ => ∃ (pn l : Addr) (n : Nat) (xs : List V), vs = [.ref pn, .ref l] ∧ H l = some (.lst xs) ∧ l ≠ pn ∧ 0 < xs.length ∧ xs.length ≤ 1000 ∧ PenAt H pn n ∧ n < 100000 ∧
  ∀ (v : V) (H' : Hp), v ∈ xs → PenAt H' pn (n + 1) → But pn H H' → Q v H'
def spPen (K : PySem.W.Frag) : Sp := fun vs H Q _ => ∃ (a : Addr) (ns : List Int), vs = [.ref a] ∧ SqL K H a (ns.map V.int) ∧
  ∀ (pn : Addr) (H' : Hp), H pn = none → PenAt H' pn 0 → Same H H' → Q (.ref pn) H'
/-! ### lists of ints as data -/
theorem dp_ints {K : PySem.W.Frag} {H : Hp} : ∀ ns : List Int, DpAll K H (ns.map V.int) (ns.map PyData.int)
  | [] => .nil
  | n :: ns => .cons (.int n) (dp_ints ns)
theorem lay_ints : ∀ ns : List Int, PyData.canLayAll0 (ns.map PyData.int) = true
  | [] => rfl
  | n :: ns => by
    show (true && PyData.canLayAll0 (ns.map PyData.int)) = true
    rw [lay_ints ns]
    rfl
theorem dep_ints : ∀ ns : List Int, PyData.depthAll (ns.map PyData.int) = 0
  | [] => rfl
  | n :: ns => by
    show max 0 (PyData.depthAll (ns.map PyData.int)) = 0
    rw [dep_ints ns]
    rfl
theorem shaped_ints (ns : List Int) : SeqAt.shaped (.list (ns.map PyData.int)) = true := by
  show (PyData.canLayAll0 (ns.map PyData.int) && decide (PyData.depthAll (ns.map PyData.int) + 1 ≤ 64)) = true
  rw [lay_ints, dep_ints]
  rfl
theorem pow_lt {i : Int} {b : Nat} (h0 : 0 ≤ i) (h : i < 2 ^ b) : i.natAbs < 2 ^ b := by
  have e : ((2 ^ b : Nat) : Int) = (2 : Int) ^ b := by simp
  omega
theorem mix_lt {x a c d e : Int} (x0 : 0 ≤ x) (x1 : x < 2147483648) (a0 : 0 ≤ a) (a1 : a < 100000) (c0 : 0 ≤ c) (c1 : c ≤ 1000) (d0 : 0 ≤ d) (d1 : d ≤ 100000) (e0 : 0 ≤ e) (e1 : e ≤ 100000) : (x * (2 * a + c) + d * a * a + e).natAbs < 2 ^ 64 := by
  have h1 : x * (2 * a + c) ≤ 2147483648 * 201000 := Int.mul_le_mul (by omega) (by omega) (by omega) (by decide)
  have h2 : 0 ≤ x * (2 * a + c) := Int.mul_nonneg x0 (by omega)
  have h3 : d * a ≤ 100000 * 100000 := Int.mul_le_mul d1 (by omega) a0 (by decide)
  have h4 : 0 ≤ d * a := Int.mul_nonneg d0 a0
  have h5 : d * a * a ≤ (100000 * 100000) * 100000 := Int.mul_le_mul h3 (by omega) a0 (by decide)
  have h6 : 0 ≤ d * a * a := Int.mul_nonneg h4 a0
  generalize x * (2 * a + c) = y at *
  generalize d * a * a = z at *
  refine pow_lt (by omega) (by omega)
theorem cut_ints (ns : List Int) (k : Nat) : cutV (ns.map V.int) none (some (k : Int)) = (ns.take k).map V.int := by
  unfold cutV
  rw [HT.sIx_none, HT.sIx_nat, List.drop_zero, Nat.sub_zero, List.map_take, List.length_map]
  by_cases h : k ≤ ns.length
  · rw [Nat.min_eq_left h]
  · rw [Nat.min_eq_right (by omega), List.take_of_length_le (by rw [List.length_map]; exact Nat.le_refl _), List.take_of_length_le (by rw [List.length_map]; omega)]
/-- names that are still the built-in ones -/
structure BI (mg : Str → Option Value) : Prop where
  z_len : mg "len" = none
  z_abs : mg "abs" = none
  z_int : mg "int" = none
  z_bool : mg "bool" = none
  z_list : mg "list" = none
  z_repr : mg "repr" = none
  z_isinstance : mg "isinstance" = none
  z_range : mg "range" = none
end My
namespace My
open PySem PySem.Spec PyProof.Rows L2
def topS (i : Nat) : Stmt := PySem.Challenge.pw_clipfades_k17_lines_halved_and_refined.main.body.getD i (.Pass ⟨0, 0, 0, 0⟩)
abbrev s_pen : Stmt := topS 19
abbrev s_draw : Stmt := topS 20
abbrev s_pick : Stmt := topS 21
theorem sc_pen : FnScope ["_law_script"] ["_law_script"] (defScope s_pen) := ⟨rfl, rfl, rfl, by decide +kernel, rfl, by decide +kernel, by decide +kernel⟩
theorem sc_draw : FnScope ["_law_pen_here", "_law_many", "_law_digit", "_law_at", "_law_cell", "_law_great", "_law_mixed"] ["_law_pen_here", "_law_many"] (defScope s_draw) := ⟨rfl, rfl, rfl, by decide +kernel, rfl, by decide +kernel, by decide +kernel⟩
theorem sc_pick : FnScope ["_law_pen_here", "_law_some"] ["_law_pen_here", "_law_some"] (defScope s_pick) := ⟨rfl, rfl, rfl, by decide +kernel, rfl, by decide +kernel, by decide +kernel⟩
section
variable {P : Program} {w : World} {K : PySem.W.Frag} {mg : Str → Option Value} {base : Heap}
theorem ok_pen {f : Addr} {fd : FuncData} (F : Fun K "_law_pen" "_law_pen" s_pen f fd) (T : BI mg) : FnOk P w K mg base CX0 1 f fd ["_law_script"] (spPen K) := by
  refine F.ok sc_pen (fun vs H Q E h => ?_) (fun cdv A outer s H vs Q E hr h => ?_)
  · obtain ⟨a, ns, rfl, _⟩ := h
    rfl
  · obtain ⟨a, ns, rfl, hS, k⟩ := h
    refine ⟨_, (pss_one (ps_ret (pe_lst (pa_cons (pe_callTy call_list_of (by rfl) T.z_list boot_list (pa_cons (pe_slice sl_list (pv 0) po_none (po_some pe_int)) pa_nil)) (pa_cons pe_int (pa_cons pe_int pa_nil)))))), ?_⟩
    refine ⟨_, rfl, 63, rfl, a, _, rfl, hS, fun p hp => ?_⟩
    refine ⟨p, _, rfl, .inl (SqL.of upd_same), fun l hl => ?_⟩
    refine ⟨(by show 3 ≤ sizeLine; decide), fun pn hpn => ?_⟩
    have npl : p ≠ l := ne_of_none upd_same hl
    have hlp : l ≠ pn := ne_of_none upd_same hpn
    have e1 : cutV (ns.map V.int) none (some 63) = (ns.take 63).map V.int := cut_ints ns 63
    have s0 : Same H (upd (upd (upd H p (.lst (cutV (ns.map V.int) none (some 63)))) l (.lst (cutV (ns.map V.int) none (some 63)))) pn (.lst [.ref l, .int 0, .int 0])) := fun b o z => by
      have z1 : (upd H p (.lst (cutV (ns.map V.int) none (some 63)))) b = some o := by rw [upd_ne (ne_of_none z hp)]; exact z
      have z2 : (upd (upd H p (.lst (cutV (ns.map V.int) none (some 63)))) l (.lst (cutV (ns.map V.int) none (some 63)))) b = some o := by rw [upd_ne (ne_of_none z1 hl)]; exact z1
      rw [upd_ne (ne_of_none z2 hpn)]
      exact z2
    have n1 : H pn = none := by
      cases z : H pn with
      | none => rfl
      | some o =>
        rw [upd_ne (Ne.symm hlp)] at hpn
        by_cases y : pn = p
        · rw [y, hp] at z
          cases z
        · rw [upd_ne y, z] at hpn
          cases hpn
    refine k pn _ n1 ⟨l, ns.take 63, 0, 0, upd_same, ?_, ?_, Int.le_refl _, Int.le_refl _⟩ s0
    · rw [upd_ne hlp, upd_same, e1]
    · rw [List.length_take]
      omega
theorem ok_draw {f : Addr} {fd : FuncData} (F : Fun K "_law_draw" "_law_draw" s_draw f fd) (T : BI mg) : FnOk P w K mg base CX0 1 f fd ["_law_pen_here", "_law_many"] spDraw := by
  refine F.ok sc_draw (fun vs H Q E h => ?_) (fun cdv A outer s H vs Q E hr h => ?_)
  · obtain ⟨pn, m, n, rfl, _⟩ := h
    rfl
  · obtain ⟨pn, m, n, rfl, hm, hml, ⟨cl, ns, at_, rest, h1, h2, h3, h4, h5⟩, hn, k⟩ := h
    refine ⟨_, (pss_cons (ps_if (pt_cmpR op_gt (pe_ix ix_list (pv 0) pe_int (fun _ _ => rfl)) pe_int (nomark _)) (pss_cons (ps_set (i := 2) sc_draw.nd rfl (Or.inl rfl) (pe_op op_mod (pe_callTy call_int1 (by rfl) T.z_int boot_int (pa_cons (pe_ix ix_list (pv 0) pe_int (fun _ _ => rfl)) pa_nil)) (pv 1)))
      (pss_cons (ps_asg (pe_op op_fdivW (pe_callTy call_int1 (by rfl) T.z_int boot_int (pa_cons (pe_ix ix_list (pv 0) pe_int (fun _ _ => rfl)) pa_nil)) (pv 1)) (pg_sub (pv 0) pe_int set_list))
      (pss_one (ps_ret (pv 2))))) pss_nil)
      (pss_cons (ps_set (i := 3) sc_draw.nd rfl (Or.inl rfl) (pe_ix ix_list (pv 0) pe_int (fun _ _ => rfl)))
      (pss_cons (ps_asg (pe_op op_add (pv 3) pe_int) (pg_sub (pv 0) pe_int set_list))
      (pss_cons (ps_set (i := 4) sc_draw.nd rfl (Or.inl rfl) (pe_op op_add (pe_op op_mul pe_int (pv 3)) pe_int))
      (C8.pss_cut (ps_if (pt_cmpR (op_neD hr.units) (pe_ix ix_list (pv 0) pe_int (fun _ _ => rfl)) (pe_lst pa_nil) (nomark _)) (pss_one (ps_set (i := 4) sc_draw.nd rfl (Or.inl rfl) (pe_ix ix_list (pe_ix ix_list (pv 0) pe_int (fun _ _ => rfl)) (pe_op op_mod (pe_callTy call_int1 (by rfl) T.z_int boot_int (pa_cons (pv 3) pa_nil)) (pe_callB call_len (by rfl) T.z_len PySem.boot_len (pa_cons (pe_ix ix_list (pv 0) pe_int (fun _ _ => rfl)) pa_nil))) (fun _ _ => rfl)))) pss_nil)
      (C8.pss_cut (ps_if (PW.pt (pw_and (pt_cmpR op_lt (pv 3) (pe_callB call_len (by rfl) T.z_len PySem.boot_len (pa_cons (pe_ix ix_list (pv 0) pe_int (fun _ _ => rfl)) pa_nil)) (nomark _)) (pw_and1 (pt_cmpR op_ge (pe_callB call_abs (by rfl) T.z_abs boot_abs (pa_cons (pv 4) pa_nil)) (pe_op op_pow pe_int pe_int) (nomark _))))) (pss_cons (ps_set (i := 5) sc_draw.nd rfl (Or.inl rfl) (pe_op op_add (pe_op op_mul pe_int (pe_op op_sub (pe_callB call_abs (by rfl) T.z_abs boot_abs (pa_cons (pv 4) pa_nil)) (pe_op op_pow pe_int pe_int))) (pe_callTy call_int1 (by rfl) T.z_int boot_int (pa_cons (pe_cmpR op_lt (pv 4) pe_int (nomark _)) pa_nil))))
      (pss_cons (ps_asg (pe_op op_fdivW (pe_callTy call_int1 (by rfl) T.z_int boot_int (pa_cons (pv 5) pa_nil)) (pv 1)) (pg_sub (pv 0) pe_int set_list))
      (pss_one (ps_ret (pe_op op_mod (pe_callTy call_int1 (by rfl) T.z_int boot_int (pa_cons (pv 5) pa_nil)) (pv 1)))))) pss_nil)
      (pss_cons (ps_set (i := 6) sc_draw.nd rfl (Or.inl rfl) (pe_op op_mod (pe_callTy call_int1 (by rfl) T.z_int boot_int (pa_cons (pe_op op_pow (pe_op op_add (pe_op op_add (pe_op op_mod (pe_callTy call_int1 (by rfl) T.z_int boot_int (pa_cons (pv 4) pa_nil)) pe_int) (pe_op op_mul pe_int (pv 3))) pe_int) pe_int) pa_nil)) pe_int))
      (pss_cons (ps_set (i := 6) sc_draw.nd rfl (Or.inl rfl) (pe_op op_mod (pe_callTy call_int1 (by rfl) T.z_int boot_int (pa_cons (pe_op op_pow (pe_op op_add (pe_op op_add (pe_op op_mul (pv 6) (pe_op op_add (pe_op op_mul pe_int (pv 3)) pe_int)) (pe_op op_mul (pe_op op_mul pe_int (pv 3)) (pv 3))) pe_int) pe_int) pa_nil)) pe_int))
      (pss_one (ps_ret (pe_op op_mod (pe_callTy call_int1 (by rfl) T.z_int boot_int (pa_cons (pe_op op_fdivW (pv 6) pe_int) pa_nil)) (pv 1)))))))))))), ?_⟩
    have i2 : atI [V.ref cl, V.int at_, V.int rest] 2 = some (V.int rest) := rfl
    have i1 : atI [V.ref cl, V.int at_, V.int rest] 1 = some (V.int at_) := rfl
    have i0 : atI [V.ref cl, V.int at_, V.int rest] 0 = some (V.ref cl) := rfl
    refine ⟨_, rfl, pn, _, _, _, rfl, rfl, SqL.of h1, i2, _, _, rfl, rfl, _, rfl, ?_⟩
    have npc : cl ≠ pn := ne_of h2 h1 (by
      intro z
      injection z with z
      cases ns with
      | nil => cases z
      | cons a l => cases z)
    refine ite2 (fun c => ?_) (fun c => ?_)
    · refine ⟨_, rfl, pn, _, _, _, rfl, rfl, SqL.of h1, i2, .inl ⟨rest, rfl, _, rfl, _, _, rfl, rfl, hm, ?_⟩⟩
      refine ⟨_, rfl, pn, _, _, _, rfl, rfl, SqL.of h1, i2, .inl ⟨rest, rfl, _, rfl, _, _, rfl, rfl, ⟨hm, hml⟩, _, rfl, pn, _, _, 2, rfl, rfl, h1, rfl, ?_⟩⟩
      refine ⟨_, rfl, k _ _ (Int.emod_nonneg _ (by omega)) (Int.emod_lt_of_pos _ hm) ?_ But.put⟩
      exact ⟨cl, ns, at_, rest / m, upd_same, by rw [upd_ne npc]; exact h2, h3, h4, by omega⟩
    · refine ⟨_, rfl, pn, _, _, _, rfl, rfl, SqL.of h1, i1, ?_⟩
      refine ⟨_, rfl, _, _, rfl, rfl, _, rfl, pn, _, _, 1, rfl, rfl, h1, rfl, ?_⟩
      refine ⟨_, rfl, _, _, rfl, rfl, .inl ⟨by decide, by decide⟩, _, _, rfl, rfl, ?_⟩
      have i0' : atI [V.ref cl, V.int (at_ + 1), V.int rest] 0 = some (V.ref cl) := rfl
      refine ⟨fun σ H2 => ∃ (cell : Int) (v5 v6 : Option V), σ = [some (.ref pn), some (.int m), none, some (.int at_), some (.int cell), v5, v6] ∧ H2 pn = some (.lst [.ref cl, .int (at_ + 1), .int rest]) ∧ H2 cl = some (.lst (ns.map V.int)) ∧ But pn H H2, ?_, ?_⟩
      · refine ⟨_, rfl, pn, _, _, _, rfl, rfl, SqL.of upd_same, i0', (by show 0 ≤ sizeLine; decide), fun l hl => ?_⟩
        have nlp : pn ≠ l := ne_of_none (upd_same (H := H) (a := pn)) hl
        have nlc : cl ≠ l := ne_of_none (by rw [upd_ne npc]; exact h2) hl
        have w1 : (upd (upd H pn (.lst [.ref cl, .int (at_ + 1), .int rest])) l (.lst [])) pn = some (.lst [.ref cl, .int (at_ + 1), .int rest]) := by rw [upd_ne nlp, upd_same]
        have w2 : (upd (upd H pn (.lst [.ref cl, .int (at_ + 1), .int rest])) l (.lst [])) cl = some (.lst (ns.map V.int)) := by rw [upd_ne nlc, upd_ne npc]; exact h2
        have wb : But pn H (upd (upd H pn (.lst [.ref cl, .int (at_ + 1), .int rest])) l (.lst [])) := But.put.trans (But.new hl)
        refine ⟨.list (ns.map PyData.int), .list [], .lst (SqL.of w2) (dp_ints ns), .lst (SqL.of upd_same) .nil, shaped_ints ns, rfl, _, rfl, ?_⟩
        cases ns with
        | nil =>
          refine iteF ?_
          exact ⟨_, _, _, rfl, w1, w2, wb⟩
        | cons z zs =>
          refine iteT ?_
          have hl0 : (0 : Int) < (((z :: zs).map V.int).length : Int) := by
            rw [List.length_map, List.length_cons]
            omega
          obtain ⟨v, hv⟩ : ∃ v, ((z :: zs))[(at_ % (((z :: zs).map V.int).length : Int)).toNat]? = some v := by
            have g := Int.emod_lt_of_pos at_ hl0
            have g0 := Int.emod_nonneg at_ (show (((z :: zs).map V.int).length : Int) ≠ 0 by omega)
            refine ⟨_, List.getElem?_eq_getElem ?_⟩
            rw [List.length_map] at g g0 ⊢
            omega
          refine ⟨_, rfl, pn, _, _, _, rfl, rfl, SqL.of w1, i0', _, rfl, .inl ⟨at_, rfl, _, rfl, pn, _, _, _, rfl, rfl, SqL.of w1, i0', _, _, rfl, .inl ⟨_, SqL.of w2, rfl⟩, _, _, rfl, rfl, hl0, cl, _, _, .int v, rfl, rfl, SqL.of w2, ?_, ?_⟩⟩
          · have g0 := Int.emod_nonneg at_ (show (((z :: zs).map V.int).length : Int) ≠ 0 by omega)
            refine at_of (j := (at_ % (((z :: zs).map V.int).length : Int)).toNat) (by omega) ?_
            rw [List.getElem?_map, hv]
            rfl
          · exact ⟨_, _, _, rfl, w1, w2, wb⟩
      · rintro σ H2 ⟨cell, v5, v6, rfl, g1, g2, hb⟩
        have pen2 : ∀ r : Int, PenAt (upd H2 pn (.lst [.ref cl, .int (at_ + 1), .int r])) pn (n + 1) := fun r =>
          ⟨cl, ns, at_ + 1, r, upd_same, by rw [upd_ne npc]; exact g2, h3, by omega, by omega⟩
        refine ⟨fun σ H3 => ∃ (v5 v6 : Option V), σ = [some (.ref pn), some (.int m), none, some (.int at_), some (.int cell), v5, v6] ∧ H3 = H2, ?_, ?_⟩
        · refine ⟨_, rfl, _, rfl, pn, _, _, _, rfl, rfl, SqL.of g1, i0', _, _, rfl, .inl ⟨_, SqL.of g2, rfl⟩, _, _, rfl, rfl, _, rfl, ?_⟩
          refine ite2 (fun c1 => ?_) (fun c1 => iteF ⟨_, _, rfl, rfl⟩)
          refine ⟨_, rfl, _, rfl, _, _, rfl, rfl, ⟨by decide, by decide, by decide⟩, _, _, rfl, rfl, _, rfl, ?_⟩
          refine ite2 (fun c2 => ?_) (fun c2 => ⟨_, _, rfl, rfl⟩)
          refine ⟨_, rfl, _, rfl, _, _, rfl, rfl, ⟨by decide, by decide, by decide⟩, _, _, rfl, rfl, _, _, rfl, rfl, .inl ⟨by decide, by decide⟩, _, rfl, _, _, rfl, rfl, .inr ⟨_, rfl, _, _, rfl, rfl, ?_⟩⟩
          refine ⟨_, rfl, .inl ⟨_, rfl, _, rfl, _, _, rfl, rfl, ⟨hm, hml⟩, _, rfl, pn, _, _, 2, rfl, rfl, g1, rfl, ?_⟩⟩
          refine ⟨_, rfl, .inl ⟨_, rfl, _, rfl, _, _, rfl, rfl, hm, ?_⟩⟩
          exact k _ _ (Int.emod_nonneg _ (by omega)) (Int.emod_lt_of_pos _ hm) (pen2 _) (hb.trans But.put)
        · rintro σ H3 ⟨v5, v6, rfl, rfl⟩
          have ea : at_ < 100000 := by omega
          refine ⟨_, rfl, .inl ⟨_, rfl, _, _, rfl, rfl, (by show (0 : Int) < _; decide), _, rfl, _, _, rfl, rfl, .inl ⟨by decide, by decide⟩, _, _, rfl, rfl, _, _, rfl, rfl, _, _, rfl, rfl, ⟨by decide, by decide, ?_⟩, .inl ⟨_, rfl, _, _, rfl, rfl, (by show (0 : Int) < _; decide), ?_⟩⟩⟩
          · have e1 := Int.emod_nonneg cell (show (2147483563 : Int) ≠ 0 by decide)
            have e2 := Int.emod_lt_of_pos cell (show (0 : Int) < 2147483563 by decide)
            refine pow_lt (by omega) (by omega)
          have x0 := Int.emod_nonneg ((cell % 2147483563 + 61427 * at_ + 165) ^ Int.toNat 5) (show (2147483629 : Int) ≠ 0 by decide)
          have x1 := Int.emod_lt_of_pos ((cell % 2147483563 + 61427 * at_ + 165) ^ Int.toNat 5) (show (0 : Int) < 2147483629 by decide)
          refine ⟨_, rfl, _, rfl, _, _, rfl, rfl, .inl ⟨by decide, by decide⟩, _, _, rfl, rfl, _, _, rfl, rfl, .inl ⟨Int.lt_of_lt_of_le (by decide) x0, Int.lt_trans x1 (by decide)⟩, _, rfl, _, _, rfl, rfl, .inl ⟨by decide, by decide⟩, _, rfl, _, _, rfl, rfl, .inr ⟨by omega, by omega⟩, _, _, rfl, rfl, _, _, rfl, rfl, _, _, rfl, rfl, ⟨by decide, by decide, ?_⟩, .inl ⟨_, rfl, _, _, rfl, rfl, (by show (0 : Int) < _; decide), ?_⟩⟩
          · exact mix_lt x0 (Int.lt_trans x1 (by decide)) h4 ea (by decide) (by decide) (by decide) (by decide) (by decide) (by decide)
          refine ⟨_, rfl, _, _, rfl, rfl, ⟨by decide, by decide⟩, .inl ⟨_, rfl, _, rfl, _, _, rfl, rfl, hm, ?_⟩⟩
          exact k _ _ (Int.emod_nonneg _ (by omega)) (Int.emod_lt_of_pos _ hm) ⟨cl, ns, at_ + 1, rest, g1, g2, h3, by omega, by omega⟩ hb
theorem ok_pick {f : Addr} {fd : FuncData} (F : Fun K "_law_pick" "_law_pick" s_pick f fd) (T : BI mg) (D_draw : DefAt P w K mg base CX0 1 "_law_draw" ["_law_pen_here", "_law_many"] spDraw) : FnOk P w K mg base CX0 2 f fd ["_law_pen_here", "_law_some"] spPick := by
  refine F.ok sc_pick (fun vs H Q E h => ?_) (fun cdv A outer s H vs Q E hr h => ?_)
  · obtain ⟨pn, l, n, xs, rfl, _⟩ := h
    rfl
  · obtain ⟨pn, l, n, xs, rfl, hl, nl, h0, h1, hp, hn, k⟩ := h
    refine ⟨_, (pss_one (ps_ret (pe_ix ix_list (pv 1) (My.pe_d D_draw (hr.mono (by decide)) (by rfl) pass0 (pa_cons (pv 0) (pa_cons (pe_callB call_len (by rfl) T.z_len PySem.boot_len (pa_cons (pv 1) pa_nil)) pa_nil))) (fun _ _ => rfl)))), ?_⟩
    refine ⟨_, rfl, _, rfl, _, rfl, _, _, rfl, .inl ⟨_, SqL.of hl, rfl⟩, pn, _, n, rfl, by omega, ?_, hp, hn, fun d H' d0 d1 hp' hb => ?_⟩
    · refine Nat.lt_of_lt_of_le (PySem.Flt.log2_lt_of (k := 10) (by decide) ?_) (by decide)
      show xs.length < 1024
      omega
    · obtain ⟨v, hv⟩ : ∃ v, xs[d.toNat]? = some v := ⟨_, List.getElem?_eq_getElem (by omega)⟩
      refine ⟨l, _, _, v, rfl, rfl, SqL.of (hb l _ hl nl), at_of (j := d.toNat) (by omega) hv, ?_⟩
      exact k v H' (List.mem_of_getElem? hv) hp' hb
end
end My
namespace My
open PySem PySem.Spec PyProof.Rows L2
/-! ### values of other kinds -/
/-- the built-in kind of a value -/
inductive Ty0 (H : Hp) : V → String → Prop where
  | non : Ty0 H .non "NoneType"
  | bl (b : Bool) : Ty0 H (.bl b) "bool"
  | int (i : Int) : Ty0 H (.int i) "int"
  | str (x : Str) : Ty0 H (.str x) "str"
  | lst {a : Addr} {xs : List V} (e : H a = some (.lst xs)) : Ty0 H (.ref a) "list"
  | tup {a : Addr} {xs : List V} (e : H a = some (.tup xs)) : Ty0 H (.ref a) "tuple"
  | dK {a : Addr} {kvs : List (Key × V)} (e : H a = some (.dK kvs)) : Ty0 H (.ref a) "dict"
theorem Ty0.tyx {K : PySem.W.Frag} {H : Hp} {v : V} {t : String} (h : Ty0 H v t) : TyX K H v (.type t) := by
  cases h with
  | non => exact .base .non
  | bl b => exact .base (.bl b)
  | int i => exact .base (.int i)
  | str x => exact .base (.str x)
  | lst e => exact .base (.lst e)
  | tup e => exact .base (.tup e)
  | dK e => exact .base (.dK e)
def isI : V → Bool
  | .int _ => true
  | _ => false
theorem isI_int {v : V} (h : isI v = true) : ∃ i, v = .int i := by
  cases v with
  | int i => exact ⟨i, rfl⟩
  | _ => cases h
def isT (t : String) : Bool := t == "int"
theorem Ty0.isI {H : Hp} {v : V} {t : String} (h : Ty0 H v t) : My.isI v = isT t := by cases h <;> rfl
theorem Ty0.kint {K : PySem.W.Frag} {H : Hp} {v : V} {t : String} (h : Ty0 H v t) : ∃ b, PySem.W.kitOne K (.type t) (.type "int") = some b ∧ (b = true → ∃ c, PySem.W.kitOne K (.type t) (.type "bool") = some c ∧ My.isI v = !c) ∧ (b = false → My.isI v = false) := by
  cases h with
  | non => exact ⟨false, kit_ty (by decide +kernel), (fun z => Bool.noConfusion z), fun _ => rfl⟩
  | bl b => exact ⟨true, kit_ty (by decide +kernel), fun _ => ⟨true, kit_ty (by decide +kernel), rfl⟩, (fun z => Bool.noConfusion z)⟩
  | int i => exact ⟨true, kit_ty (by decide +kernel), fun _ => ⟨false, kit_ty (by decide +kernel), rfl⟩, (fun z => Bool.noConfusion z)⟩
  | str x => exact ⟨false, kit_ty (by decide +kernel), (fun z => Bool.noConfusion z), fun _ => rfl⟩
  | lst e => exact ⟨false, kit_ty (by decide +kernel), (fun z => Bool.noConfusion z), fun _ => rfl⟩
  | tup e => exact ⟨false, kit_ty (by decide +kernel), (fun z => Bool.noConfusion z), fun _ => rfl⟩
  | dK e => exact ⟨false, kit_ty (by decide +kernel), (fun z => Bool.noConfusion z), fun _ => rfl⟩
theorem Ty0.keep {H H' : Hp} {v : V} {t : String} (h : Ty0 H v t) (k : ∀ b o, H b = some o → (∀ p, v = .ref p → p = b → H' b = some o)) : Ty0 H' v t := by
  cases h with
  | non => exact .non
  | bl b => exact .bl b
  | int i => exact .int i
  | str x => exact .str x
  | lst e => exact .lst (k _ _ e _ rfl rfl)
  | tup e => exact .tup (k _ _ e _ rfl rfl)
  | dK e => exact .dK (k _ _ e _ rfl rfl)
theorem Ty0.same {H H' : Hp} {v : V} {t : String} (h : Ty0 H v t) (k : Same H H') : Ty0 H' v t := h.keep fun b o e _ _ _ => k b o e
theorem same_new {H : Hp} {p : Addr} {o : HO} (h : H p = none) : Same H (upd H p o) := fun b u e => by rw [upd_ne (ne_of_none e h)]; exact e
/-- is_integer(v) -/
def spIsint : Sp := fun vs H Q _ => ∃ (v : V) (t : String), vs = [v] ∧ Ty0 H v t ∧ Q (.bl (isI v)) H
abbrev s_isint : Stmt := topS 9
theorem sc_isint : FnScope ["thing"] ["thing"] (defScope s_isint) := ⟨rfl, rfl, rfl, by decide +kernel, rfl, by decide +kernel, by decide +kernel⟩
abbrev s_init : Stmt := inClass (topS 13) 0
theorem sc_init : FnScope ["self", "slope", "more", "part", "value"] ["self", "slope", "more"] (defScope s_init) := ⟨rfl, rfl, rfl, by decide +kernel, rfl, by decide +kernel, by decide +kernel⟩
/-! ### lines -/
def lfs (a b : Int) : List (Str × V) := putF "more" (.int b) (putF "slope" (.int a) [])
theorem sm : ¬ (("slope" : Str) = "more") := by decide +kernel
theorem lfs_slope (a b : Int) : (lfs a b).lookup ("slope" : Str) = some (.int a) := by
  unfold lfs
  rw [lookup_putF, if_neg sm, lookup_putF, if_pos rfl]
theorem lfs_more (a b : Int) : (lfs a b).lookup ("more" : Str) = some (.int b) := by
  unfold lfs
  rw [lookup_putF, if_pos rfl]
theorem lfs_no (a b : Int) {m : Str} (h1 : ¬ m = "more") (h2 : ¬ m = "slope") : (lfs a b).lookup m = none := by
  unfold lfs
  rw [lookup_putF, if_neg h1, lookup_putF, if_neg h2]
  rfl
/-- at p: a Line of the class at C with these parts -/
def LineAt (C : Addr) (H : Hp) (p : Addr) (a b : Int) : Prop := ∃ dx, H p = some (.ins C dx (lfs a b))
theorem LineAt.same {C : Addr} {H H' : Hp} {p : Addr} {a b : Int} (h : LineAt C H p a b) (k : Same H H') : LineAt C H' p a b := by
  obtain ⟨dx, e⟩ := h
  exact ⟨dx, k _ _ e⟩
/-- what the top has written of Line and its errors -/
structure LTx (P : Program) (K : PySem.W.Frag) (mg : Str → Option Value) (CLine CBadLine fBadLine CBadRest fBadRest : Addr) : Prop extends BI mg where
  cl : Cls K CLine
  nS : NoAttr K CLine "slope"
  nM : NoAttr K CLine "more"
  gLine : mg "Line" = some (.ref CLine)
  ha : PySem.W.findIn K (.ref CLine) "__class__" = some (some (.builtin "object.__class__"))
  hn : PySem.W.specialIn K (.builtin "object.__class__") "__get__" = some (some (.builtin "getset_descriptor.__get__"))
  ht : PySem.W.takesIn K (.builtin "object.__class__") = some true
  hm : PySem.W.mroIn K CLine (.type "object") = some true
  me : PySem.W.kitOne K (.ref CLine) (.ref CLine) = some true
  e_BadLine : Sup.Err1 P K mg "BadLine" "part" CBadLine fBadLine
  e_BadRest : Sup.Err1 P K mg "BadRest" "value" CBadRest fBadRest
/-- Line.__init__(self, slope, more) -/
def spInit (C CB : Addr) : Sp := fun vs H Q E => ∃ (p dx : Addr) (sv mv : V) (ts tm : String), vs = [.ref p, sv, mv] ∧ H p = some (.ins C dx []) ∧ Ty0 H sv ts ∧ Ty0 H mv tm ∧
  (∀ a b H', sv = .int a → mv = .int b → H' p = some (.ins C dx (lfs a b)) → (∀ c o, H c = some o → c ≠ p → H' c = some o) → Q .non H') ∧
  (isI sv = false → ∀ d H', H d = none → H' d = some (.xd [("part", .str "slope")]) → Same H H' → E (.ref CB) (some d) H') ∧
  (isI sv = true → isI mv = false → ∀ d H', H d = none → H' d = some (.xd [("part", .str "more")]) → Same H H' → E (.ref CB) (some d) H')
section
variable {P : Program} {w : World} {K : PySem.W.Frag} {mg : Str → Option Value} {base : Heap} {CLine CBadLine fBadLine CBadRest fBadRest : Addr}
theorem ok_isint {f : Addr} {fd : FuncData} (F : Fun K "is_integer" "is_integer" s_isint f fd) (T : BI mg) : FnOk P w K mg base CX0 1 f fd ["thing"] spIsint := by
  refine F.ok sc_isint (fun vs H Q E h => ?_) (fun cdv A outer s H vs Q E hr h => ?_)
  · obtain ⟨v, t, rfl, _⟩ := h
    rfl
  · obtain ⟨v, t, rfl, ty, q⟩ := h
    refine ⟨_, (pss_one (ps_ret (pe_and (pe_callB call_isi (by rfl) T.z_isinstance boot_isinstance (pa_cons (pv 0) (pa_cons (pe_bltn (v := .ty "int") (by rfl) T.z_int boot_int rfl) pa_nil))) (pe_one (pe_not (pe_callB call_isi (by rfl) T.z_isinstance boot_isinstance (pa_cons (pv 0) (pa_cons (pe_bltn (v := .ty "bool") (by rfl) T.z_bool boot_bool rfl) pa_nil)))))))), ?_⟩
    obtain ⟨b, e1, e2, e3⟩ := ty.kint (K := K)
    refine ⟨_, rfl, v, _, _, _, b, rfl, .ty _, ty.tyx, e1, _, rfl, ?_⟩
    cases b with
    | false =>
      refine iteF ?_
      rw [e3 rfl] at q
      exact q
    | true =>
      refine iteT ?_
      obtain ⟨c, e4, e5⟩ := e2 rfl
      refine ⟨_, rfl, v, _, _, _, c, rfl, .ty _, ty.tyx, e4, _, rfl, ?_⟩
      rw [e5] at q
      exact q
theorem ok_init {f : Addr} {fd : FuncData} (F : FunD K "__init__" "Line.__init__" (defArgs s_init) (defBody s_init) (defScope s_init) [.int 0] [] f fd) (T : LTx P K mg CLine CBadLine fBadLine CBadRest fBadRest)
    (D_isint : DefAt P w K mg base CX0 1 "is_integer" ["thing"] spIsint) : FnOk P w K mg base (L2.CX P w) 3 f fd ["self", "slope", "more"] (spInit CLine CBadLine) := by
  refine F.ok sc_init (fun vs H Q E h => ?_) (fun cdv A outer s H vs Q E hr h => ?_)
  · obtain ⟨p, dx, sv, mv, ts, tm, rfl, _⟩ := h
    rfl
  · obtain ⟨p, dx, sv, mv, ts, tm, rfl, hp, tys, tym, kQ, kS, kM⟩ := h
    refine ⟨_, (pss_cons (ps_for (passes_of rfl) rfl (pi_tup (pe_tup (pa_cons (pe_tup (pa_cons pe_str (pa_cons (pv 1) pa_nil))) (pa_cons (pe_tup (pa_cons pe_str (pa_cons (pv 2) pa_nil))) pa_nil)))) (pg_tup rfl (pgs_cons (pg_name (i := 3) sc_init.nd rfl (Or.inl rfl)) (pgs_cons (pg_name (i := 4) sc_init.nd rfl (Or.inl rfl)) pgs_nil))) (pss_one (ps_if (pt_not (pt_val (My.pe_d D_isint (hr.mono (by decide)) (by rfl) pass0 (pa_cons (pv 4) pa_nil)))) (pss_one (ps_raise1 rfl T.e_BadLine (hr.mono (by decide) : Room 0 _) (takes_of rfl rfl rfl rfl) (pa_cons (pv 3) pa_nil))) pss_nil)))
      (pss_cons (ps_fld (pv 0) (pv 1) rfl)
      (pss_one (ps_fld (pv 0) (pv 2) rfl)))), ?_⟩
    refine ⟨_, rfl, (by show 2 ≤ sizeLine; decide), fun t1 h1 => ⟨_, rfl, (by show 2 ≤ sizeLine; decide), fun t2 h2 => ⟨(by show 2 ≤ sizeLine; decide), fun t3 h3 => ?_⟩⟩⟩
    have w1 : (upd (upd (upd H t1 (.tup [.str "slope", sv])) t2 (.tup [.str "more", mv])) t3 (.tup [.ref t1, .ref t2])) t1 = some (.tup [.str "slope", sv]) := by
      have z1 : (upd H t1 (.tup [.str "slope", sv])) t1 = some (.tup [.str "slope", sv]) := upd_same
      have z2 : (upd (upd H t1 (.tup [.str "slope", sv])) t2 (.tup [.str "more", mv])) t1 = some (.tup [.str "slope", sv]) := by rw [upd_ne (ne_of_none z1 h2)]; exact z1
      rw [upd_ne (ne_of_none z2 h3)]
      exact z2
    have w2 : (upd (upd (upd H t1 (.tup [.str "slope", sv])) t2 (.tup [.str "more", mv])) t3 (.tup [.ref t1, .ref t2])) t2 = some (.tup [.str "more", mv]) := by
      have z2 : (upd (upd H t1 (.tup [.str "slope", sv])) t2 (.tup [.str "more", mv])) t2 = some (.tup [.str "more", mv]) := upd_same
      rw [upd_ne (ne_of_none z2 h3)]
      exact z2
    have s3 : Same H (upd (upd (upd H t1 (.tup [.str "slope", sv])) t2 (.tup [.str "more", mv])) t3 (.tup [.ref t1, .ref t2])) := ((same_new h1).trans (same_new h2)).trans (same_new h3)
    have w3 : (upd (upd (upd H t1 (.tup [.str "slope", sv])) t2 (.tup [.str "more", mv])) t3 (.tup [.ref t1, .ref t2])) t3 = some (.tup [.ref t1, .ref t2]) := upd_same
    generalize (upd (upd (upd H t1 (.tup [.str "slope", sv])) t2 (.tup [.str "more", mv])) t3 (.tup [.ref t1, .ref t2])) = H3 at w1 w2 w3 s3
    refine ⟨t3, rfl, ⟨_, SqT.of w3⟩, for_tup (K := K) (a := t3) (xs := [.ref t1, .ref t2]) (fun i σ H' => ∃ v3 v4, σ = [some (.ref p), some sv, some mv, v3, v4] ∧ H' = H3 ∧ (1 ≤ i → isI sv = true) ∧ (2 ≤ i → isI mv = true))
      ⟨none, none, rfl, rfl, fun z => absurd z (by decide), fun z => absurd z (by decide)⟩ (fun i σ H' _ ⟨_, _, _, e, _⟩ => by rw [e]; exact SqT.of w3) ?_ ?_⟩
    · rintro i x σ H' hi ⟨v3, v4, rfl, rfl, c1, c2⟩
      rcases i with _ | _ | i
      · obtain rfl : V.ref t1 = x := Option.some.inj hi
        refine ⟨t1, _, rfl, SqT.of w1, rfl, _, _, rfl, _, _, rfl, rfl, ?_⟩
        refine ⟨_, rfl, sv, ts, rfl, tys.same s3, _, rfl, ?_⟩
        cases e : isI sv with
        | false =>
          refine iteT ?_
          exact ⟨_, rfl, _, rfl, fun d hd => kS e d _ (s3.free hd) upd_same (s3.trans (same_new hd))⟩
        | true =>
          refine iteF ?_
          exact ⟨_, _, rfl, rfl, fun _ => (by first | exact e | rfl), fun z => absurd z (by decide)⟩
      · obtain rfl : V.ref t2 = x := Option.some.inj hi
        refine ⟨t2, _, rfl, SqT.of w2, rfl, _, _, rfl, _, _, rfl, rfl, ?_⟩
        refine ⟨_, rfl, mv, tm, rfl, tym.same s3, _, rfl, ?_⟩
        cases e : isI mv with
        | false =>
          refine iteT ?_
          exact ⟨_, rfl, _, rfl, fun d hd => kM (c1 (by decide)) e d _ (s3.free hd) upd_same (s3.trans (same_new hd))⟩
        | true =>
          refine iteF ?_
          exact ⟨_, _, rfl, rfl, fun _ => c1 (by decide), fun _ => (by first | exact e | rfl)⟩
      · cases hi
    · rintro σ H' ⟨v3, v4, rfl, rfl, c1, c2⟩
      obtain ⟨a, rfl⟩ := isI_int (c1 (show 1 ≤ 2 by decide))
      obtain ⟨b, rfl⟩ := isI_int (c2 (show 2 ≤ 2 by decide))
      refine ⟨_, rfl, _, rfl, p, CLine, dx, _, rfl, s3 _ _ hp, T.cl, T.nS, (by show 0 < 1000; decide), ?_⟩
      refine ⟨_, rfl, _, rfl, p, CLine, dx, _, rfl, upd_same, T.cl, T.nM, (by show 1 < 1000; decide), ?_⟩
      refine kQ a b _ rfl rfl upd_same fun c o z nc => ?_
      rw [upd_ne nc, upd_ne nc]
      exact s3 c o z
end
end My
namespace My
open PySem PySem.Spec PyProof.Rows L2
abbrev s_call : Stmt := inClass (topS 13) 5
theorem sc_call : FnScope ["self", "m"] ["self", "m"] (defScope s_call) := ⟨rfl, rfl, rfl, by decide +kernel, rfl, by decide +kernel, by decide +kernel⟩
abbrev s_rank : Stmt := inClass (topS 13) 6
theorem sc_rank : FnScope ["self"] ["self"] (defScope s_rank) := ⟨rfl, rfl, rfl, by decide +kernel, rfl, by decide +kernel, by decide +kernel⟩
abbrev s_eq : Stmt := inClass (topS 13) 18
theorem sc_eq : FnScope ["self", "other"] ["self", "other"] (defScope s_eq) := ⟨rfl, rfl, rfl, by decide +kernel, rfl, by decide +kernel, by decide +kernel⟩
abbrev s_half : Stmt := inClass (topS 13) 21
theorem sc_half : FnScope ["self"] ["self"] (defScope s_half) := ⟨rfl, rfl, rfl, by decide +kernel, rfl, by decide +kernel, by decide +kernel⟩
abbrev s_refined : Stmt := inClass (topS 13) 22
theorem sc_refined : FnScope ["self", "times", "rest"] ["self", "times", "rest"] (defScope s_refined) := ⟨rfl, rfl, rfl, by decide +kernel, rfl, by decide +kernel, by decide +kernel⟩
abbrev s_needrest : Stmt := topS 17
theorem sc_needrest : FnScope ["rest", "modulus"] ["rest", "modulus"] (defScope s_needrest) := ⟨rfl, rfl, rfl, by decide +kernel, rfl, by decide +kernel, by decide +kernel⟩
/-- what an error of the class C with the field f = v is wished for -/
def Errs (E : XK) (C : Addr) (f : Str) (v : V) (H : Hp) : Prop := ∀ (d : Addr) (H' : Hp), H d = none → H' d = some (.xd [(f, v)]) → Same H H' → E (.ref C) (some d) H'
theorem Errs.go {E : XK} {C : Addr} {f : Str} {v : V} {H : Hp} (h : Errs E C f v H) {d : Addr} (hd : H d = none) : E (.ref C) (some d) (upd H d (.xd [(f, v)])) := h d _ hd upd_same (same_new hd)
theorem Errs.up {E : XK} {C : Addr} {f : Str} {v : V} {H H1 : Hp} (h : Errs E C f v H) (s : Same H H1) : Errs E C f v H1 := fun d H' hd hx s' => h d H' (s.free hd) hx (s.trans s')
/-- no integer, or one below n -/
def Low (v : V) (n : Int) : Prop := isI v = false ∨ ∃ i, v = .int i ∧ i < n
/-- no rest of t -/
def NoRest (v : V) (t : Int) : Prop := isI v = false ∨ ∃ i, v = .int i ∧ ¬ (0 ≤ i ∧ i < t)
theorem init_ints {C CB : Addr} {H : Hp} {x dx : Addr} {a b : Int} {Q : VK} {E : XK} (hx : H x = none) (hd : H dx = none) (ne : dx ≠ x) (k : ∀ H', LineAt C H' x a b → Same H H' → Q (.ref x) H') :
    spInit C CB [.ref x, .int a, .int b] (upd (upd H dx (.own x)) x (.ins C dx [])) (fun v H2 => v = .non ∧ Q (.ref x) H2) E := by
  refine ⟨x, dx, _, _, _, _, rfl, upd_same, .int a, .int b, fun a' b' H' ea eb h1 h2 => ⟨rfl, ?_⟩, fun z => Bool.noConfusion z, fun _ z => Bool.noConfusion z⟩
  cases ea
  cases eb
  exact k H' ⟨dx, h1⟩ fun c o e => h2 c o (by rw [upd_ne (ne_of_none e hx), upd_ne (ne_of_none e hd)]; exact e) (ne_of_none e hx)
def spCall (C CB : Addr) : Sp := fun vs H Q E => ∃ (p : Addr) (a b : Int) (mv : V) (t : String), vs = [.ref p, mv] ∧ LineAt C H p a b ∧ Ty0 H mv t ∧
  (∀ m, mv = .int m → 0 ≤ m → CMulW a m ∧ Q (.int (a * m + b)) H) ∧ (Low mv 0 → Errs E CB "part" (.str "m") H)
def spRank (C : Addr) : Sp := fun vs H Q _ => ∃ (p : Addr) (a b : Int), vs = [.ref p] ∧ LineAt C H p a b ∧ ∀ t, H t = none → Q (.ref t) (upd H t (.tup [.int a, .int b]))
def spEq (C : Addr) : Sp := fun vs H Q _ => ∃ (p q : Addr) (a b c d : Int), vs = [.ref p, .ref q] ∧ LineAt C H p a b ∧ LineAt C H q c d ∧ ∀ H', Same H H' → Q (.bl (decide (a = c ∧ b = d))) H'
def spNeed (CR : Addr) : Sp := fun vs H Q E => ∃ (rv : V) (t : String) (m : Int), vs = [rv, .int m] ∧ Ty0 H rv t ∧ (∀ r, rv = .int r → 0 ≤ r → r < m → Q .non H) ∧ (NoRest rv m → Errs E CR "value" rv H)
def spHalf (C CB : Addr) : Sp := fun vs H Q E => ∃ (p : Addr) (a b : Int), vs = [.ref p] ∧ LineAt C H p a b ∧
  (¬ a % 2 = 1 → ∀ q H', H q = none → LineAt C H' q (a / 2) (b / 2) → Same H H' → Q (.ref q) H') ∧ (a % 2 = 1 → Errs E CB "part" (.str "slope") H)
def spRef (C CB CR : Addr) : Sp := fun vs H Q E => ∃ (p : Addr) (a b : Int) (tv rv : V) (tt tr : String), vs = [.ref p, tv, rv] ∧ LineAt C H p a b ∧ Ty0 H tv tt ∧ Ty0 H rv tr ∧
  (∀ t r, tv = .int t → rv = .int r → 1 ≤ t → 0 ≤ r → r < t → CMulW a t ∧ CMulW a r ∧ ∀ q H', H q = none → LineAt C H' q (a * t) (a * r + b) → Same H H' → Q (.ref q) H') ∧
  (Low tv 1 → Errs E CB "part" (.str "times") H) ∧ (∀ t, tv = .int t → 1 ≤ t → NoRest rv t → Errs E CR "value" rv H)
section
variable {P : Program} {w : World} {K : PySem.W.Frag} {mg : Str → Option Value} {base : Heap} {CLine CBadLine fBadLine CBadRest fBadRest : Addr}
theorem ok_call {f : Addr} {fd : FuncData} (F : Fun K "__call__" "Line.__call__" s_call f fd) (T : LTx P K mg CLine CBadLine fBadLine CBadRest fBadRest)
    (D_isint : DefAt P w K mg base CX0 1 "is_integer" ["thing"] spIsint) : FnOk P w K mg base (L2.CX P w) 3 f fd ["self", "m"] (spCall CLine CBadLine) := by
  refine F.okX sc_call (fun vs H Q E h => ?_) (fun cdv A outer s H vs Q E hr h => ?_)
  · obtain ⟨p, a, b, mv, t, rfl, _⟩ := h
    rfl
  · obtain ⟨p, a, b, mv, t, rfl, ⟨dx, hp⟩, ty, kQ, kE⟩ := h
    refine ⟨_, (pss_cons (ps_if (PW.pt (pw_or (pt_not (pt_val (My.pe_d D_isint (hr.mono (by decide)) (by rfl) pass0 (pa_cons (pv 1) pa_nil)))) (pw_or1 (pt_cmpR op_lt (pv 1) pe_int (nomark _))))) (pss_one (ps_raise1 rfl T.e_BadLine (hr.mono (by decide) : Room 0 _) (takes_of rfl rfl rfl rfl) (pa_cons pe_str pa_nil))) pss_nil)
      (pss_one (ps_ret (pe_op op_add (pe_op op_mulW (pe_fld (pv 0) rfl) (pv 1)) (pe_fld (pv 0) rfl))))), ?_⟩
    refine ⟨_, rfl, mv, t, rfl, ty, _, rfl, ?_⟩
    cases e : isI mv with
    | false =>
      refine iteT (iteT ?_)
      exact ⟨_, rfl, fun d hd => (kE (.inl e)).go hd⟩
    | true =>
      obtain ⟨m, rfl⟩ := isI_int e
      refine iteF ?_
      refine ⟨_, rfl, _, _, rfl, rfl, _, rfl, ?_⟩
      refine ite2 (fun c => ?_) (fun c => ?_)
      · exact ⟨_, rfl, fun d hd => (kE (.inr ⟨m, rfl, of_decide_eq_true c⟩)).go hd⟩
      · have c' : 0 ≤ m := by
          have z : ¬ m < 0 := fun z => c (decide_eq_true z)
          omega
        obtain ⟨h1, h2⟩ := kQ m rfl c'
        exact ⟨_, rfl, p, CLine, dx, _, _, rfl, hp, T.cl, T.nS, lfs_slope _ _, _, rfl, _, _, rfl, rfl, h1, _, rfl, p, CLine, dx, _, _, rfl, hp, T.cl, T.nM, lfs_more _ _, _, _, rfl, rfl, h2⟩
theorem ok_rank {f : Addr} {fd : FuncData} (F : Fun K "rank" "Line.rank" s_rank f fd) (T : LTx P K mg CLine CBadLine fBadLine CBadRest fBadRest) : FnOk P w K mg base CX0 1 f fd ["self"] (spRank CLine) := by
  refine F.ok sc_rank (fun vs H Q E h => ?_) (fun cdv A outer s H vs Q E hr h => ?_)
  · obtain ⟨p, a, b, rfl, _⟩ := h
    rfl
  · obtain ⟨p, a, b, rfl, ⟨dx, hp⟩, k⟩ := h
    refine ⟨_, (pss_one (ps_ret (pe_tup (pa_cons (pe_fld (pv 0) rfl) (pa_cons (pe_fld (pv 0) rfl) pa_nil))))), ?_⟩
    exact ⟨_, rfl, p, CLine, dx, _, _, rfl, hp, T.cl, T.nS, lfs_slope _ _, _, rfl, p, CLine, dx, _, _, rfl, hp, T.cl, T.nM, lfs_more _ _, (by show 2 ≤ sizeLine; decide), k⟩
theorem ok_eq {f : Addr} {fd : FuncData} (F : Fun K "__eq__" "Line.__eq__" s_eq f fd) (T : LTx P K mg CLine CBadLine fBadLine CBadRest fBadRest)
    (X_rank : MethAt P w K mg base CX0 1 CLine "rank" ["self"] (spRank CLine)) : FnOk P w K mg base CX0 2 f fd ["self", "other"] (spEq CLine) := by
  refine F.ok sc_eq (fun vs H Q E h => ?_) (fun cdv A outer s H vs Q E hr h => ?_)
  · obtain ⟨p, q, a, b, c, d, rfl, _⟩ := h
    rfl
  · obtain ⟨p, q, a, b, c, d, rfl, ⟨dx, hp⟩, ⟨dy, hq⟩, k⟩ := h
    refine ⟨_, (pss_one (ps_ret (pe_and (pe_callB call_isi (by rfl) T.z_isinstance boot_isinstance (pa_cons (pv 1) (pa_cons (pe_glob (v := .ref CLine) (by rfl) T.gLine rfl) pa_nil))) (pe_one (pe_cmpR (op_eqD hr.units) (My.pe_mt0 T.cl X_rank (hr.mono (by decide)) pass0 (pv 0)) (My.pe_mt0 T.cl X_rank (hr.mono (by decide)) pass0 (pv 1)) (nomark _)))))), ?_⟩
    refine ⟨_, rfl, _, _, _, _, true, rfl, .own _, .base (.ins hq T.cl T.ha T.hn T.ht T.hm), T.me, _, rfl, iteT ?_⟩
    refine ⟨_, rfl, p, dx, _, rfl, hp, lfs_no _ _ (by decide +kernel) (by decide +kernel), p, a, b, rfl, ⟨dx, hp⟩, fun t1 h1 => ?_⟩
    have hq1 := same_new (o := .tup [.int a, .int b]) h1 _ _ hq
    refine ⟨_, rfl, q, dy, _, rfl, hq1, lfs_no _ _ (by decide +kernel) (by decide +kernel), q, c, d, rfl, ⟨dy, hq1⟩, fun t2 h2 => ?_⟩
    have w1 := same_new (o := .tup [.int c, .int d]) h2 _ _ (upd_same (H := H) (a := t1) (o := .tup [.int a, .int b]))
    refine ⟨.tuple [.int a, .int b], .tuple [.int c, .int d], .tup (SqT.of w1) (.cons (.int a) (.cons (.int b) .nil)), .tup (SqT.of upd_same) (.cons (.int c) (.cons (.int d) .nil)), rfl, rfl, ?_⟩
    have e : PyData.eqv (.tuple [.int a, .int b]) (.tuple [.int c, .int d]) = decide (a = c ∧ b = d) := by
      show (a == c && (b == d && true)) = decide (a = c ∧ b = d)
      rw [Bool.and_true, Bool.decide_and]
      rfl
    rw [e]
    exact k _ ((same_new h1).trans (same_new h2))
theorem ok_need {f : Addr} {fd : FuncData} (F : Fun K "need_rest" "need_rest" s_needrest f fd) (T : LTx P K mg CLine CBadLine fBadLine CBadRest fBadRest)
    (D_isint : DefAt P w K mg base CX0 1 "is_integer" ["thing"] spIsint) : FnOk P w K mg base (L2.CX P w) 3 f fd ["rest", "modulus"] (spNeed CBadRest) := by
  refine F.okX sc_needrest (fun vs H Q E h => ?_) (fun cdv A outer s H vs Q E hr h => ?_)
  · obtain ⟨rv, t, m, rfl, _⟩ := h
    rfl
  · obtain ⟨rv, t, m, rfl, ty, kQ, kE⟩ := h
    refine ⟨_, (pss_one (ps_if (PW.pt (pw_or (pt_not (pt_val (My.pe_d D_isint (hr.mono (by decide)) (by rfl) pass0 (pa_cons (pv 0) pa_nil)))) (pw_or1 (pt_not (pt_chain op_le op_lt pe_int (pv 0) (pv 1)))))) (pss_one (ps_raise1 rfl T.e_BadRest (hr.mono (by decide) : Room 0 _) (takes_of rfl rfl rfl rfl) (pa_cons (pv 0) pa_nil))) pss_nil)), ?_⟩
    refine ⟨_, rfl, rv, t, rfl, ty, _, rfl, ?_⟩
    cases e : isI rv with
    | false =>
      refine iteT (iteT ?_)
      exact ⟨_, rfl, _, rfl, fun d hd => (kE (.inl e)).go hd⟩
    | true =>
      obtain ⟨r, rfl⟩ := isI_int e
      refine iteF ?_
      refine ⟨_, rfl, _, _, rfl, rfl, _, rfl, ?_⟩
      refine ite2 (fun c => ?_) (fun c => ?_)
      · refine ⟨_, rfl, _, _, rfl, rfl, _, rfl, ?_⟩
        have c0 : 0 ≤ r := of_decide_eq_true c
        cases e2 : decide (r < m) with
        | true =>
          refine iteF ?_
          exact kQ r rfl c0 (of_decide_eq_true e2)
        | false =>
          refine iteT ?_
          exact ⟨_, rfl, _, rfl, fun d hd => (kE (.inr ⟨r, rfl, fun z => of_decide_eq_false e2 z.2⟩)).go hd⟩
      · refine ⟨_, rfl, iteT ?_⟩
        exact ⟨_, rfl, _, rfl, fun d hd => (kE (.inr ⟨r, rfl, fun z => c (decide_eq_true z.1)⟩)).go hd⟩
theorem ok_half {f : Addr} {fd : FuncData} (F : Fun K "half" "Line.half" s_half f fd) (T : LTx P K mg CLine CBadLine fBadLine CBadRest fBadRest)
    (M_Line : MakeAt P w K mg base (L2.CX P w) 3 "Line" CLine ["self", "slope", "more"] (spInit CLine CBadLine) []) : FnOk P w K mg base (L2.CX P w) 5 f fd ["self"] (spHalf CLine CBadLine) := by
  refine F.okX sc_half (fun vs H Q E h => ?_) (fun cdv A outer s H vs Q E hr h => ?_)
  · obtain ⟨p, a, b, rfl, _⟩ := h
    rfl
  · obtain ⟨p, a, b, rfl, ⟨dx, hp⟩, kQ, kE⟩ := h
    refine ⟨_, (pss_cons (ps_if (pt_cmpR op_eq (pe_op op_mod (pe_fld (pv 0) rfl) pe_int) pe_int (nomark _)) (pss_one (ps_raise1 rfl T.e_BadLine (hr.mono (by decide) : Room 0 _) (takes_of rfl rfl rfl rfl) (pa_cons pe_str pa_nil))) pss_nil)
      (pss_one (ps_ret (My.pe_mk M_Line (hr.mono (by decide)) (by rfl) passL (pa_cons (pe_op op_fdivW (pe_fld (pv 0) rfl) pe_int) (pa_cons (pe_op op_fdivW (pe_fld (pv 0) rfl) pe_int) pa_nil)))))), ?_⟩
    refine ⟨_, rfl, p, CLine, dx, _, _, rfl, hp, T.cl, T.nS, lfs_slope _ _, _, _, rfl, rfl, (by show (0 : Int) < 2; decide), rfl, _, rfl, ?_⟩
    refine ite2 (fun c => ?_) (fun c => ?_)
    · have c' : a % 2 = 1 := by
        have z := of_decide_eq_true c
        injection z
      exact ⟨_, rfl, fun d hd => (kE c').go hd⟩
    · have c' : ¬ a % 2 = 1 := fun z => c (decide_eq_true (by show V.int (a % 2) = V.int 1; rw [z]))
      refine ⟨_, rfl, p, CLine, dx, _, _, rfl, hp, T.cl, T.nS, lfs_slope _ _, _, _, rfl, rfl, ⟨by decide, by decide⟩, _, rfl, p, CLine, dx, _, _, rfl, hp, T.cl, T.nM, lfs_more _ _, _, _, rfl, rfl, ⟨by decide, by decide⟩, fun x dx' hx hd ne => ?_⟩
      exact init_ints hx hd ne fun H' hl hs => kQ c' x H' hx hl hs
theorem ok_refined {f : Addr} {fd : FuncData} (F : Fun K "refined" "Line.refined" s_refined f fd) (T : LTx P K mg CLine CBadLine fBadLine CBadRest fBadRest)
    (D_isint : DefAt P w K mg base CX0 1 "is_integer" ["thing"] spIsint) (D_needrest : DefAt P w K mg base (L2.CX P w) 3 "need_rest" ["rest", "modulus"] (spNeed CBadRest))
    (M_Line : MakeAt P w K mg base (L2.CX P w) 3 "Line" CLine ["self", "slope", "more"] (spInit CLine CBadLine) []) : FnOk P w K mg base (L2.CX P w) 5 f fd ["self", "times", "rest"] (spRef CLine CBadLine CBadRest) := by
  refine F.okX sc_refined (fun vs H Q E h => ?_) (fun cdv A outer s H vs Q E hr h => ?_)
  · obtain ⟨p, a, b, tv, rv, tt, tr, rfl, _⟩ := h
    rfl
  · obtain ⟨p, a, b, tv, rv, tt, tr, rfl, ⟨dx, hp⟩, ty1, ty2, kQ, kT, kR⟩ := h
    refine ⟨_, (pss_cons (ps_if (PW.pt (pw_or (pt_not (pt_val (My.pe_d D_isint (hr.mono (by decide)) (by rfl) pass0 (pa_cons (pv 1) pa_nil)))) (pw_or1 (pt_cmpR op_lt (pv 1) pe_int (nomark _))))) (pss_one (ps_raise1 rfl T.e_BadLine (hr.mono (by decide) : Room 0 _) (takes_of rfl rfl rfl rfl) (pa_cons pe_str pa_nil))) pss_nil)
      (pss_cons (ps_expr (My.pe_d D_needrest (hr.mono (by decide)) (by rfl) (passes_call (takes_of rfl rfl rfl rfl) (fun _ _ _ _ h => h)) (pa_cons (pv 2) (pa_cons (pv 1) pa_nil))))
      (pss_one (ps_ret (My.pe_mk M_Line (hr.mono (by decide)) (by rfl) passL (pa_cons (pe_op op_mulW (pe_fld (pv 0) rfl) (pv 1)) (pa_cons (pe_op op_add (pe_op op_mulW (pe_fld (pv 0) rfl) (pv 2)) (pe_fld (pv 0) rfl)) pa_nil))))))), ?_⟩
    refine ⟨_, rfl, tv, tt, rfl, ty1, _, rfl, ?_⟩
    cases e : isI tv with
    | false =>
      refine iteT (iteT ?_)
      exact ⟨_, rfl, fun d hd => (kT (.inl e)).go hd⟩
    | true =>
      obtain ⟨t, rfl⟩ := isI_int e
      refine iteF ?_
      refine ⟨_, rfl, _, _, rfl, rfl, _, rfl, ?_⟩
      refine ite2 (fun c => ?_) (fun c => ?_)
      · exact ⟨_, rfl, fun d hd => (kT (.inr ⟨t, rfl, of_decide_eq_true c⟩)).go hd⟩
      · have c' : 1 ≤ t := by
          have z : ¬ t < 1 := fun z => c (decide_eq_true z)
          omega
        refine ⟨_, rfl, _, rfl, rv, tr, t, rfl, ty2, fun r er h0 h1 => ?_, fun nr => kR t rfl c' nr⟩
        subst er
        obtain ⟨m1, m2, k⟩ := kQ t r rfl rfl c' h0 h1
        refine ⟨_, rfl, p, CLine, dx, _, _, rfl, hp, T.cl, T.nS, lfs_slope _ _, _, rfl, _, _, rfl, rfl, m1, _, rfl, p, CLine, dx, _, _, rfl, hp, T.cl, T.nS, lfs_slope _ _, _, rfl, _, _, rfl, rfl, m2, _, rfl, p, CLine, dx, _, _, rfl, hp, T.cl, T.nM, lfs_more _ _, _, _, rfl, rfl, fun x dx' hx hd ne => ?_⟩
        exact init_ints hx hd ne fun H' hl hs => k x H' hx hl hs
end
end My
namespace My
open PySem PySem.Spec PyProof.Rows L2
abbrev s_heard : Stmt := topS 23
theorem sc_heard : FnScope ["_law_ask", "_law_caught", "error"] ["_law_ask"] (defScope s_heard) := ⟨rfl, rfl, rfl, by decide +kernel, rfl, by decide +kernel, by decide +kernel⟩
/-- what the top has written of the errors' classes -/
structure HTx (P : Program) (K : PySem.W.Frag) (mg : Str → Option Value) (CE CB fB CR fR : Addr) : Prop extends BI mg where
  gClip : mg "ClipError" = some (.ref CE)
  e_BadLine : Sup.Err1 P K mg "BadLine" "part" CB fB
  e_BadRest : Sup.Err1 P K mg "BadRest" "value" CR fR
  xB : PySem.W.exmOne K (.ref CB) (.ref CE) = some true
  xR : PySem.W.exmOne K (.ref CR) (.ref CE) = some true
  kB : ExcK K CB
  kR : ExcK K CR
  iBB : PySem.W.kitOne K (.ref CB) (.ref CB) = some true
  iRR : PySem.W.kitOne K (.ref CR) (.ref CR) = some true
  iBR : PySem.W.kitOne K (.ref CB) (.ref CR) = some false
/-- what heard hands back of an error -/
def WHeard (K : PySem.W.Frag) (CB CR : Addr) (Q : VK) : XK := fun cls d H => (∃ dd v, cls = .ref CB ∧ d = some dd ∧ H dd = some (.xd [("part", v)]) ∧ ∀ t H', H t = none → Same H H' → H' t = some (.tup [.str "part", v]) → Q (.ref t) H') ∨
  (∃ dd v dat, cls = .ref CR ∧ d = some dd ∧ H dd = some (.xd [("value", v)]) ∧ Dr K H v dat ∧ dat.showable = true ∧ dat.depth ≤ 60 ∧ dat.shown.length ≤ sizeLine ∧ ∀ t H', H t = none → Same H H' → H' t = some (.tup [.str "rest", .str dat.shown]) → Q (.ref t) H')
def THeard (K : PySem.W.Frag) (CB CR : Addr) : (XK → Hp → VK → Prop) → Hp → VK → Prop := fun tl H Q => ∀ Q' : VK, (∀ v H', Q .non H' → Q' v H') → tl (WHeard K CB CR Q) H Q'
theorem three {σ : List (Option V)} (h : σ.length = 3) : ∃ x y z, σ = [x, y, z] := by
  rcases σ with _ | ⟨x, _ | ⟨y, _ | ⟨z, _ | ⟨u, r⟩⟩⟩⟩
  · cases h
  · cases h
  · cases h
  · exact ⟨x, y, z, rfl⟩
  · simp at h
theorem heard_gives {X : Cx} {CE CB fB CR fR : Addr} (T : HTx X.prog X.K X.mg CE CB fB CR fR) {k : Nat} (hrX : Room (k + 1) X.A) (hgX : X.A.guards = some []) {g : Addr} {cdg : Value} {q : Str} :
    LamX.GivesTo X ["_law_ask", "_law_caught", "error"] "_law_heard" (defScope s_heard) g cdg (defBody s_heard) "_law_ask" q (THeard X.K CB CR) := by
  intro f c' s H Q tl act hc h
  have hr : Room k (cxOf C8.CX0 X.prog X.w X.K X.mg X.base ["_law_ask", "_law_caught", "error"] "_law_heard" (defScope s_heard) g cdg X.A X.stack s H C8.E0).nox.A := hrX.deeper _
  have hgd : (cxOf C8.CX0 X.prog X.w X.K X.mg X.base ["_law_ask", "_law_caught", "error"] "_law_heard" (defScope s_heard) g cdg X.A X.stack s H C8.E0).nox.A.guards = some [] := hgX
  refine ⟨_, (pss_cons (ps_set (i := 1) sc_heard.nd rfl (Or.inl rfl) pe_non)
      (pss_cons (My.ps_try_keep (X := (cxOf C8.CX0 X.prog X.w X.K X.mg X.base ["_law_ask", "_law_caught", "error"] "_law_heard" (defScope s_heard) g cdg X.A X.stack s H C8.E0).nox) (i := 2) (j := 1) (c := .ref CE) (tb := fun W D σ H => ∃ Ech : XK, (∀ cls d σ' H', Ech cls d H' → W cls d σ' H') ∧ σ[0]? = some (some (.ref f)) ∧ H c' = some (LamX.CodeO c' q) ∧ tl Ech H fun _ H' => D.nx σ H') (Wout := fun _ _ _ _ => False) rfl rfl sc_heard.nd rfl rfl rfl rfl rfl ⟨rfl, by decide, .inl T.gClip⟩ LamX.takes0 (fun W pn xe tk _ => ?_))
      (pss_cons (ps_if (pt_cmpR op_isN (pv 1) pe_non (nomark _)) (pss_one (ps_ret pe_non)) pss_nil)
      (pss_cons (ps_if (pt_val (pe_callB My.call_isA (by rfl) T.z_isinstance boot_isinstance (pa_cons (pv 1) (pa_cons (pe_glob (v := .ref CR) (by rfl) T.e_BadRest.gC rfl) pa_nil)))) (pss_one (ps_ret (pe_tup (pa_cons pe_str (pa_cons (pe_callB (My.call_repr hgd hr) (by rfl) T.z_repr boot_repr (pa_cons (My.pe_xa (pv 1)) pa_nil)) pa_nil))))) pss_nil)
      (pss_one (ps_ret (pe_ifExp (pt_val (pe_callB My.call_isA (by rfl) T.z_isinstance boot_isinstance (pa_cons (pv 1) (pa_cons (pe_glob (v := .ref CB) (by rfl) T.e_BadLine.gC rfl) pa_nil)))) (pe_tup (pa_cons pe_str (pa_cons (My.pe_xa (pv 1)) pa_nil))) (pe_tup (pa_cons pe_str pa_nil))))))))), ?_⟩
  · refine ⟨fun pins s' σ H' D I h' => ?_⟩
    obtain ⟨Ech, hW, h1, h2, h3⟩ := h'
    exact (pss_one (ps_expr (act W pn xe Ech _ _ tk hW))).run pins s' σ H' D I ⟨h1, h2, h3⟩
  · refine ⟨WHeard X.K CB CR Q, ?_, rfl, hc, ?_⟩
    · intro cls d σ' H' hw
      rcases hw with ⟨dd, v, rfl, rfl, hd, kk⟩ | ⟨dd, v, dat, rfl, rfl, hd, hdr, hs1, hs2, hs3, kk⟩
      · refine ⟨true, T.xB, fun _ a na hl => ?_, fun z => Bool.noConfusion z⟩
        obtain ⟨x0, x1, x2, rfl⟩ := three hl
        have hd' := same_new (o := ExA (.ref CB) (some dd) a) na _ _ hd
        refine ⟨_, rfl, rfl, _, rfl, iteF ?_⟩
        refine ⟨_, rfl, a, CB, dd, _, _, _, false, rfl, .own _, T.kB, upd_same, hd', T.iBR, _, rfl, iteF ?_⟩
        refine ⟨_, rfl, a, CB, dd, _, _, _, true, rfl, .own _, T.kB, upd_same, hd', T.iBB, _, rfl, iteT ?_⟩
        refine ⟨_, rfl, a, CB, dd, _, v, rfl, upd_same, hd', T.e_BadLine.rd, T.e_BadLine.nf, by simp [List.lookup], (by show 2 ≤ sizeLine; decide), fun t ht => ?_⟩
        exact kk t _ ((same_new na).free ht) ((same_new na).trans (same_new ht)) upd_same
      · refine ⟨true, T.xR, fun _ a na hl => ?_, fun z => Bool.noConfusion z⟩
        obtain ⟨x0, x1, x2, rfl⟩ := three hl
        have hd' := same_new (o := ExA (.ref CR) (some dd) a) na _ _ hd
        refine ⟨_, rfl, rfl, _, rfl, iteF ?_⟩
        refine ⟨_, rfl, a, CR, dd, _, _, _, true, rfl, .own _, T.kR, upd_same, hd', T.iRR, _, rfl, iteT ?_⟩
        refine ⟨_, rfl, a, CR, dd, _, v, rfl, upd_same, hd', T.e_BadRest.rd, T.e_BadRest.nf, by simp [List.lookup], v, dat, rfl, dr_same (same_new na) hdr, hs1, hs2, hs3, (by show 2 ≤ sizeLine; decide), fun t ht => ?_⟩
        exact kk t _ ((same_new na).free ht) ((same_new na).trans (same_new ht)) upd_same
    · exact h _ fun v H' hq => ⟨_, rfl, rfl, _, rfl, iteT hq⟩
/-- heard as it stands in the module -/
structure HeardAt (K : PySem.W.Frag) (mg : Str → Option Value) : Prop where
  ex : ∃ g fd, Fun K "_law_heard" "_law_heard" s_heard g fd ∧ mg "_law_heard" = some (.ref g) ∧ L2.Binds K fd ["_law_ask"] []
/-- heard(lambda: body) -/
theorem pe_heard {X : Cx} {CE CB fB CR fR : Addr} {TS : List (Addr × Str)} {c P : Addr} {k : Nat} {params : Arguments} {body : Expr} {scope : Scope} {t : XK → TE} {p lpos pos : Pos}
    (D : HeardAt X.K X.mg) (T : HTx X.prog X.K X.mg CE CB fB CR fR) (hgd : X.A.guards = some []) (hr : Room (k + 2) X.A) (TB : LamX.TabB X.base X.mg c P) (hcode : X.env.code = .ref c) (hmT : (P, X.env.qual ++ "<lambda>") ∈ TS) (hu : ∀ p ∈ TS, p.1 = P → p.2 = X.env.qual ++ "<lambda>")
    (hg : Gl X "_law_heard") (L : LamX.LamS X.env.scope scope) (hdef : defaultsOf params X.env = ([], []))
    (hbind : ∀ (q : Str) (cl : List (Str × Addr)) (pm cv ctv : Value), bindArgs (PySem.W.kla_fn "<lambda>" q params body scope cl pm cv ctv) ⟨[], []⟩ = pure [])
    (hbody : ∀ (A : Around) (outer : List Env) (s : Shared) (H : Hp) (E : XK) (f c' : Addr), Room k (A.deeper (LamX.lamEnv X scope s.heap.objs.size f c')) → PE (LamX.lamCx X A outer s H E scope f c') body (t E)) :
    PE X (.Call (.Name "_law_heard" p) [.Lambda params body scope lpos] [] pos) (LamX.tLam TS (THeard X.K CB CR) t) := by
  obtain ⟨g, fd, F, hm, hb⟩ := D.ex
  have kp := F.kp
  obtain ⟨oc, od, kV, doc, pm, an, cdv, ct, osl, rfl, lk, hcd⟩ := F.ex
  exact LamX.pe_lamcall hg hm kp lk hcd hb sc_heard rfl (Or.inl rfl) (heard_gives (k := k) T (hr.mono (by omega)) hgd) TB hcode hmT hu hr L hdef hbind hbody (by decide) (by decide) (by decide)
/-! ### tables of code objects, the pen, and all else -/
/-- all but the pen and the tables stays, the tables are tables -/
structure Kp (pn : Addr) (TS : List (Addr × Str)) (H H' : Hp) : Prop where
  keep : ∀ b o, H b = some o → b ≠ pn → (∀ ps, o ≠ .tbl ps) → H' b = some o
  tabs : LamX.Tabs TS H'
theorem Kp.trans {pn : Addr} {TS : List (Addr × Str)} {H H1 H2 : Hp} (a : Kp pn TS H H1) (b : Kp pn TS H1 H2) : Kp pn TS H H2 := ⟨fun c o h n m => b.keep c o (a.keep c o h n m) n m, b.tabs⟩
theorem tabs_but {pn : Addr} {TS : List (Addr × Str)} {H H' : Hp} {n : Nat} (t : LamX.Tabs TS H) (hp : PenAt H pn n) (k : But pn H H') : LamX.Tabs TS H' := fun p hp' => by
  obtain ⟨ps, h1, h2, h3⟩ := t p hp'
  obtain ⟨cl, ns, a, r, g1, _⟩ := hp
  refine ⟨ps, k _ _ h1 (ne_of h1 g1 (by intro z; cases z)), h2, fun pos cv hc => ?_⟩
  obtain ⟨c, e1, e2⟩ := h3 pos cv hc
  exact ⟨c, e1, k _ _ e2 (ne_of e2 g1 (by intro z; unfold LamX.CodeO at z; cases z))⟩
theorem Kp.but {pn : Addr} {TS : List (Addr × Str)} {H H' : Hp} {n : Nat} (t : LamX.Tabs TS H) (hp : PenAt H pn n) (k : But pn H H') : Kp pn TS H H' := ⟨fun b o h nb _ => k b o h nb, tabs_but t hp k⟩
theorem Kp.same {pn : Addr} {TS : List (Addr × Str)} {H H' : Hp} (t : LamX.Tabs TS H) (k : Same H H') : Kp pn TS H H' := ⟨fun b o h _ _ => k b o h, t.ext k⟩
theorem Kp.ext {pn : Addr} {TS : List (Addr × Str)} {H H' : Hp} (t : LamX.Tabs TS H') (k : LamX.ExtN H H') : Kp pn TS H H' := ⟨fun b o h _ m => k b o h m, t⟩
theorem line_kp {pn : Addr} {TS : List (Addr × Str)} {C p : Addr} {H H' : Hp} {n : Nat} {a b : Int} (h : LineAt C H p a b) (hp : PenAt H pn n) (k : Kp pn TS H H') : LineAt C H' p a b := by
  obtain ⟨dx, e⟩ := h
  obtain ⟨cl, ns, a', r, g1, _⟩ := hp
  exact ⟨dx, k.keep _ _ e (ne_of e g1 (by intro z; cases z)) (by intro ps z; cases z)⟩
theorem pen_ext {pn : Addr} {H H' : Hp} {n : Nat} (hp : PenAt H pn n) (k : LamX.ExtN H H') : PenAt H' pn n := by
  obtain ⟨cl, ns, a, r, g1, g2, g3⟩ := hp
  exact ⟨cl, ns, a, r, k _ _ g1 (by intro ps z; cases z), k _ _ g2 (by intro ps z; cases z), g3⟩
theorem pen_same {pn : Addr} {H H' : Hp} {n : Nat} (hp : PenAt H pn n) (k : Same H H') : PenAt H' pn n := by
  obtain ⟨cl, ns, a, r, g1, g2, g3⟩ := hp
  exact ⟨cl, ns, a, r, k _ _ g1, k _ _ g2, g3⟩
theorem line_ext {C p : Addr} {H H' : Hp} {a b : Int} (h : LineAt C H p a b) (k : LamX.ExtN H H') : LineAt C H' p a b := by
  obtain ⟨dx, e⟩ := h
  exact ⟨dx, k _ _ e (by intro ps z; cases z)⟩
theorem line_but {pn C p : Addr} {H H' : Hp} {n : Nat} {a b : Int} (h : LineAt C H p a b) (hp : PenAt H pn n) (k : But pn H H') : LineAt C H' p a b := by
  obtain ⟨dx, e⟩ := h
  obtain ⟨cl, ns, a', r, g1, _⟩ := hp
  exact ⟨dx, k _ _ e (ne_of e g1 (by intro z; cases z))⟩
/-- a def whose code object stands at c -/
structure FunC (K : PySem.W.Frag) (x qual : Str) (st : Stmt) (f : Addr) (fd : FuncData) (c : Addr) : Prop where
  ex : ∃ (oc : Value) (od : Option Addr) (kV doc pm : Value) (an : Option Addr) (ct : Value) (osl : Array (Option Value)),
    fd = PySem.W.fnOf x qual (defArgs st) (defBody st) (defScope st) .none kV doc pm an (.ref c) ct ∧ K.lookup f = some ⟨oc, od, .func fd, osl⟩ ∧ PySem.W.codeIn K (.ref c) qual = true
  kp : PySem.W.keepIn K (.ref f) = true
theorem okGc {P : Program} {w : World} {K : PySem.W.Frag} {mg : Str → Option Value} {base : Heap} {x qual : Str} {st : Stmt} {f c : Addr} {fd : FuncData} {N ps : List Str} {k : Nat} {sp : Sp} (F : FunC K x qual st f fd c) (S : FnScope N ps (defScope st)) (len : ∀ vs H Q E, sp vs H Q E → vs.length = ps.length)
    (hbody : ∀ (A : Around) (outer : List Env) (s : Shared) (H : Hp) (vs : List V) (Q : VK) (E : XK), A.guards = some [] → Room k (A.deeper (envOfC qual (defScope st) s.heap.objs.size f (.ref c))) → sp vs H Q E →
      ∃ t, PSs (cxOf CX0 P w K mg base N qual (defScope st) f (.ref c) A outer s H E).nox (defBody st) t ∧ t { nx := fun _ H' => Q .non H', rt := Q } (start N vs) H) : FnG P w K mg base CX0 (k + 1) f fd ps sp := by
  obtain ⟨oc, od, kV, doc, pm, an, ct, osl, rfl, lk, hcd⟩ := F.ex
  refine ⟨len, fun A outer s H args us vs Q E hg hr e0 hb r hsp => LamX.run_ofS lk hcd S hr e0 hb r (len _ _ _ _ hsp) fun hr' => ?_⟩
  obtain ⟨t, h, q⟩ := hbody A outer s H vs Q E hg hr' hsp
  exact ⟨t, h.nox, q⟩
end My
namespace My
open PySem PySem.Spec PyProof.Rows L2
abbrev s_integer : Stmt := topS 22
theorem sc_integer : FnScope ["_law_pen_here", "_law_some", "_law_found"] ["_law_pen_here"] (defScope s_integer) := ⟨rfl, rfl, rfl, by decide +kernel, rfl, by decide +kernel, by decide +kernel⟩
theorem mem_ints {v : V} {zs : List Int} (h : v ∈ zs.map V.int) : ∃ z, v = .int z ∧ z ∈ zs := by
  obtain ⟨z, hz, e⟩ := List.mem_map.mp h
  exact ⟨z, e.symm, hz⟩
def spInteger : Sp := fun vs H Q _ => ∃ (pn : Addr) (n : Nat), vs = [.ref pn] ∧ PenAt H pn n ∧ n < 90000 ∧ ∀ (z : Int) (H' : Hp), -(10 ^ 30) < z → z < 10 ^ 30 → PenAt H' pn (n + 5) → But pn H H' → Q (.int z) H'
section
variable {P : Program} {w : World} {K : PySem.W.Frag} {mg : Str → Option Value} {base : Heap}
theorem ok_integer {f : Addr} {fd : FuncData} (F : Fun K "_law_integer" "_law_integer" s_integer f fd) (T : BI mg) (D_draw : DefAt P w K mg base CX0 1 "_law_draw" ["_law_pen_here", "_law_many"] spDraw)
    (D_pick : DefAt P w K mg base CX0 2 "_law_pick" ["_law_pen_here", "_law_some"] spPick) : FnOk P w K mg base CX0 3 f fd ["_law_pen_here"] spInteger := by
  refine F.ok sc_integer (fun vs H Q E h => ?_) (fun cdv A outer s H vs Q E hr h => ?_)
  · obtain ⟨pn, n, rfl, _⟩ := h
    rfl
  · obtain ⟨pn, n, rfl, hp, hn, k⟩ := h
    refine ⟨_, (pss_cons (ps_set (i := 1) sc_integer.nd rfl (Or.inl rfl) (pe_lst (pa_cons pe_int (pa_cons pe_int (pa_cons pe_int (pa_cons pe_int (pa_cons (My.pe_d D_draw (hr.mono (by decide)) (by rfl) pass0 (pa_cons (pv 0) (pa_cons pe_int pa_nil))) (pa_cons (My.pe_d D_draw (hr.mono (by decide)) (by rfl) pass0 (pa_cons (pv 0) (pa_cons pe_int pa_nil))) (pa_cons (My.pe_d D_draw (hr.mono (by decide)) (by rfl) pass0 (pa_cons (pv 0) (pa_cons (pe_op op_pow pe_int pe_int) pa_nil))) pa_nil)))))))))
      (pss_cons (ps_set (i := 2) sc_integer.nd rfl (Or.inl rfl) (My.pe_d D_pick (hr.mono (by decide)) (by rfl) pass0 (pa_cons (pv 0) (pa_cons (pv 1) pa_nil))))
      (pss_one (ps_ret (pe_ifExp (pt_cmpR op_eq (My.pe_d D_draw (hr.mono (by decide)) (by rfl) pass0 (pa_cons (pv 0) (pa_cons pe_int pa_nil))) pe_int (nomark _)) (pe_op op_sub pe_int (pv 2)) (pv 2)))))), ?_⟩
    refine ⟨_, rfl, pn, 12, n, rfl, by decide, by decide, hp, by omega, fun d1 H1 a1 b1 p1 u1 => ?_⟩
    refine ⟨_, rfl, pn, 1000, n + 1, rfl, by decide, by decide, p1, by omega, fun d2 H2 a2 b2 p2 u2 => ?_⟩
    refine ⟨_, rfl, _, _, rfl, rfl, ⟨by decide, by decide, by decide⟩, pn, _, n + 2, rfl, by decide, by decide, p2, by omega, fun d3 H3 a3 b3 p3 u3 => ?_⟩
    refine ⟨(by show 7 ≤ sizeLine; decide), fun l hl => ?_⟩
    have nl : l ≠ pn := by
      obtain ⟨cl, ns, a, r, g1, _⟩ := p3
      exact (ne_of_none g1 hl).symm
    refine ⟨_, rfl, _, rfl, pn, l, n + 3, _, rfl, upd_same, nl, (by show 0 < 7; decide), (by show 7 ≤ 1000; decide), pen_new p3 hl, by omega, fun v H4 hv p4 u4 => ?_⟩
    obtain ⟨z, rfl, hz⟩ := mem_ints (zs := [0, 1, 2, 3, d1, d2, d3]) hv
    have z0 : 0 ≤ z ∧ z < 10 ^ 30 := by
      have b3' : d3 < 10 ^ 30 := b3
      simp only [List.mem_cons, List.mem_nil_iff, or_false] at hz
      rcases hz with e | e | e | e | e | e | e <;> omega
    have uu : But pn H H4 := (((u1.trans u2).trans u3).trans (But.new hl)).trans u4
    refine ⟨_, rfl, pn, 2, n + 4, rfl, by decide, by decide, p4, by omega, fun d5 H5 a5 b5 p5 u5 => ?_⟩
    refine ⟨rfl, _, rfl, ?_⟩
    refine ite2 (fun c => ?_) (fun c => ?_)
    · exact ⟨_, rfl, _, _, rfl, rfl, k _ H5 (by omega) (by omega) p5 (uu.trans u5)⟩
    · exact ⟨_, rfl, k _ H5 (by omega) (by omega) p5 (uu.trans u5)⟩
end
end My
namespace My
open PySem PySem.Spec PyProof.Rows L2
abbrev s_refinedR : Stmt := topS 25
theorem sc_refinedR : FnScope ["_law_pen_here", "_law_line", "_law_rise", "_law_base", "_law_many", "_law_spot", "_law_found", "_law_at"] ["_law_pen_here", "_law_line", "_law_rise", "_law_base"] (defScope s_refinedR) := ⟨rfl, rfl, rfl, by decide +kernel, rfl, by decide +kernel, by decide +kernel⟩
theorem pen_ne {H : Hp} {pn l : Addr} {n : Nat} (hp : PenAt H pn n) (hl : H l = none) : l ≠ pn := by
  obtain ⟨cl, ns, a, r, g1, _⟩ := hp
  exact (ne_of_none g1 hl).symm
theorem lin_eq (a b t r m : Int) : a * t * m + (a * r + b) = a * (t * m + r) + b := by rw [Int.mul_add, Int.mul_assoc, Int.add_assoc]
theorem but_same {pn : Addr} {H H' : Hp} (s : Same H H') : But pn H H' := fun b o e _ => s b o e
def gRev : List V → List V → List V := fun vs zs => vs ++ zs.reverse
/-- an int of less than 300 bits -/
def Sm (z : Int) : Prop := z.natAbs < 2 ^ 300
theorem Sm.mul {a b : Int} {i j : Nat} (ha : a.natAbs < 2 ^ i) (hb : b.natAbs < 2 ^ j) (h0 : 0 < i := by decide) (h1 : 0 < j := by decide) (h : i + j ≤ 1000000 := by decide) : CMulW a b := wide_mul ha hb h0 h1 h
theorem Sm.of {z : Int} (h1 : -(2 ^ 300) < z) (h2 : z < 2 ^ 300) : Sm z := by
  unfold Sm
  omega
def spRefinedR (C : Addr) : Sp := fun vs H Q _ => ∃ (pn l : Addr) (a b : Int) (n : Nat), vs = [.ref pn, .ref l, .int a, .int b] ∧ LineAt C H l a b ∧ Sm a ∧ Sm b ∧ PenAt H pn n ∧ n < 90000 ∧ ∀ (H' : Hp), PenAt H' pn (n + 5) → But pn H H' → Q (.bl true) H'
section
variable {P : Program} {w : World} {K : PySem.W.Frag} {mg : Str → Option Value} {base : Heap} {CLine CBadLine fBadLine CBadRest fBadRest : Addr}
theorem ok_refinedR {f : Addr} {fd : FuncData} (F : Fun K "_law_refined_right" "_law_refined_right" s_refinedR f fd) (T : LTx P K mg CLine CBadLine fBadLine CBadRest fBadRest) (D_draw : DefAt P w K mg base CX0 1 "_law_draw" ["_law_pen_here", "_law_many"] spDraw)
    (D_pick : DefAt P w K mg base CX0 2 "_law_pick" ["_law_pen_here", "_law_some"] spPick) (X_refined : MethAt P w K mg base (L2.CX P w) 5 CLine "refined" ["self", "times", "rest"] (spRef CLine CBadLine CBadRest))
    (XK_refined : MethK P w K mg base (L2.CX P w) 5 CLine "refined" ["self", "times", "rest"] ["rest", "times"] (spRef CLine CBadLine CBadRest) gRev) (C_Line : CallAt P w K mg base (L2.CX P w) 3 CLine ["self", "m"] (spCall CLine CBadLine))
    (CE_eq : CmpAt P w K mg base CX0 2 CLine "__eq__" ["self", "other"] (spEq CLine)) : FnOk P w K mg base CX0 7 f fd ["_law_pen_here", "_law_line", "_law_rise", "_law_base"] (spRefinedR CLine) := by
  refine F.ok sc_refinedR (fun vs H Q E h => ?_) (fun cdv A outer s H vs Q E hr h => ?_)
  · obtain ⟨pn, l, a, b, n, rfl, _⟩ := h
    rfl
  · obtain ⟨pn, l, a, b, n, rfl, hl, sa, sb, hp, hn, k⟩ := h
    refine ⟨_, (pss_cons (ps_set (i := 4) sc_refinedR.nd rfl (Or.inl rfl) (pe_op op_add pe_int (My.pe_d D_pick (hr.mono (by decide)) (by rfl) pass0 (pa_cons (pv 0) (pa_cons (pe_lst (pa_cons pe_int (pa_cons pe_int (pa_cons pe_int (pa_cons pe_int (pa_cons (My.pe_d D_draw (hr.mono (by decide)) (by rfl) pass0 (pa_cons (pv 0) (pa_cons pe_int pa_nil))) (pa_cons (pe_op op_pow pe_int pe_int) pa_nil))))))) pa_nil)))))
      (pss_cons (ps_set (i := 5) sc_refinedR.nd rfl (Or.inl rfl) (My.pe_d D_pick (hr.mono (by decide)) (by rfl) pass0 (pa_cons (pv 0) (pa_cons (pe_lst (pa_cons pe_int (pa_cons (pe_op op_sub (pv 4) pe_int) (pa_cons (My.pe_d D_draw (hr.mono (by decide)) (by rfl) pass0 (pa_cons (pv 0) (pa_cons (pv 4) pa_nil))) pa_nil)))) pa_nil))))
      (pss_cons (ps_set (i := 6) sc_refinedR.nd rfl (Or.inl rfl) (My.pe_mt T.cl X_refined (hr.mono (by decide)) passL (pv 1) (pa_cons (pv 4) (pa_cons (pv 5) pa_nil))))
      (pss_cons (ps_for PassesOwn.never rfl (pi_list (pe_lst (pa_cons pe_int (pa_cons pe_int (pa_cons pe_int (pa_cons (My.pe_d D_draw (hr.mono (by decide)) (by rfl) pass0 (pa_cons (pv 0) (pa_cons pe_int pa_nil))) (pa_cons (pe_op op_pow pe_int pe_int) pa_nil))))))) (pg_name (i := 7) sc_refinedR.nd rfl (Or.inl rfl)) (pss_one (ps_if (pt_cmpR op_ne (My.pe_cl C_Line (hr.mono (by decide)) passL (pv 6) (pa_cons (pv 7) pa_nil)) (pe_op op_add (pe_op op_mulW (pv 2) (pe_op op_add (pe_op op_mulW (pv 4) (pv 7)) (pv 5))) (pv 3)) (nomark _)) (pss_one (ps_ret pe_bl)) pss_nil)))
      (pss_one (ps_ret (pe_and (pe_callB call_isi (by rfl) T.z_isinstance boot_isinstance (pa_cons (pv 6) (pa_cons (pe_glob (v := .ref CLine) (by rfl) T.gLine rfl) pa_nil))) (pe_one (pe_cmpR (My.op_cmpO CE_eq (hr.mono (by decide)) pass0) (pv 6) (My.pe_mtK T.cl XK_refined (hr.mono (by decide)) passL (pv 1) (pk_cons (pv 5) (pk_cons (pv 4) pk_nil))) (nomark _)))))))))), ?_⟩
    -- many
    refine ⟨_, rfl, _, rfl, pn, 30, n, rfl, by decide, by decide, hp, by omega, fun d1 H1 a1 b1 p1 u1 => ?_⟩
    refine ⟨_, _, rfl, rfl, ⟨by decide, by decide, by decide⟩, (by show 6 ≤ sizeLine; decide), fun l1 hl1 => ?_⟩
    refine ⟨pn, l1, n + 1, _, rfl, upd_same, pen_ne p1 hl1, (by show 0 < 6; decide), (by show 6 ≤ 1000; decide), pen_new p1 hl1, by omega, fun v H2 hv p2 u2 => ?_⟩
    obtain ⟨z, rfl, hz⟩ := mem_ints (zs := [0, 1, 3, 7, d1, 10 ^ 20]) hv
    have z0 : 0 ≤ z ∧ z < 10 ^ 21 := by
      simp only [List.mem_cons, List.mem_nil_iff, or_false] at hz
      rcases hz with e | e | e | e | e | e <;> omega
    have k2 : But pn H H2 := (u1.trans (But.new hl1)).trans u2
    refine ⟨_, _, rfl, rfl, ?_⟩
    have hl2 := line_but hl hp k2
    -- spot
    have zl : (1 + z).natAbs.log2 < 9000 := Nat.lt_of_lt_of_le (PySem.Flt.log2_lt_of (k := 100) (by decide) (by omega)) (by decide)
    refine ⟨_, rfl, _, rfl, _, _, rfl, rfl, _, rfl, _, rfl, pn, 1 + z, n + 2, rfl, by omega, zl, p2, by omega, fun d3 H3 a3 b3 p3 u3 => ?_⟩
    refine ⟨(by show 3 ≤ sizeLine; decide), fun l3 hl3 => ?_⟩
    refine ⟨pn, l3, n + 3, _, rfl, upd_same, pen_ne p3 hl3, (by show 0 < 3; decide), (by show 3 ≤ 1000; decide), pen_new p3 hl3, by omega, fun v4 H4 hv4 p4 u4 => ?_⟩
    obtain ⟨r, rfl, hr4⟩ := mem_ints (zs := [0, 1 + z - 1, d3]) hv4
    have r0 : 0 ≤ r ∧ r < 1 + z := by
      simp only [List.mem_cons, List.mem_nil_iff, or_false] at hr4
      rcases hr4 with e | e | e <;> omega
    have k4 : But pn H2 H4 := (u3.trans (But.new hl3)).trans u4
    have hl4 := line_but hl2 p2 k4
    obtain ⟨dx4, e4⟩ := id hl4
    have sz : (1 + z).natAbs < 2 ^ 100 := by omega
    have sr : r.natAbs < 2 ^ 100 := by omega
    -- found
    refine ⟨_, rfl, l, dx4, _, rfl, e4, lfs_no _ _ (by decide +kernel) (by decide +kernel), _, rfl, _, rfl, l, a, b, _, _, _, _, rfl, hl4, .int _, .int _, fun t' r' et er t1 t2 t3 => ?_, fun lo => ?_, fun t' et t1 nr => ?_⟩
    · cases et
      cases er
      refine ⟨Sm.mul sa sz, Sm.mul sa sr, fun q H5 hq5 hlq s5 => ?_⟩
      have p5 := pen_same p4 s5
      refine ⟨_, rfl, pn, 1000, n + 4, rfl, by decide, by decide, p5, by omega, fun d6 H6 a6 b6 p6 u6 => ?_⟩
      refine ⟨_, _, rfl, rfl, ⟨by decide, by decide, by decide⟩, (by show 5 ≤ sizeLine; decide), fun l6 hl6 => ?_⟩
      have hq7 : LineAt CLine (upd H6 l6 (.lst [.int 0, .int 1, .int 5, .int d6, .int (10 ^ Int.toNat 40)])) q (a * (1 + z)) (a * r + b) := (line_but hlq p5 u6).same (same_new hl6)
      have hl7 : LineAt CLine (upd H6 l6 (.lst [.int 0, .int 1, .int 5, .int d6, .int (10 ^ Int.toNat 40)])) l a b := (line_but (hl4.same s5) p5 u6).same (same_new hl6)
      have p7 : PenAt (upd H6 l6 (.lst [.int 0, .int 1, .int 5, .int d6, .int (10 ^ Int.toNat 40)])) pn (n + 5) := pen_new p6 hl6
      have u7 : But pn H5 (upd H6 l6 (.lst [.int 0, .int 1, .int 5, .int d6, .int (10 ^ Int.toNat 40)])) := u6.trans (But.new hl6)
      have w7 : (upd H6 l6 (.lst [.int 0, .int 1, .int 5, .int d6, .int (10 ^ Int.toNat 40)])) l6 = some (.lst ([0, 1, 5, d6, 10 ^ Int.toNat 40].map V.int)) := upd_same
      generalize (upd H6 l6 (.lst [.int 0, .int 1, .int 5, .int d6, .int (10 ^ Int.toNat 40)])) = H7 at hq7 hl7 p7 u7 w7
      obtain ⟨dq, eq7⟩ := id hq7
      obtain ⟨dl, el7⟩ := id hl7
      refine ⟨l6, rfl, ⟨_, SqL.of w7⟩, for_list (K := K) (a := l6) (xs := [0, 1, 5, d6, 10 ^ Int.toNat 40].map V.int) (fun i σ H' => ∃ v, σ = [some (.ref pn), some (.ref l), some (.int a), some (.int b), some (.int (1 + z)), some (.int r), some (.ref q), v] ∧ H' = H7)
        ⟨none, rfl, rfl⟩ (fun i σ H' _ ⟨_, _, e⟩ => by rw [e]; exact SqL.of w7) ?_ ?_⟩
      · rintro i x σ H' hi ⟨v, rfl, rfl⟩
        obtain ⟨m, rfl, hm⟩ := mem_ints (List.mem_of_getElem? hi)
        have m0 : 0 ≤ m ∧ m ≤ 10 ^ 40 := by
          have e40 : (10 : Int) ^ Int.toNat 40 = 10 ^ 40 := rfl
          rw [e40] at hm
          simp only [List.mem_cons, List.mem_nil_iff, or_false] at hm
          rcases hm with e | e | e | e | e <;> omega
        have sm : m.natAbs < 2 ^ 200 := by omega
        have sat : (a * (1 + z)).natAbs < 2 ^ 400 := wide_lt sa sz
        have sw : ((1 + z) * m + r).natAbs < 2 ^ 301 := by
          have w1 := wide_lt sz sm
          have w2 := Int.natAbs_add_le ((1 + z) * m) r
          have w3 : (2 : Nat) ^ (100 + 200) + 2 ^ 100 ≤ 2 ^ 301 := by decide
          omega
        refine ⟨_, rfl, q, rfl, _, rfl, .inr ⟨_, _, eq7⟩, q, _, _, _, _, rfl, hq7, .int _, fun m' em h0 => ?_, fun lo => ?_⟩
        · cases em
          refine ⟨Sm.mul sat sm, ?_⟩
          refine ⟨_, rfl, _, rfl, _, rfl, _, _, rfl, rfl, Sm.mul sz sm, _, rfl, _, _, rfl, rfl, _, _, rfl, rfl, Sm.mul sa sw, _, rfl, _, _, rfl, rfl, rfl, _, rfl, ?_⟩
          refine iteNS ?_ ?_
          · show V.int _ = V.int _
            exact congrArg V.int (lin_eq a b (1 + z) r m)
          · exact ⟨_, rfl, rfl⟩
        · exfalso
          rcases lo with lo | ⟨i, e, lo⟩
          · cases lo
          · cases e
            omega
      · rintro σ H' ⟨v, rfl, rfl⟩
        refine ⟨_, rfl, _, _, _, _, true, rfl, .own _, .base (.ins eq7 T.cl T.ha T.hn T.ht T.hm), T.me, _, rfl, iteT ?_⟩
        refine ⟨_, rfl, _, rfl, l, dl, _, rfl, el7, lfs_no _ _ (by decide +kernel) (by decide +kernel), _, rfl, _, rfl, rfl, l, a, b, _, _, _, _, rfl, hl7, .int _, .int _, fun t' r' et er t1 t2 t3 => ?_, fun lo => ?_, fun t' et t1 nr => ?_⟩
        · cases et
          cases er
          refine ⟨Sm.mul sa sz, Sm.mul sa sr, fun q8 H8 hq8 hlq8 s8 => ?_⟩
          obtain ⟨d8, e8⟩ := id hlq8
          refine ⟨q, dq, _, .ref CLine, rfl, s8 _ _ eq7, .base (.ins e8 T.cl T.ha T.hn T.ht T.hm), ?_, q, q8, _, _, _, _, rfl, hq7.same s8, hlq8, fun H9 s9 => ?_⟩
          · simp [PySem.W.notFirst]
          · have e : decide (a * (1 + z) = a * (1 + z) ∧ a * r + b = a * r + b) = true := decide_eq_true ⟨rfl, rfl⟩
            rw [e]
            exact k H9 (pen_same (pen_same p7 s8) s9) (((((k2.trans k4).trans (but_same s5)).trans u7).trans (but_same s8)).trans (but_same s9))
        · exfalso
          rcases lo with lo | ⟨i, e, lo⟩
          · cases lo
          · cases e
            omega
        · exfalso
          cases et
          rcases nr with nr | ⟨i, e, nr⟩
          · cases nr
          · cases e
            exact nr ⟨r0.1, r0.2⟩
    · exfalso
      rcases lo with lo | ⟨i, e, lo⟩
      · cases lo
      · cases e
        omega
    · exfalso
      cases et
      rcases nr with nr | ⟨i, e, nr⟩
      · cases nr
      · cases e
        exact nr ⟨r0.1, r0.2⟩
end
end My
namespace My
open PySem PySem.Spec PyProof.Rows L2
abbrev s_halfR : Stmt := topS 24
theorem sc_halfR : FnScope ["_law_pen_here", "_law_line", "_law_rise", "_law_base", "_law_found", "_law_at"] ["_law_pen_here", "_law_line", "_law_rise", "_law_base"] (defScope s_halfR) := ⟨rfl, rfl, rfl, by decide +kernel, rfl, by decide +kernel, by decide +kernel⟩
/-! ### repr of a list of ints -/
theorem shown_sum : ∀ (ns : List Int), (∀ z ∈ ns, z.natAbs.log2 < 1920) → ((PyData.shownAll (ns.map PyData.int)).map (·.length)).sum ≤ 1921 * ns.length ∧ (PyData.shownAll (ns.map PyData.int)).length = ns.length
  | [], _ => ⟨Nat.le_refl _, rfl⟩
  | n :: ns, h => by
    obtain ⟨h1, h2⟩ := shown_sum ns fun z hz => h z (List.mem_cons_of_mem _ hz)
    have e := int_text_length_le (k := 1920) (by decide) (h n List.mem_cons_self)
    have e2 : ((toString n : String) : Str).length ≤ 1921 := by
      show (Str.ofString (toString n)).length ≤ 1921
      rw [PySem.ofString_length]
      exact e
    refine ⟨?_, ?_⟩
    · show ((toString n : String) : Str).length + ((PyData.shownAll (ns.map PyData.int)).map (·.length)).sum ≤ 1921 * (ns.length + 1)
      omega
    · show (PyData.shownAll (ns.map PyData.int)).length + 1 = ns.length + 1
      omega
theorem showable_ints : ∀ (ns : List Int), (∀ z ∈ ns, z.natAbs.log2 < 1920) → PyData.showableAll (ns.map PyData.int) = true
  | [], _ => rfl
  | n :: ns, h => by
    show (decide (n.natAbs.log2 < 1920) && PyData.showableAll (ns.map PyData.int)) = true
    rw [showable_ints ns fun z hz => h z (List.mem_cons_of_mem _ hz), decide_eq_true (h n List.mem_cons_self)]
    rfl
theorem dep60 (ns : List Int) : (PyData.list (ns.map PyData.int)).depth ≤ 60 := by
  show PyData.depthAll (ns.map PyData.int) + 1 ≤ 60
  rw [dep_ints]
  decide
theorem len_ints (ns : List Int) (hz : ∀ z ∈ ns, z.natAbs.log2 < 1920) (hl : ns.length ≤ 1000) : (PyData.list (ns.map PyData.int)).shown.length ≤ sizeLine := by
  have h1 := listText_len_le (PyData.shownAll (ns.map PyData.int))
  obtain ⟨h2, h3⟩ := shown_sum ns hz
  show (listText (PyData.shownAll (ns.map PyData.int))).length ≤ sizeLine
  rw [sizeLine_eq]
  omega
theorem Sm.log {z : Int} (h : Sm z) : z.natAbs.log2 < 1920 := Nat.lt_of_lt_of_le (PySem.Flt.log2_lt_of (k := 300) (by decide) h) (by decide)
theorem Sm.half {z : Int} (h : Sm z) : Sm (z / 2) := by
  unfold Sm at *
  omega
theorem two_log {x y : Int} (hx : Sm x) (hy : Sm y) : ∀ z ∈ [x, y], z.natAbs.log2 < 1920 := fun z hz => by
  simp only [List.mem_cons, List.mem_nil_iff, or_false] at hz
  rcases hz with rfl | rfl
  · exact hx.log
  · exact hy.log
theorem half_eq {a b m : Int} (h : ¬ a % 2 = 1) : a / 2 * m + b / 2 = (a * m + b) / 2 := by
  obtain ⟨c, rfl⟩ : ∃ c, a = 2 * c := ⟨a / 2, by omega⟩
  have e : 2 * c * m + b = b + 2 * (c * m) := by rw [Int.mul_assoc, Int.add_comm]
  rw [e, Int.add_mul_ediv_left _ _ (by decide : (2 : Int) ≠ 0), Int.mul_ediv_cancel_left _ (by decide : (2 : Int) ≠ 0), Int.add_comm]
def spHalfR (C : Addr) (TS : List (Addr × Str)) : Sp := fun vs H Q _ => ∃ (pn l : Addr) (a b : Int) (n : Nat), vs = [.ref pn, .ref l, .int a, .int b] ∧ LineAt C H l a b ∧ Sm a ∧ Sm b ∧ PenAt H pn n ∧ n < 90000 ∧ LamX.Tabs TS H ∧ ∀ (H' : Hp), PenAt H' pn (n + 1) → Kp pn TS H H' → Q (.bl true) H'
section
variable {P : Program} {w : World} {K : PySem.W.Frag} {mg : Str → Option Value} {base : Heap} {CE CLine CBadLine fBadLine CBadRest fBadRest : Addr}
theorem ok_halfR {f c tb : Addr} {fd : FuncData} {TS : List (Addr × Str)} (F : FunC K "_law_half_right" "_law_half_right" s_halfR f fd c) (T : LTx P K mg CLine CBadLine fBadLine CBadRest fBadRest) (TH : HTx P K mg CE CBadLine fBadLine CBadRest fBadRest) (DH : HeardAt K mg)
    (TB : LamX.TabB base mg c tb) (hmT : (tb, (("_law_half_right" : Str) ++ ".<locals>.") ++ "<lambda>") ∈ TS) (hu : ∀ p ∈ TS, p.1 = tb → p.2 = (("_law_half_right" : Str) ++ ".<locals>.") ++ "<lambda>")
    (D_draw : DefAt P w K mg base CX0 1 "_law_draw" ["_law_pen_here", "_law_many"] spDraw) (X_half : MethAt P w K mg base (L2.CX P w) 5 CLine "half" ["self"] (spHalf CLine CBadLine)) (C_Line : CallAt P w K mg base (L2.CX P w) 3 CLine ["self", "m"] (spCall CLine CBadLine)) :
    FnG P w K mg base CX0 10 f fd ["_law_pen_here", "_law_line", "_law_rise", "_law_base"] (spHalfR CLine TS) := by
  refine okGc F sc_halfR (fun vs H Q E h => ?_) (fun A outer s H vs Q E hgd hr h => ?_)
  · obtain ⟨pn, l, a, b, n, rfl, _⟩ := h
    rfl
  · obtain ⟨pn, l, a, b, n, rfl, hl, sa, sb, hp, hn, ht, k⟩ := h
    refine ⟨_, (pss_cons (ps_if (pt_cmpR op_eq (pe_op op_mod (pe_callTy call_int1 (by rfl) T.z_int boot_int (pa_cons (pv 2) pa_nil)) pe_int) pe_int (nomark _)) (pss_one (ps_ret (pe_cmpR (op_eqD hr.units) (My.pe_heard (k := 6) DH TH hgd (hr.mono (by decide)) TB rfl hmT hu (by rfl) (LamX.lamS_by (by show LamX.lamSB (defScope s_halfR) _ = true; decide +kernel)) rfl (fun _ _ _ _ _ => rfl) (fun A outer s H E f c hrl => (My.pe_mt0 T.cl X_half (hrl.mono (by decide)) (passes_call (takes_of rfl rfl rfl rfl) (fun _ _ _ _ h => h)) (pv 1)))) (pe_tup (pa_cons pe_str (pa_cons pe_str pa_nil))) (nomark _)))) pss_nil)
      (pss_cons (ps_set (i := 4) sc_halfR.nd rfl (Or.inl rfl) (My.pe_mt0 T.cl X_half (hr.mono (by decide)) passL (pv 1)))
      (pss_cons (ps_for PassesOwn.never rfl (pi_list (pe_lst (pa_cons pe_int (pa_cons pe_int (pa_cons pe_int (pa_cons pe_int (pa_cons (My.pe_d D_draw (hr.mono (by decide)) (by rfl) pass0 (pa_cons (pv 0) (pa_cons pe_int pa_nil))) (pa_cons (pe_op op_pow pe_int pe_int) pa_nil)))))))) (pg_name (i := 5) sc_halfR.nd rfl (Or.inl rfl)) (pss_one (ps_if (pt_cmpR op_ne (My.pe_cl C_Line (hr.mono (by decide)) passL (pv 4) (pa_cons (pv 5) pa_nil)) (pe_op op_fdivW (pe_op op_add (pe_op op_mulW (pv 2) (pv 5)) (pv 3)) pe_int) (nomark _)) (pss_one (ps_ret pe_bl)) pss_nil)))
      (pss_one (ps_ret (pe_and (pe_callB call_isi (by rfl) T.z_isinstance boot_isinstance (pa_cons (pv 4) (pa_cons (pe_glob (v := .ref CLine) (by rfl) T.gLine rfl) pa_nil))) (pe_one (pe_cmpR op_eq (pe_callB (My.call_repr hgd hr) (by rfl) T.z_repr boot_repr (pa_cons (pe_lst (pa_cons (pe_fld (pv 4) rfl) (pa_cons (pe_fld (pv 4) rfl) pa_nil))) pa_nil)) (pe_callB (My.call_repr hgd hr) (by rfl) T.z_repr boot_repr (pa_cons (pe_lst (pa_cons (pe_op op_fdivW (pv 2) pe_int) (pa_cons (pe_op op_fdivW (pv 3) pe_int) pa_nil))) pa_nil)) (nomark _))))))))), ?_⟩
    refine ⟨_, rfl, .inl ⟨_, rfl, _, _, rfl, rfl, (by show (0 : Int) < 2; decide), rfl, _, rfl, ?_⟩⟩
    refine ite2 (fun c1 => ?_) (fun c1 => ?_)
    · have c' : a % 2 = 1 := by
        have z := of_decide_eq_true c1
        injection z
      refine ⟨ht, fun H1 x1 t1 Q' hQ' => ?_⟩
      have hl1 := line_ext hl x1
      obtain ⟨dx, e1⟩ := id hl1
      refine ⟨_, rfl, l, dx, _, rfl, e1, lfs_no _ _ (by decide +kernel) (by decide +kernel), l, a, b, rfl, hl1, fun z => absurd c' z, fun _ d H2 hd hx s2 => ?_⟩
      refine .inl ⟨d, _, rfl, rfl, hx, fun t H3 h3 s3 w3 => ?_⟩
      refine ⟨(by show 2 ≤ sizeLine; decide), fun t4 h4 => ?_⟩
      refine ⟨.tuple [.str "part", .str "slope"], .tuple [.str "part", .str "slope"], .tup (SqT.of (same_new h4 _ _ w3)) (.cons (.str _) (.cons (.str _) .nil)), .tup (SqT.of upd_same) (.cons (.str _) (.cons (.str _) .nil)), by decide +kernel, by decide +kernel, ?_⟩
      have e : PyData.eqv (.tuple [.str "part", .str "slope"]) (.tuple [.str "part", .str "slope"]) = true := by decide +kernel
      rw [e]
      have ss := (s2.trans s3).trans (same_new (o := .tup [.str "part", .str "slope"]) h4)
      exact k _ ((pen_same (pen_ext hp x1) ss).le (by omega)) ((Kp.ext t1 x1).trans (Kp.same t1 ss))
    · have c' : ¬ a % 2 = 1 := fun z => c1 (decide_eq_true (by show V.int (a % 2) = V.int 1; rw [z]))
      obtain ⟨dx, e1⟩ := id hl
      refine ⟨_, rfl, l, dx, _, rfl, e1, lfs_no _ _ (by decide +kernel) (by decide +kernel), l, a, b, rfl, hl, fun _ q H5 hq5 hlq s5 => ?_, fun z => absurd z c'⟩
      have p5 := pen_same hp s5
      refine ⟨_, rfl, pn, 1000, n, rfl, by decide, by decide, p5, by omega, fun d6 H6 a6 b6 p6 u6 => ?_⟩
      refine ⟨_, _, rfl, rfl, ⟨by decide, by decide, by decide⟩, (by show 6 ≤ sizeLine; decide), fun l6 hl6 => ?_⟩
      have hq7 : LineAt CLine (upd H6 l6 (.lst [.int 0, .int 1, .int 2, .int 3, .int d6, .int (10 ^ Int.toNat 40)])) q (a / 2) (b / 2) := (line_but hlq p5 u6).same (same_new hl6)
      have p7 : PenAt (upd H6 l6 (.lst [.int 0, .int 1, .int 2, .int 3, .int d6, .int (10 ^ Int.toNat 40)])) pn (n + 1) := pen_new p6 hl6
      have u7 : But pn H5 (upd H6 l6 (.lst [.int 0, .int 1, .int 2, .int 3, .int d6, .int (10 ^ Int.toNat 40)])) := u6.trans (But.new hl6)
      have w7 : (upd H6 l6 (.lst [.int 0, .int 1, .int 2, .int 3, .int d6, .int (10 ^ Int.toNat 40)])) l6 = some (.lst ([0, 1, 2, 3, d6, 10 ^ Int.toNat 40].map V.int)) := upd_same
      generalize (upd H6 l6 (.lst [.int 0, .int 1, .int 2, .int 3, .int d6, .int (10 ^ Int.toNat 40)])) = H7 at hq7 p7 u7 w7
      obtain ⟨dq, eq7⟩ := id hq7
      have sa2 : Sm (a / 2) := Sm.half sa
      have sb2 : Sm (b / 2) := Sm.half sb
      refine ⟨l6, rfl, ⟨_, SqL.of w7⟩, for_list (K := K) (a := l6) (xs := [0, 1, 2, 3, d6, 10 ^ Int.toNat 40].map V.int) (fun i σ H' => ∃ v, σ = [some (.ref pn), some (.ref l), some (.int a), some (.int b), some (.ref q), v] ∧ H' = H7)
        ⟨none, rfl, rfl⟩ (fun i σ H' _ ⟨_, _, e⟩ => by rw [e]; exact SqL.of w7) ?_ ?_⟩
      · rintro i x σ H' hi ⟨v, rfl, rfl⟩
        obtain ⟨m, rfl, hm⟩ := mem_ints (List.mem_of_getElem? hi)
        have m0 : 0 ≤ m ∧ m ≤ 10 ^ 40 := by
          have e40 : (10 : Int) ^ Int.toNat 40 = 10 ^ 40 := rfl
          rw [e40] at hm
          simp only [List.mem_cons, List.mem_nil_iff, or_false] at hm
          rcases hm with e | e | e | e | e | e <;> omega
        have sm : m.natAbs < 2 ^ 200 := by omega
        refine ⟨_, rfl, q, rfl, _, rfl, .inr ⟨_, _, eq7⟩, q, _, _, _, _, rfl, hq7, .int _, fun m' em h0 => ?_, fun lo => ?_⟩
        · cases em
          refine ⟨Sm.mul sa2 sm, ?_⟩
          refine ⟨_, rfl, _, rfl, _, _, rfl, rfl, Sm.mul sa sm, _, rfl, _, _, rfl, rfl, _, _, rfl, rfl, ⟨by decide, by decide⟩, rfl, _, rfl, ?_⟩
          refine iteNS ?_ ?_
          · show V.int _ = V.int _
            exact congrArg V.int (half_eq c')
          · exact ⟨_, rfl, rfl⟩
        · exfalso
          rcases lo with lo | ⟨i, e, lo⟩
          · cases lo
          · cases e
            omega
      · rintro σ H' ⟨v, rfl, rfl⟩
        refine ⟨_, rfl, _, _, _, _, true, rfl, .own _, .base (.ins eq7 T.cl T.ha T.hn T.ht T.hm), T.me, _, rfl, iteT ?_⟩
        refine ⟨_, rfl, q, CLine, dq, _, _, rfl, eq7, T.cl, T.nS, lfs_slope _ _, _, rfl, q, CLine, dq, _, _, rfl, eq7, T.cl, T.nM, lfs_more _ _, (by show 2 ≤ sizeLine; decide), fun p8 h8 => ?_⟩
        refine ⟨.ref p8, .list ([a / 2, b / 2].map PyData.int), rfl, .inl (.lst (SqL.of upd_same) (dp_ints [a / 2, b / 2])), showable_ints _ (two_log sa2 sb2), dep60 _, len_ints _ (two_log sa2 sb2) (by show 2 ≤ 1000; decide), ?_⟩
        refine ⟨_, rfl, _, _, rfl, rfl, ⟨by decide, by decide⟩, _, rfl, _, _, rfl, rfl, ⟨by decide, by decide⟩, (by show 2 ≤ sizeLine; decide), fun p9 h9 => ?_⟩
        refine ⟨.ref p9, .list ([a / 2, b / 2].map PyData.int), rfl, .inl (.lst (SqL.of upd_same) (dp_ints [a / 2, b / 2])), showable_ints _ (two_log sa2 sb2), dep60 _, len_ints _ (two_log sa2 sb2) (by show 2 ≤ 1000; decide), ?_⟩
        refine ⟨rfl, ?_⟩
        have e : decide (V.str (PyData.list ([a / 2, b / 2].map PyData.int)).shown = V.str (PyData.list ([a / 2, b / 2].map PyData.int)).shown) = true := decide_eq_true rfl
        rw [e]
        have ss := (same_new (o := .lst [.int (a / 2), .int (b / 2)]) h8).trans (same_new (o := .lst [.int (a / 2), .int (b / 2)]) h9)
        exact k _ (pen_same p7 ss) (((Kp.same ht s5).trans (Kp.but (ht.ext s5) p5 u7)).trans (Kp.same (tabs_but (ht.ext s5) p5 u7) ss))
end
end My
namespace My
open PySem PySem.Spec PyProof.Rows L2
abbrev s_refusedR : Stmt := topS 26
theorem sc_refusedR : FnScope ["_law_pen_here", "_law_line", "_law_odd", "_law_wrong", "_law_many", "_law_heard_here"] ["_law_pen_here", "_law_line"] (defScope s_refusedR) := ⟨rfl, rfl, rfl, by decide +kernel, rfl, by decide +kernel, by decide +kernel⟩
/-! ### data stay where all but the tables stay -/
theorem ty_ext {H H' : Hp} {v : V} {t : String} (h : Ty0 H v t) (k : LamX.ExtN H H') : Ty0 H' v t := by
  cases h with
  | non => exact .non
  | bl b => exact .bl b
  | int i => exact .int i
  | str x => exact .str x
  | lst e => exact .lst (k _ _ e (by intro ps z; cases z))
  | tup e => exact .tup (k _ _ e (by intro ps z; cases z))
  | dK e => exact .dK (k _ _ e (by intro ps z; cases z))
theorem sql_ext {K : PySem.W.Frag} {H H' : Hp} {a : Addr} {xs : List V} (e : LamX.ExtN H H') (h : SqL K H a xs) : SqL K H' a xs := by
  rcases h with (h | ⟨o, h⟩) | h
  · exact .inl (.inl (e _ _ h (by intro ps z; cases z)))
  · exact .inl (.inr ⟨o, e _ _ h (by intro ps z; cases z)⟩)
  · exact .inr h
theorem sqt_ext {K : PySem.W.Frag} {H H' : Hp} {a : Addr} {xs : List V} (e : LamX.ExtN H H') (h : SqT K H a xs) : SqT K H' a xs := by
  rcases h with (h | ⟨o, h⟩) | h
  · exact .inl (.inl (e _ _ h (by intro ps z; cases z)))
  · exact .inl (.inr ⟨o, e _ _ h (by intro ps z; cases z)⟩)
  · exact .inr h
mutual
theorem dp_ext {K : PySem.W.Frag} {H H' : Hp} (k : LamX.ExtN H H') : ∀ (d : PyData) (v : V), Dp K H v d → Dp K H' v d
  | _, _, .non => .non
  | _, _, .bl b => .bl b
  | _, _, .int i => .int i
  | _, _, .str x => .str x
  | .list ds, _, .lst h ha => .lst (sql_ext k h) (dp_extAll k ds _ ha)
  | .tuple ds, _, .tup h ha => .tup (sqt_ext k h) (dp_extAll k ds _ ha)
theorem dp_extAll {K : PySem.W.Frag} {H H' : Hp} (k : LamX.ExtN H H') : ∀ (ds : List PyData) (vs : List V), DpAll K H vs ds → DpAll K H' vs ds
  | [], _, .nil => .nil
  | d :: ds, _, .cons h1 h2 => .cons (dp_ext k d _ h1) (dp_extAll k ds _ h2)
end
theorem dr_ext {K : PySem.W.Frag} {H H' : Hp} {v : V} {d : PyData} (k : LamX.ExtN H H') (h : Dr K H v d) : Dr K H' v d := by
  rcases h with h | ⟨a, e1, e2, e3⟩
  · exact .inl (dp_ext k d v h)
  · exact .inr ⟨a, e1, e2, k _ _ e3 (by intro ps z; cases z)⟩
/-- a value that is no times -/
def OD (H : Hp) (v : V) : Prop := ∃ t, Ty0 H v t ∧ Low v 1
theorem OD.ext {H H' : Hp} {v : V} (h : OD H v) (k : LamX.ExtN H H') : OD H' v := by
  obtain ⟨t, h1, h2⟩ := h
  exact ⟨t, ty_ext h1 k, h2⟩
/-- a value that is no rest, shown as dat -/
structure WR (K : PySem.W.Frag) (H : Hp) (v : V) (dat : PyData) : Prop where
  ty : ∃ t, Ty0 H v t
  dr : Dr K H v dat
  sh : dat.showable = true
  dp : dat.depth ≤ 60
  ln : dat.shown.length ≤ 1000
  no : ∀ m : Int, 1 ≤ m → m ≤ 9 → NoRest v m
  ok : PyData.strOk dat.shown = true
theorem WR.ext {K : PySem.W.Frag} {H H' : Hp} {v : V} {dat : PyData} (h : WR K H v dat) (k : LamX.ExtN H H') : WR K H' v dat := by
  obtain ⟨t, h1⟩ := h.ty
  exact ⟨⟨t, ty_ext h1 k⟩, dr_ext k h.dr, h.sh, h.dp, h.ln, h.no, h.ok⟩
theorem ext_same {H H' : Hp} (s : Same H H') : LamX.ExtN H H' := fun b o h _ => s b o h
theorem wr_of {K : PySem.W.Frag} {H : Hp} {v : V} {t1 t2 : Addr} (h1 : H t1 = some (.dK [])) (h2 : H t2 = some (.tup [.int 0])) (hv : v ∈ [V.non, .bl false, .int (-1), .str "0", .ref t1, .int (10 ^ Int.toNat 50), .ref t2]) : ∃ dat, WR K H v dat := by
  simp only [List.mem_cons, List.mem_nil_iff, or_false] at hv
  rcases hv with rfl | rfl | rfl | rfl | rfl | rfl | rfl
  · exact ⟨.none, ⟨_, .non⟩, .inl .non, rfl, by decide, by decide +kernel, fun m _ _ => .inl rfl, by decide +kernel⟩
  · exact ⟨.bool false, ⟨_, .bl _⟩, .inl (.bl _), rfl, by decide, by decide +kernel, fun m _ _ => .inl rfl, by decide +kernel⟩
  · exact ⟨.int (-1), ⟨_, .int _⟩, .inl (.int _), by decide, by decide, by decide +kernel, fun m _ _ => .inr ⟨_, rfl, by omega⟩, by decide +kernel⟩
  · exact ⟨.str "0", ⟨_, .str _⟩, .inl (.str _), rfl, by decide, by decide +kernel, fun m _ _ => .inl rfl, by decide +kernel⟩
  · exact ⟨.dict [], ⟨_, .dK h1⟩, .inr ⟨t1, rfl, rfl, h1⟩, rfl, by decide, by decide +kernel, fun m _ _ => .inl rfl, by decide +kernel⟩
  · exact ⟨.int (10 ^ Int.toNat 50), ⟨_, .int _⟩, .inl (.int _), by decide +kernel, by decide, by decide +kernel, fun m _ hm => .inr ⟨_, rfl, by
      have e : (10 : Int) ^ Int.toNat 50 = 10 ^ 50 := rfl
      rw [e]
      omega⟩, by decide +kernel⟩
  · exact ⟨.tuple [.int 0], ⟨_, .tup h2⟩, .inl (.tup (SqT.of h2) (.cons (.int _) .nil)), by decide, by decide, by decide +kernel, fun m _ _ => .inl rfl, by decide +kernel⟩
theorem od_of {H : Hp} {v : V} {t1 t2 : Addr} (h1 : H t1 = some (.tup [.int 1])) (h2 : H t2 = some (.lst [])) (hv : v ∈ [V.non, .bl true, .int 0, .int (-1), .str "2", .ref t1, .ref t2, .int (-(10 ^ Int.toNat 30))]) : OD H v := by
  simp only [List.mem_cons, List.mem_nil_iff, or_false] at hv
  rcases hv with rfl | rfl | rfl | rfl | rfl | rfl | rfl | rfl
  · exact ⟨_, .non, .inl rfl⟩
  · exact ⟨_, .bl _, .inl rfl⟩
  · exact ⟨_, .int _, .inr ⟨_, rfl, by decide⟩⟩
  · exact ⟨_, .int _, .inr ⟨_, rfl, by decide⟩⟩
  · exact ⟨_, .str _, .inl rfl⟩
  · exact ⟨_, .tup h1, .inl rfl⟩
  · exact ⟨_, .lst h2, .inl rfl⟩
  · exact ⟨_, .int _, .inr ⟨_, rfl, by decide⟩⟩
theorem ext_put {Ha Hx : Hp} {lh : Addr} {o : HO} (n : Ha lh = none) (x : LamX.ExtN Ha Hx) : LamX.ExtN Ha (upd Hx lh o) := fun b u e m => by
  rw [upd_ne (ne_of_none e n)]
  exact x b u e m
theorem tabs_put {TS : List (Addr × Str)} {H : Hp} {lh : Addr} {xs : List V} {o : HO} (t : LamX.Tabs TS H) (h : H lh = some (.lst xs)) : LamX.Tabs TS (upd H lh o) := fun p hp => by
  obtain ⟨ps, h1, h2, h3⟩ := t p hp
  refine ⟨ps, by rw [upd_ne (ne_of h1 h (by intro z; cases z))]; exact h1, h2, fun pos cv hc => ?_⟩
  obtain ⟨c, e1, e2⟩ := h3 pos cv hc
  exact ⟨c, e1, by rw [upd_ne (ne_of e2 h (by intro z; unfold LamX.CodeO at z; cases z))]; exact e2⟩
theorem refuse_times {K : PySem.W.Frag} {C CB CR l : Addr} {a b : Int} {v x : V} {H : Hp} {Q Q' : VK} (hl : LineAt C H l a b) (od : OD H v) (tx : ∃ t, Ty0 H x t) (k : ∀ t H', H t = none → Same H H' → H' t = some (.tup [.str "part", .str "times"]) → Q (.ref t) H') :
    spRef C CB CR [.ref l, v, x] H Q' (WHeard K CB CR Q) := by
  obtain ⟨t, ty, lo⟩ := od
  obtain ⟨t2, ty2⟩ := tx
  have no : ∀ t', v = .int t' → 1 ≤ t' → False := fun t' et h1 => by
    subst et
    rcases lo with lo | ⟨i, e, lo⟩
    · cases lo
    · cases e
      omega
  exact ⟨l, a, b, v, x, t, t2, rfl, hl, ty, ty2, fun t' r' et _ h1 _ _ => (no t' et h1).elim, fun _ d H' hd hx s => .inl ⟨d, _, rfl, rfl, hx, fun t H'' ht s' w => k t H'' (s.free ht) (s.trans s') w⟩, fun t' et h1 _ => (no t' et h1).elim⟩
theorem refuse_rest {K : PySem.W.Frag} {C CB CR l : Addr} {a b m : Int} {x : V} {t2 : String} {dat : PyData} {H : Hp} {Q Q' : VK} (hl : LineAt C H l a b) (hm : 1 ≤ m) (ty2 : Ty0 H x t2) (nr : NoRest x m) (dr : Dr K H x dat) (sh : dat.showable = true) (dp : dat.depth ≤ 60) (ln : dat.shown.length ≤ 1000)
    (k : ∀ t H', H t = none → Same H H' → H' t = some (.tup [.str "rest", .str dat.shown]) → Q (.ref t) H') : spRef C CB CR [.ref l, .int m, x] H Q' (WHeard K CB CR Q) := by
  refine ⟨l, a, b, .int m, x, _, t2, rfl, hl, .int m, ty2, fun t' r' et er _ h0 h1 => ?_, fun lo => ?_, fun t' _ _ _ d H' hd hx s => .inr ⟨d, x, dat, rfl, rfl, hx, dr_same s dr, sh, dp, Nat.le_trans ln (by decide), fun t H'' ht s' w => k t H'' (s.free ht) (s.trans s') w⟩⟩
  · exfalso
    cases et
    subst er
    rcases nr with nr | ⟨i, e, nr⟩
    · cases nr
    · cases e
      exact nr ⟨h0, h1⟩
  · exfalso
    rcases lo with lo | ⟨i, e, lo⟩
    · cases lo
    · cases e
      omega
theorem small_int {m : Int} (h1 : 1 ≤ m) (h2 : m ≤ 9) : (PyData.int m).showable = true ∧ (PyData.int m).shown.length ≤ 1000 ∧ PyData.strOk (PyData.int m).shown = true := by
  have e : m = 1 ∨ m = 2 ∨ m = 3 ∨ m = 4 ∨ m = 5 ∨ m = 6 ∨ m = 7 ∨ m = 8 ∨ m = 9 := by omega
  rcases e with rfl | rfl | rfl | rfl | rfl | rfl | rfl | rfl | rfl <;> decide +kernel
/-- the four hearings, as data -/
def heard4 (x y : Str) : PyData := .list [.tuple [.str "part", .str "times"], .tuple [.str "part", .str "times"], .tuple [.str "rest", .str x], .tuple [.str "rest", .str y]]
theorem heard4_shaped {x y : Str} (hx : PyData.strOk x = true) (hy : PyData.strOk y = true) : SeqAt.shaped (heard4 x y) = true := by
  have e1 : PyData.strOk ("part" : Str) = true := by decide +kernel
  have e2 : PyData.strOk ("times" : Str) = true := by decide +kernel
  have e3 : PyData.strOk ("rest" : Str) = true := by decide +kernel
  simp [heard4, SeqAt.shaped, PyData.canLay0, PyData.canLayAll0, PyData.depth, PyData.depthAll, hx, hy, e1, e2, e3]
theorem heard4_same (x y : Str) : PyData.eqv (heard4 x y) (heard4 x y) = true := by
  simp [heard4, PyData.eqv, PyData.eqvAll]
theorem heard4_at {K : PySem.W.Frag} {H : Hp} {l a b c d : Addr} {x y : Str} (h : H l = some (.lst [.ref a, .ref b, .ref c, .ref d])) (ha : H a = some (.tup [.str "part", .str "times"])) (hb : H b = some (.tup [.str "part", .str "times"])) (hc : H c = some (.tup [.str "rest", .str x])) (hd : H d = some (.tup [.str "rest", .str y])) : Dp K H (.ref l) (heard4 x y) :=
  .lst (SqL.of h) (.cons (.tup (SqT.of ha) (.cons (.str _) (.cons (.str _) .nil))) (.cons (.tup (SqT.of hb) (.cons (.str _) (.cons (.str _) .nil))) (.cons (.tup (SqT.of hc) (.cons (.str _) (.cons (.str _) .nil))) (.cons (.tup (SqT.of hd) (.cons (.str _) (.cons (.str _) .nil))) .nil))))
def spRefusedR (C : Addr) (TS : List (Addr × Str)) : Sp := fun vs H Q _ => ∃ (pn l : Addr) (a b : Int) (n : Nat), vs = [.ref pn, .ref l] ∧ LineAt C H l a b ∧ PenAt H pn n ∧ n < 90000 ∧ LamX.Tabs TS H ∧ ∀ (H' : Hp), PenAt H' pn (n + 3) → Kp pn TS H H' → Q (.bl true) H'
section
variable {P : Program} {w : World} {K : PySem.W.Frag} {mg : Str → Option Value} {base : Heap} {CE CLine CBadLine fBadLine CBadRest fBadRest : Addr}
theorem ok_refusedR {f c tb : Addr} {fd : FuncData} {TS : List (Addr × Str)} (F : FunC K "_law_refused_right" "_law_refused_right" s_refusedR f fd c) (T : LTx P K mg CLine CBadLine fBadLine CBadRest fBadRest) (TH : HTx P K mg CE CBadLine fBadLine CBadRest fBadRest) (DH : HeardAt K mg)
    (TB : LamX.TabB base mg c tb) (hmT : (tb, (("_law_refused_right" : Str) ++ ".<locals>.") ++ "<lambda>") ∈ TS) (hu : ∀ p ∈ TS, p.1 = tb → p.2 = (("_law_refused_right" : Str) ++ ".<locals>.") ++ "<lambda>")
    (D_draw : DefAt P w K mg base CX0 1 "_law_draw" ["_law_pen_here", "_law_many"] spDraw) (D_pick : DefAt P w K mg base CX0 2 "_law_pick" ["_law_pen_here", "_law_some"] spPick) (X_refined : MethAt P w K mg base (L2.CX P w) 5 CLine "refined" ["self", "times", "rest"] (spRef CLine CBadLine CBadRest)) :
    FnG P w K mg base CX0 10 f fd ["_law_pen_here", "_law_line"] (spRefusedR CLine TS) := by
  refine okGc F sc_refusedR (fun vs H Q E h => ?_) (fun A outer s H vs Q E hgd hr h => ?_)
  · obtain ⟨pn, l, a, b, n, rfl, _⟩ := h
    rfl
  · obtain ⟨pn, l, a, b, n, rfl, hl, hp, hn, ht, k⟩ := h
    refine ⟨_, (pss_cons (ps_set (i := 2) sc_refusedR.nd rfl (Or.inr rfl) (My.pe_d D_pick (hr.mono (by decide)) (by rfl) pass0 (pa_cons (pv 0) (pa_cons (pe_lst (pa_cons pe_non (pa_cons pe_bl (pa_cons pe_int (pa_cons (pe_un un_neg pe_int) (pa_cons pe_str (pa_cons (pe_tup (pa_cons pe_int pa_nil)) (pa_cons (pe_lst pa_nil) (pa_cons (pe_un un_neg (pe_op op_pow pe_int pe_int)) pa_nil))))))))) pa_nil))))
      (pss_cons (ps_set (i := 3) sc_refusedR.nd rfl (Or.inr rfl) (My.pe_d D_pick (hr.mono (by decide)) (by rfl) pass0 (pa_cons (pv 0) (pa_cons (pe_lst (pa_cons pe_non (pa_cons pe_bl (pa_cons (pe_un un_neg pe_int) (pa_cons pe_str (pa_cons pe_dnewK (pa_cons (pe_op op_pow pe_int pe_int) (pa_cons (pe_tup (pa_cons pe_int pa_nil)) pa_nil)))))))) pa_nil))))
      (pss_cons (ps_set (i := 4) sc_refusedR.nd rfl (Or.inr rfl) (pe_op op_add pe_int (My.pe_d D_draw (hr.mono (by decide)) (by rfl) pass0 (pa_cons (pv 0) (pa_cons pe_int pa_nil)))))
      (pss_cons (ps_set (i := 5) sc_refusedR.nd rfl (Or.inl rfl) (pe_lst (pa_cons (My.pe_heard (k := 6) DH TH hgd (hr.mono (by decide)) TB rfl hmT hu (by rfl) (LamX.lamS_by (by show LamX.lamSB (defScope s_refusedR) _ = true; decide +kernel)) rfl (fun _ _ _ _ _ => rfl) (fun A outer s H E f c hrl => (My.pe_mt T.cl X_refined (hrl.mono (by decide)) (passes_call (takes_of rfl rfl rfl rfl) (fun _ _ _ _ h => h)) (pv 1) (pa_cons (pv 2) (pa_cons (pv 3) pa_nil))))) pa_nil)))
      (pss_cons (ps_expr (pe_bm PySem.F.plainAttrs_list PySem.F.slot_list_append PySem.F.type_list_append mt_append (pv 5) (pa_cons (My.pe_heard (k := 6) DH TH hgd (hr.mono (by decide)) TB rfl hmT hu (by rfl) (LamX.lamS_by (by show LamX.lamSB (defScope s_refusedR) _ = true; decide +kernel)) rfl (fun _ _ _ _ _ => rfl) (fun A outer s H E f c hrl => (My.pe_mt T.cl X_refined (hrl.mono (by decide)) (passes_call (takes_of rfl rfl rfl rfl) (fun _ _ _ _ h => h)) (pv 1) (pa_cons (pv 2) (pa_cons pe_int pa_nil))))) pa_nil)))
      (pss_cons (ps_expr (pe_bm PySem.F.plainAttrs_list PySem.F.slot_list_append PySem.F.type_list_append mt_append (pv 5) (pa_cons (My.pe_heard (k := 6) DH TH hgd (hr.mono (by decide)) TB rfl hmT hu (by rfl) (LamX.lamS_by (by show LamX.lamSB (defScope s_refusedR) _ = true; decide +kernel)) rfl (fun _ _ _ _ _ => rfl) (fun A outer s H E f c hrl => (My.pe_mt T.cl X_refined (hrl.mono (by decide)) (passes_call (takes_of rfl rfl rfl rfl) (fun _ _ _ _ h => h)) (pv 1) (pa_cons (pv 4) (pa_cons (pv 3) pa_nil))))) pa_nil)))
      (pss_cons (ps_expr (pe_bm PySem.F.plainAttrs_list PySem.F.slot_list_append PySem.F.type_list_append mt_append (pv 5) (pa_cons (My.pe_heard (k := 6) DH TH hgd (hr.mono (by decide)) TB rfl hmT hu (by rfl) (LamX.lamS_by (by show LamX.lamSB (defScope s_refusedR) _ = true; decide +kernel)) rfl (fun _ _ _ _ _ => rfl) (fun A outer s H E f c hrl => (My.pe_mt T.cl X_refined (hrl.mono (by decide)) (passes_call (takes_of rfl rfl rfl rfl) (fun _ _ _ _ h => h)) (pv 1) (pa_cons (pv 4) (pa_cons (pv 4) pa_nil))))) pa_nil)))
      (pss_one (ps_ret (pe_cmpR (op_eqD hr.units) (pv 5) (pe_op op_cat (pe_op op_rep (pe_lst (pa_cons (pe_tup (pa_cons pe_str (pa_cons pe_str pa_nil))) pa_nil)) pe_int) (pe_lst (pa_cons (pe_tup (pa_cons pe_str (pa_cons (pe_callB (My.call_repr hgd hr) (by rfl) T.z_repr boot_repr (pa_cons (pv 3) pa_nil)) pa_nil))) (pa_cons (pe_tup (pa_cons pe_str (pa_cons (pe_callB (My.call_repr hgd hr) (by rfl) T.z_repr boot_repr (pa_cons (pv 4) pa_nil)) pa_nil))) pa_nil)))) (nomark _))))))))))), ?_⟩
    -- odd
    refine ⟨_, rfl, _, rfl, (by show 1 ≤ sizeLine; decide), fun t1 h1 => ⟨(by show 0 ≤ sizeLine; decide), fun t2 h2 => ⟨_, _, rfl, rfl, ⟨by decide, by decide, by decide⟩, _, rfl, (by show 8 ≤ sizeLine; decide), fun l1 hl1 => ?_⟩⟩⟩
    have pA := pen_new (o := .lst []) (pen_new (o := .tup [.int 1]) hp h1) h2
    have w1 := same_new (o := .lst [.non, .bl true, .int 0, .int (-1), .str "2", .ref t1, .ref t2, .int (-(10 ^ Int.toNat 30))]) hl1 _ _ (same_new (o := .lst []) h2 _ _ (upd_same (H := H) (a := t1) (o := .tup [.int 1])))
    have w2 := same_new (o := .lst [.non, .bl true, .int 0, .int (-1), .str "2", .ref t1, .ref t2, .int (-(10 ^ Int.toNat 30))]) hl1 _ _ (upd_same (H := upd H t1 (.tup [.int 1])) (a := t2) (o := .lst []))
    refine ⟨pn, l1, n, _, rfl, upd_same, pen_ne pA hl1, (by show 0 < 8; decide), (by show 8 ≤ 1000; decide), pen_new pA hl1, by omega, fun v1 H1 hv1 p1 u1 => ?_⟩
    have n1 : t1 ≠ pn := pen_ne hp h1
    have n2 : t2 ≠ pn := pen_ne (pen_new (o := .tup [.int 1]) hp h1) h2
    have b1 : But pn H H1 := (((But.new h1).trans (But.new h2)).trans (But.new hl1)).trans u1
    have w1' := u1 _ _ w1 n1
    have w2' := u1 _ _ w2 n2
    -- wrong
    refine ⟨_, rfl, _, rfl, fun t3 h3 => ?_⟩
    refine ⟨_, _, rfl, rfl, ⟨by decide, by decide, by decide⟩, (by show 1 ≤ sizeLine; decide), fun t4 h4 => ⟨(by show 7 ≤ sizeLine; decide), fun l2 hl2 => ?_⟩⟩
    have pB := pen_new (o := .tup [.int 0]) (pen_new (o := .dK []) p1 h3) h4
    have w3 := same_new (o := .lst [.non, .bl false, .int (-1), .str "0", .ref t3, .int (10 ^ Int.toNat 50), .ref t4]) hl2 _ _ (same_new (o := .tup [.int 0]) h4 _ _ (upd_same (H := H1) (a := t3) (o := .dK [])))
    have w4 := same_new (o := .lst [.non, .bl false, .int (-1), .str "0", .ref t3, .int (10 ^ Int.toNat 50), .ref t4]) hl2 _ _ (upd_same (H := upd H1 t3 (.dK [])) (a := t4) (o := .tup [.int 0]))
    refine ⟨pn, l2, n + 1, _, rfl, upd_same, pen_ne pB hl2, (by show 0 < 7; decide), (by show 7 ≤ 1000; decide), pen_new pB hl2, by omega, fun v2 H2 hv2 p2 u2 => ?_⟩
    have n3 : t3 ≠ pn := pen_ne p1 h3
    have n4 : t4 ≠ pn := pen_ne (pen_new (o := .dK []) p1 h3) h4
    have b2 : But pn H1 H2 := (((But.new h3).trans (But.new h4)).trans (But.new hl2)).trans u2
    -- many
    refine ⟨_, rfl, pn, 9, n + 2, rfl, by decide, by decide, p2, by omega, fun d3 H3 a3 c3 p3 u3 => ?_⟩
    refine ⟨_, _, rfl, rfl, ?_⟩
    have od3 : OD H3 v1 := od_of (u3 _ _ (b2 _ _ w1' n1) n1) (u3 _ _ (b2 _ _ w2' n2) n2) hv1
    obtain ⟨dat, wr3⟩ : ∃ dat, WR K H3 v2 dat := wr_of (u3 _ _ (u2 _ _ w3 n3) n3) (u3 _ _ (u2 _ _ w4 n4) n4) hv2
    have b3 : But pn H H3 := (b1.trans b2).trans u3
    have hl3 := line_but hl hp b3
    have kp3 : Kp pn TS H H3 := Kp.but ht hp b3
    have m0 : 1 ≤ 1 + d3 ∧ 1 + d3 ≤ 9 := by omega
    -- the first refusal
    refine ⟨kp3.tabs, fun H4 x4 tb4 Q' hQ' => ?_⟩
    have hl4 := line_ext hl3 x4
    obtain ⟨dx4, e4⟩ := id hl4
    refine ⟨_, rfl, l, dx4, _, rfl, e4, lfs_no _ _ (by decide +kernel) (by decide +kernel), _, rfl, _, rfl, refuse_times hl4 (od3.ext x4) (wr3.ext x4).ty fun ta Ha na sa wa => ?_⟩
    refine ⟨(by show 1 ≤ sizeLine; decide), fun lh hlh => ?_⟩
    have xA : LamX.ExtN H3 Ha := x4.trans (ext_same sa)
    have lA := line_ext hl3 xA
    have oA := od3.ext xA
    have wA := wr3.ext xA
    have tA : LamX.Tabs TS Ha := tb4.ext sa
    have kA : Kp pn TS H Ha := kp3.trans (Kp.ext tA xA)
    have pA3 := pen_ext p3 xA
    have X5 : LamX.ExtN Ha (upd Ha lh (.lst [.ref ta])) := ext_same (same_new hlh)
    have T5 : LamX.Tabs TS (upd Ha lh (.lst [.ref ta])) := tA.ext (same_new hlh)
    have L5 : (upd Ha lh (.lst [.ref ta])) lh = some (.lst [.ref ta]) := upd_same
    generalize (upd Ha lh (.lst [.ref ta])) = H5 at X5 T5 L5
    -- the second one
    refine ⟨_, rfl, .inl ⟨rfl, _, SqL.of L5⟩, T5, fun H6 x6 tb6 Q6 hQ6 => ?_⟩
    have X6 := X5.trans x6
    obtain ⟨dx6, e6⟩ := id (line_ext lA X6)
    refine ⟨_, rfl, l, dx6, _, rfl, e6, lfs_no _ _ (by decide +kernel) (by decide +kernel), _, rfl, refuse_times ⟨dx6, e6⟩ (oA.ext X6) ⟨_, .int 0⟩ fun tb Hb nb sb wb => ?_⟩
    have L6 : Hb lh = some (.lst [.ref ta]) := sb _ _ (x6 _ _ L5 (by intro ps z; cases z))
    refine ⟨lh, _, _, rfl, rfl, L6, (by show 1 < sizeLine; decide), ?_⟩
    have X7 : LamX.ExtN Ha (upd Hb lh (.lst ([.ref ta] ++ [.ref tb]))) := ext_put hlh (X6.trans (ext_same sb))
    have T7 : LamX.Tabs TS (upd Hb lh (.lst ([.ref ta] ++ [.ref tb]))) := tabs_put (tb6.ext sb) L6
    have L7 : (upd Hb lh (.lst ([.ref ta] ++ [.ref tb]))) lh = some (.lst [.ref ta, .ref tb]) := upd_same
    have B7 : (upd Hb lh (.lst ([.ref ta] ++ [.ref tb]))) tb = some (.tup [.str "part", .str "times"]) := by rw [upd_ne (ne_of wb L6 (by intro z; cases z))]; exact wb
    generalize (upd Hb lh (.lst ([.ref ta] ++ [.ref tb]))) = H7 at X7 T7 L7 B7
    -- the third one
    refine ⟨_, rfl, .inl ⟨rfl, _, SqL.of L7⟩, T7, fun H8 x8 tb8 Q8 hQ8 => ?_⟩
    have X8 := X7.trans x8
    obtain ⟨dx8, e8⟩ := id (line_ext lA X8)
    have w8 := wA.ext X8
    obtain ⟨ty8, tw8⟩ := w8.ty
    refine ⟨_, rfl, l, dx8, _, rfl, e8, lfs_no _ _ (by decide +kernel) (by decide +kernel), _, rfl, _, rfl, refuse_rest ⟨dx8, e8⟩ m0.1 tw8 (w8.no _ m0.1 m0.2) w8.dr w8.sh w8.dp w8.ln fun tc Hc nc sc wc => ?_⟩
    have L8 : Hc lh = some (.lst [.ref ta, .ref tb]) := sc _ _ (x8 _ _ L7 (by intro ps z; cases z))
    refine ⟨lh, _, _, rfl, rfl, L8, (by show 2 < sizeLine; decide), ?_⟩
    have X9 : LamX.ExtN Ha (upd Hc lh (.lst ([.ref ta, .ref tb] ++ [.ref tc]))) := ext_put hlh (X8.trans (ext_same sc))
    have T9 : LamX.Tabs TS (upd Hc lh (.lst ([.ref ta, .ref tb] ++ [.ref tc]))) := tabs_put (tb8.ext sc) L8
    have L9 : (upd Hc lh (.lst ([.ref ta, .ref tb] ++ [.ref tc]))) lh = some (.lst [.ref ta, .ref tb, .ref tc]) := upd_same
    have b8 : Hc tb = some (.tup [.str "part", .str "times"]) := sc _ _ (x8 _ _ B7 (by intro ps z; cases z))
    have B9 : (upd Hc lh (.lst ([.ref ta, .ref tb] ++ [.ref tc]))) tb = some (.tup [.str "part", .str "times"]) := by rw [upd_ne (ne_of b8 L8 (by intro z; cases z))]; exact b8
    have C9 : (upd Hc lh (.lst ([.ref ta, .ref tb] ++ [.ref tc]))) tc = some (.tup [.str "rest", .str dat.shown]) := by rw [upd_ne (ne_of wc L8 (by intro z; cases z))]; exact wc
    generalize (upd Hc lh (.lst ([.ref ta, .ref tb] ++ [.ref tc]))) = H9 at X9 T9 L9 B9 C9
    -- the fourth one
    refine ⟨_, rfl, .inl ⟨rfl, _, SqL.of L9⟩, T9, fun H10 x10 tb10 Q10 hQ10 => ?_⟩
    have X10 := X9.trans x10
    obtain ⟨dx10, e10⟩ := id (line_ext lA X10)
    obtain ⟨sm1, sm2, sm3⟩ := small_int m0.1 m0.2
    refine ⟨_, rfl, l, dx10, _, rfl, e10, lfs_no _ _ (by decide +kernel) (by decide +kernel), _, rfl, _, rfl, refuse_rest ⟨dx10, e10⟩ m0.1 (.int (1 + d3)) (.inr ⟨1 + d3, rfl, by omega⟩) (dat := .int (1 + d3)) (.inl (.int (1 + d3))) sm1 (by show 0 ≤ 60; decide) sm2 fun td Hd nd sd wd => ?_⟩
    have L10 : Hd lh = some (.lst [.ref ta, .ref tb, .ref tc]) := sd _ _ (x10 _ _ L9 (by intro ps z; cases z))
    refine ⟨lh, _, _, rfl, rfl, L10, (by show 3 < sizeLine; decide), ?_⟩
    have X11 : LamX.ExtN Ha (upd Hd lh (.lst ([.ref ta, .ref tb, .ref tc] ++ [.ref td]))) := ext_put hlh (X10.trans (ext_same sd))
    have T11 : LamX.Tabs TS (upd Hd lh (.lst ([.ref ta, .ref tb, .ref tc] ++ [.ref td]))) := tabs_put (tb10.ext sd) L10
    have L11 : (upd Hd lh (.lst ([.ref ta, .ref tb, .ref tc] ++ [.ref td]))) lh = some (.lst [.ref ta, .ref tb, .ref tc, .ref td]) := upd_same
    have b10 : Hd tb = some (.tup [.str "part", .str "times"]) := sd _ _ (x10 _ _ B9 (by intro ps z; cases z))
    have c10 : Hd tc = some (.tup [.str "rest", .str dat.shown]) := sd _ _ (x10 _ _ C9 (by intro ps z; cases z))
    have B11 : (upd Hd lh (.lst ([.ref ta, .ref tb, .ref tc] ++ [.ref td]))) tb = some (.tup [.str "part", .str "times"]) := by rw [upd_ne (ne_of b10 L10 (by intro z; cases z))]; exact b10
    have C11 : (upd Hd lh (.lst ([.ref ta, .ref tb, .ref tc] ++ [.ref td]))) tc = some (.tup [.str "rest", .str dat.shown]) := by rw [upd_ne (ne_of c10 L10 (by intro z; cases z))]; exact c10
    have D11 : (upd Hd lh (.lst ([.ref ta, .ref tb, .ref tc] ++ [.ref td]))) td = some (.tup [.str "rest", .str (PyData.int (1 + d3)).shown]) := by rw [upd_ne (ne_of wd L10 (by intro z; cases z))]; exact wd
    have A11 := X11 _ _ wa (by intro ps z; cases z)
    generalize (upd Hd lh (.lst ([.ref ta, .ref tb, .ref tc] ++ [.ref td]))) = H11 at X11 T11 L11 A11 B11 C11 D11
    -- what they are held against
    refine ⟨_, rfl, (by show 2 ≤ sizeLine; decide), fun u1 hu1 => ⟨(by show 1 ≤ sizeLine; decide), fun u2 hu2 => ?_⟩⟩
    refine ⟨u2, 2, _, rfl, rfl, upd_same, by decide, by decide, (by show 1 * 2 ≤ sizeLine; decide), fun u3 hu3 => ?_⟩
    generalize hg : upd (upd (upd H11 u1 (HO.tup [V.str (Str.ofString "part"), V.str (Str.ofString "times")])) u2 (HO.lst [V.ref u1])) u3 (HO.lst (List.replicate (Int.toNat 2) [V.ref u1]).flatten) = H12
    have S12 : Same H11 H12 := hg ▸ ((same_new hu1).trans (same_new hu2)).trans (same_new hu3)
    have U1 : H12 u1 = some (.tup [.str "part", .str "times"]) := hg ▸ same_new hu3 _ _ (same_new hu2 _ _ upd_same)
    have U3 : H12 u3 = some (.lst [.ref u1, .ref u1]) := hg ▸ upd_same
    clear hg
    have w12 := (wA.ext X11).ext (ext_same S12)
    refine ⟨_, rfl, _, _, rfl, w12.dr, w12.sh, w12.dp, Nat.le_trans w12.ln (by decide), (by show 2 ≤ sizeLine; decide), fun u4 hu4 => ?_⟩
    refine ⟨_, rfl, _, .int (1 + d3), rfl, .inl (.int _), sm1, (by show 0 ≤ 60; decide), Nat.le_trans sm2 (by decide), (by show 2 ≤ sizeLine; decide), fun u5 hu5 => ⟨(by show 2 ≤ sizeLine; decide), fun u6 hu6 => ?_⟩⟩
    generalize hg : upd (upd (upd H12 u4 _) u5 _) u6 _ = H13
    have S13 : Same H12 H13 := hg ▸ ((same_new hu4).trans (same_new hu5)).trans (same_new hu6)
    have U4 : H13 u4 = some (.tup [.str "rest", .str dat.shown]) := hg ▸ same_new hu6 _ _ (same_new hu5 _ _ upd_same)
    have U5 : H13 u5 = some (.tup [.str "rest", .str (PyData.int (1 + d3)).shown]) := hg ▸ same_new hu6 _ _ upd_same
    have U6 : H13 u6 = some (.lst [.ref u4, .ref u5]) := hg ▸ upd_same
    clear hg
    refine ⟨u3, u6, _, _, rfl, rfl, S13 _ _ U3, U6, (by show 2 + 2 ≤ sizeLine; decide), fun u7 hu7 => ?_⟩
    have s7 := same_new (o := .lst ([.ref u1, .ref u1] ++ [.ref u4, .ref u5])) hu7
    have S14 := (S12.trans S13).trans s7
    refine ⟨heard4 dat.shown (PyData.int (1 + d3)).shown, heard4 dat.shown (PyData.int (1 + d3)).shown, heard4_at (S14 _ _ L11) (S14 _ _ A11) (S14 _ _ B11) (S14 _ _ C11) (S14 _ _ D11), heard4_at (H := upd H13 u7 (.lst ([.ref u1, .ref u1] ++ [.ref u4, .ref u5]))) upd_same (s7 _ _ (S13 _ _ U1)) (s7 _ _ (S13 _ _ U1)) (s7 _ _ U4) (s7 _ _ U5), heard4_shaped wA.ok sm3, heard4_shaped wA.ok sm3, ?_⟩
    rw [heard4_same]
    have X14 := X11.trans (ext_same S14)
    exact k _ (pen_ext pA3 X14) (kA.trans (Kp.ext (T11.ext S14) X14))
end
end My
namespace My
open PySem PySem.Spec PyProof.Rows L2
abbrev s_law : Stmt := topS 27
theorem sc_law : FnScope ["_law_script", "_law_pen_here", "_law_turn", "_law_rise", "_law_base", "_law_line"] ["_law_script"] (defScope s_law) := ⟨rfl, rfl, rfl, by decide +kernel, rfl, by decide +kernel, by decide +kernel⟩
theorem sm_of {z : Int} (h1 : -(2 * 10 ^ 30) < z) (h2 : z < 2 * 10 ^ 30) : Sm z := by
  show z.natAbs < 2 ^ 300
  omega
theorem init_at {C CB : Addr} {H : Hp} {x dx : Addr} {a b : Int} {R : Hp → Prop} {E : XK} (hx : H x = none) (hd : H dx = none) (ne : dx ≠ x) (k : ∀ H', LineAt C H' x a b → Same H H' → R H') :
    spInit C CB (.ref x :: ([.int a, .int b] ++ [])) (upd (upd H dx (.own x)) x (.ins C dx [])) (fun v H2 => v = .non ∧ R H2) E := init_ints (Q := fun _ H' => R H') hx hd ne k
def spLaw (K : PySem.W.Frag) (TS : List (Addr × Str)) : Sp := fun vs H Q _ => ∃ (a : Addr) (ns : List Int), vs = [.ref a] ∧ SqL K H a (ns.map V.int) ∧ LamX.Tabs TS H ∧ ∀ (H' : Hp), Q (.bl true) H'
section
variable {P : Program} {w : World} {K : PySem.W.Frag} {mg : Str → Option Value} {base : Heap} {CE CLine CBadLine fBadLine CBadRest fBadRest : Addr}
theorem ok_law {f : Addr} {fd : FuncData} {TS : List (Addr × Str)} (F : Fun K "law" "law" s_law f fd) (T : LTx P K mg CLine CBadLine fBadLine CBadRest fBadRest)
    (D_pen : DefAt P w K mg base CX0 1 "_law_pen" ["_law_script"] (spPen K)) (D_draw : DefAt P w K mg base CX0 1 "_law_draw" ["_law_pen_here", "_law_many"] spDraw) (D_integer : DefAt P w K mg base CX0 3 "_law_integer" ["_law_pen_here"] spInteger)
    (M_Line : MakeAt P w K mg base (L2.CX P w) 3 "Line" CLine ["self", "slope", "more"] (spInit CLine CBadLine) [])
    (D_halfR : DefG P w K mg base CX0 10 "_law_half_right" ["_law_pen_here", "_law_line", "_law_rise", "_law_base"] (spHalfR CLine TS)) (D_refinedR : DefAt P w K mg base CX0 7 "_law_refined_right" ["_law_pen_here", "_law_line", "_law_rise", "_law_base"] (spRefinedR CLine))
    (D_refusedR : DefG P w K mg base CX0 10 "_law_refused_right" ["_law_pen_here", "_law_line"] (spRefusedR CLine TS)) : FnG P w K mg base CX0 12 f fd ["_law_script"] (spLaw K TS) := by
  refine okG F sc_law (fun vs H Q E h => ?_) (fun cdv A outer s H vs Q E hf hgd hr h => ?_)
  · obtain ⟨a, ns, rfl, _⟩ := h
    rfl
  · obtain ⟨a, ns, rfl, hs, ht, k⟩ := h
    refine ⟨_, (pss_cons (ps_set (i := 1) sc_law.nd rfl (Or.inl rfl) (My.pe_d D_pen (hr.mono (by decide)) (by rfl) pass0 (pa_cons (pv 0) pa_nil)))
      (pss_cons (ps_for PassesOwn.never rfl (pi_range1 rfl T.z_range (pa_cons pe_int pa_nil)) (pg_name (i := 2) sc_law.nd rfl (Or.inl rfl)) (pss_cons (ps_par (i := 3) (j := 4) (by rfl) sc_law.nd rfl rfl (by decide) rfl rfl (pa_cons (My.pe_d D_integer (hr.mono (by decide)) (by rfl) pass0 (pa_cons (pv 1) pa_nil)) (pa_cons (My.pe_d D_integer (hr.mono (by decide)) (by rfl) pass0 (pa_cons (pv 1) pa_nil)) pa_nil)) (by rfl))
      (pss_cons (ps_if (pt_cmpR op_eq (My.pe_d D_draw (hr.mono (by decide)) (by rfl) pass0 (pa_cons (pv 1) (pa_cons pe_int pa_nil))) pe_int (nomark _)) (pss_one (ps_set (i := 3) sc_law.nd rfl (Or.inl rfl) (pe_op op_mul pe_int (pv 3)))) pss_nil)
      (pss_cons (ps_set (i := 5) sc_law.nd rfl (Or.inl rfl) (My.pe_mk M_Line (hr.mono (by decide)) (by rfl) passL (pa_cons (pv 3) (pa_cons (pv 4) pa_nil))))
      (pss_cons (ps_if (PW.pt (pw_or (pt_not (pt_val (My.pe_dG D_halfR hgd (hr.mono (by decide)) (by rfl) pass0 (pa_cons (pv 1) (pa_cons (pv 5) (pa_cons (pv 3) (pa_cons (pv 4) pa_nil))))))) (pw_or1 (pt_not (pt_val (My.pe_d D_refinedR (hr.mono (by decide)) (by rfl) pass0 (pa_cons (pv 1) (pa_cons (pv 5) (pa_cons (pv 3) (pa_cons (pv 4) pa_nil)))))))))) (pss_one (ps_ret pe_bl)) pss_nil)
      (pss_one (ps_if (PW.pt (pw_or (pt_not (pt_val (My.pe_dG D_refusedR hgd (hr.mono (by decide)) (by rfl) pass0 (pa_cons (pv 1) (pa_cons (pv 5) pa_nil))))) (pw_or1 (pt_cmpR op_ne (pe_callB (My.call_repr hgd hr) (by rfl) T.z_repr boot_repr (pa_cons (pe_lst (pa_cons (pe_fld (pv 5) rfl) (pa_cons (pe_fld (pv 5) rfl) pa_nil))) pa_nil)) (pe_callB (My.call_repr hgd hr) (by rfl) T.z_repr boot_repr (pa_cons (pe_lst (pa_cons (pv 3) (pa_cons (pv 4) pa_nil))) pa_nil)) (nomark _))))) (pss_one (ps_ret pe_bl)) pss_nil)))))))
      (pss_one (ps_ret pe_bl)))), ?_⟩
    refine ⟨_, rfl, a, ns, rfl, hs, fun pn H1 h1 p1 s1 => ?_⟩
    refine ⟨8, rfl, by decide, by decide, for_range (fun i σ H' => ∃ v2 v3 v4 v5, σ = [some (.ref a), some (.ref pn), v2, v3, v4, v5] ∧ PenAt H' pn (20 * i) ∧ LamX.Tabs TS H') ⟨none, none, none, none, rfl, p1, ht.ext s1⟩ ?_ ?_⟩
    · rintro i σ H' hi ⟨v2, v3, v4, v5, rfl, hp, htb⟩
      have hi8 : i < 8 := hi
      refine ⟨_, rfl, pn, 20 * i, rfl, hp, by omega, fun z1 H2 a1 b1 p2 u2 => ?_⟩
      refine ⟨_, rfl, pn, 20 * i + 5, rfl, p2, by omega, fun z2 H3 a2 b2 p3 u3 => ?_⟩
      refine ⟨_, _, rfl, _, rfl, pn, 2, 20 * i + 5 + 5, rfl, by decide, by decide, p3, by omega, fun d4 H4 a4 b4 p4 u4 => ⟨rfl, _, rfl, ?_⟩⟩
      have t4 : LamX.Tabs TS H4 := tabs_but (tabs_but (tabs_but htb hp u2) p2 u3) p3 u4
      have sb : Sm z2 := sm_of (by omega) (by omega)
      refine ite2 (fun c => ⟨_, rfl, _, _, rfl, rfl, .inl ⟨by decide, by decide⟩, ?_⟩) (fun c => ?_)
      all_goals
        refine ⟨_, rfl, _, rfl, fun x dx hx hd ne => ?_⟩
        refine init_at hx hd ne fun H5 l5 s5 => ?_
        have p5 := pen_same p4 s5
        refine ⟨_, rfl, _, rfl, _, rfl, _, rfl, pn, x, _, z2, _, rfl, l5, sm_of (by omega) (by omega), sb, p5, by omega, t4.ext s5, fun H6 p6 k6 => ?_⟩
        have l6 := line_kp l5 p5 k6
        refine ⟨_, rfl, iteF ?_⟩
        refine ⟨_, rfl, _, rfl, _, rfl, _, rfl, pn, x, _, z2, _, rfl, l6, sm_of (by omega) (by omega), sb, p6, by omega, fun H7 p7 u7 => ?_⟩
        have l7 := line_but l6 p6 u7
        refine ⟨_, rfl, iteF ?_⟩
        have t7 := tabs_but k6.tabs p6 u7
        refine ⟨_, rfl, _, rfl, pn, x, _, z2, _, rfl, l7, p7, by omega, t7, fun H8 p8 k8 => ?_⟩
        have l8 := line_kp l7 p7 k8
        refine ⟨_, rfl, iteF ?_⟩
        obtain ⟨dq, e8⟩ := id l8
        refine ⟨_, rfl, x, CLine, dq, _, _, rfl, e8, T.cl, T.nS, lfs_slope _ _, _, rfl, x, CLine, dq, _, _, rfl, e8, T.cl, T.nM, lfs_more _ _, (by show 2 ≤ sizeLine; decide), fun p9 h9 => ?_⟩
        refine ⟨.ref p9, .list ([_, z2].map PyData.int), rfl, .inl (.lst (SqL.of upd_same) (dp_ints [_, z2])), showable_ints _ (two_log (sm_of (by omega) (by omega)) sb), dep60 _, len_ints _ (two_log (sm_of (by omega) (by omega)) sb) (by show 2 ≤ 1000; decide), ?_⟩
        refine ⟨_, rfl, _, rfl, (by show 2 ≤ sizeLine; decide), fun p10 h10 => ?_⟩
        refine ⟨.ref p10, .list ([_, z2].map PyData.int), rfl, .inl (.lst (SqL.of upd_same) (dp_ints [_, z2])), showable_ints _ (two_log (sm_of (by omega) (by omega)) sb), dep60 _, len_ints _ (two_log (sm_of (by omega) (by omega)) sb) (by show 2 ≤ 1000; decide), ?_⟩
        refine ⟨rfl, _, rfl, iteNS rfl ?_⟩
        exact ⟨_, _, _, _, rfl, (pen_new (pen_new p8 h9) h10).le (by omega), (k8.tabs.ext (same_new h9)).ext (same_new h10)⟩
    · rintro σ H' ⟨v2, v3, v4, v5, rfl, hp, htb⟩
      exact k _
end
end My
/-! The end of a law whose def shows containers: a def that keeps its promise where nothing is being shown. -/
namespace My
open PySem PySem.Spec PyProof.Rows L2
/-- the heap h at the law's start as the walk sees it: the script's list at a, the tables of code objects -/
structure Begin (P : Program) (w : World) (K : PySem.W.Frag) (cs : List (Addr × Addr)) (a : Addr) (ns : List Int) (H : Hp) (h : Heap) : Prop where
  tbl : ∀ p ∈ cs, H p.2 = some (.tbl #[])
  kind : ∀ b, H b = none ∨ b ∈ cs.map (·.2) ∨ ∃ o xs, H b = some (.frz o (.lst xs))
  seq : SqL K H a (ns.map V.int)
  ok : HOk P w H h
  only : ∀ b, H b ≠ none → b = a ∨ b ∈ cs.map (·.2)
  out : H a ≠ none → K.lookup a = none
/-- what is known of a table and its code object -/
structure TabF (K : PySem.W.Frag) (h : Heap) (p : Addr × Addr) : Prop where
  get : h.get? p.2 = some { cls := .none, data := .fields #[] }
  out : K.lookup p.2 = none
  hd : PySem.W.CodeHd h p.1 p.2
def Goal (l : Program) (w : World) (fa a : Addr) (s₁ : Shared) : Prop := codeAny (model l w) callerA (.call (.ref fa) ⟨[.ref a], []⟩) (fun r s' => r = .ok (.ret (.bool true)) ∧ OldK s₁.heap s'.heap ∧ s'.os = s₁.os ∧ AllBare s'.gens) s₁
theorem tab_get {K : PySem.W.Frag} {h : Heap} {cs : List (Addr × Addr)} (t : ∀ p ∈ cs, TabF K h p) {b : Addr} (hb : b ∈ cs.map (·.2)) : h.get? b = some { cls := .none, data := .fields #[] } := by
  obtain ⟨p, hp, rfl⟩ := List.mem_map.mp hb
  exact (t p hp).get
section
variable {P : Program} {w : World} {K : PySem.W.Frag} {mg mb : Str → Option Value} {k : Nat} {fa a : Addr} {cs : List (Addr × Addr)} {fd : FuncData} {x : Str} {sp : Sp} {s₁ : Shared} {vs : List Value} {ns : List Int}
theorem from_begin {H : Hp} (B : Begin P w K cs a ns H s₁.heap) (hK : K.In s₁.heap) (gN : s₁.heap.Ns mainGlobals mg) (bN : s₁.heap.Ns builtinsNs mb) (bB : ∀ x : Str, x ≠ "__name__" → mb x = bootBuiltins x) (lim : s₁.heap.NoLimit) (gens : s₁.gens = #[])
    (ts : ∀ p ∈ cs, TabF K s₁.heap p) (mB : ∃ (bm : Addr) (ob : Obj), mg "__builtins__" = some (.ref bm) ∧ bm ≠ builtinsNs ∧ s₁.heap.get? bm = some ob ∧ ob.cls = .type "module" ∧ ob.dict = some builtinsNs ∧ ob.data = .plain)
    (la : s₁.heap.get? a = some { cls := .type "list", data := .seq vs.toArray }) (hr : Room k callerA)
    (F : ∀ base : Heap, K.In base → base.Ns mainGlobals mg → (∀ p ∈ cs, LamX.TabB base mg p.1 p.2) → FnG P w K mg base CX0 k fa fd [x] sp) (bd : ∀ (s : Shared) (u : Value), BindsTo s fd ⟨[u], []⟩ [(x, u)])
    (go : sp [.ref a] H (fun v _ => v = .bl true) fun _ _ _ => False) : Goal P w fa a s₁ := by
  have away : ∀ {b : Addr} {o : Obj}, s₁.heap.get? b = some o → (∀ ys n, o.data ≠ .seq ys n) → o.data ≠ .fields #[] → H b = none := fun {b o} e n1 n2 => by
    by_cases q : H b = none
    · exact q
    · exfalso
      rcases B.only b q with rfl | hb
      · rw [la] at e
        injection e with e
        subst e
        exact n1 _ _ rfl
      · rw [tab_get ts hb] at e
        injection e with e
        subst e
        exact n2 rfl
  have seen : ∀ {b : Addr} {o : Obj}, s₁.heap.get? b = some o → H b = none → (hidT s₁.heap H).get? b = some o := fun e n => hidT_get e n
  have nsOf : ∀ {b : Addr} {m : Str → Option Value}, s₁.heap.Ns b m → (hidT s₁.heap H).Ns b m := fun {b m} ⟨o, es, ep, e, d, r⟩ =>
    ⟨o, es, ep, seen e (away e (fun ys n z => by rw [d] at z; cases z) (fun z => by rw [d] at z; cases z)), d, r⟩
  have inK : K.In (hidT s₁.heap H) := fun b o e => by
    refine seen (hK b o e) ?_
    by_cases q : H b = none
    · exact q
    · exfalso
      rcases B.only b q with rfl | hb
      · rw [B.out q] at e
        cases e
      · obtain ⟨p, hp, rfl⟩ := List.mem_map.mp hb
        rw [(ts p hp).out] at e
        cases e
  have modK : L2.Mod K mg (hidT s₁.heap H) := ⟨inK, nsOf gN, ⟨mb, nsOf bN, bB⟩, let ⟨mc, h1, h2⟩ := lim; ⟨mc, nsOf h1, h2⟩⟩
  have tabs : ∀ p ∈ cs, LamX.TabB (hidT s₁.heap H) mg p.1 p.2 := fun p hp => by
    have tp := ts p hp
    refine ⟨?_, ?_, fun z => ?_⟩
    · obtain ⟨o, us, file, tf, flags, tg, inF, text, tt, e1, r1, r2, r3, rs⟩ := tp.hd
      exact ⟨o, us, file, tf, flags, tg, inF, text, tt, seen e1 (away e1 (fun ys n z => by rw [r2] at z; cases z) (fun z => by rw [r2] at z; cases z; simp at r3)), r1, r2, r3, rs⟩
    · obtain ⟨bm, ob, m1, m2, m3, m4, m5, m6⟩ := mB
      refine ⟨bm, ob, m1, m2, fun z => ?_, fun z => ?_, seen m3 (away m3 (fun ys n z => by rw [m6] at z; cases z) (fun z => by rw [m6] at z; cases z)), m4, m5, m6⟩
      · obtain ⟨o, es, ep, e, hd, _⟩ := gN
        rw [z, e] at m3
        cases m3
        rw [hd] at m6
        cases m6
      · rw [z, tp.get] at m3
        cases m3
        cases m6
    · obtain ⟨o, es, ep, e, hd, _⟩ := gN
      rw [z, tp.get] at e
      cases e
      cases hd
  have env0 : Env0 P w K mg (hidT s₁.heap H) callerA [] s₁ H := ⟨rfl, modK, fun b o e => of_hidT e, Nat.le_of_eq (hidT_size _ _), trivial, fun b hb => absurd (show b ∈ ([] : List Addr) from hb) (by simp), B.ok, .of_eq gens⟩
  unfold Goal
  refine codeAny_mono ((F _ inK (nsOf gN) tabs).run callerA [] s₁ H ⟨[.ref a], []⟩ [.ref a] [.ref a] _ _ rfl hr env0 (bd s₁ (.ref a)) (.cons rfl .nil) go) fun r s' done => ?_
  match r, done with
  | .error e, z => exact False.elim z
  | .ok .next, z => exact False.elim z
  | .ok .brk, z => exact False.elim z
  | .ok .cont, z => exact False.elim z
  | .ok (.ret u), ⟨v, H', os, bare, un, ok', r', q⟩ =>
    have q2 : v = .bl true := q
    subst q2
    have q3 : u = Value.bool true := r'
    subst q3
    have stays : ∀ b o, b ∉ cs.map (·.2) → s₁.heap.get? b = some o → s'.heap.get? b = some o := fun b o nb e => by
      rcases B.kind b with z | z | ⟨ob, xs, z⟩
      · exact un.keep b o e z (by intro z; exact absurd (show b ∈ ([] : List Addr) from z) (by simp)) (by simp)
      · exact absurd z nb
      · obtain ⟨e1, _⟩ := B.ok b _ z
        obtain ⟨e2, _⟩ := ok' b _ (un.frzs b ob _ z)
        rw [e] at e1
        cases e1
        exact e2
    have more : ∀ p ∈ cs, ∃ ys : Array Value, s'.heap.get? p.2 = some { cls := .none, data := .fields ys } := fun p hp => by
      obtain ⟨ys, z⟩ := un.tbls p.2 #[] (B.tbl p hp)
      exact ⟨_, ok' p.2 _ z⟩
    refine ⟨rfl, ⟨fun b o e => ?_, fun b o e => ?_⟩, os, bare⟩
    · by_cases hb : b ∈ cs.map (·.2)
      · obtain ⟨p, hp, rfl⟩ := List.mem_map.mp hb
        obtain ⟨ys, hm⟩ := more p hp
        rw [(ts p hp).get] at e
        cases e
        exact .inr (.inl ⟨((ts p hp).hd.tab (ts p hp).get).isCodeTable, rfl, #[], ys, rfl, by rw [Array.empty_append]; exact hm⟩)
      · exact .inl (stays b o hb e)
    · by_cases hb : b ∈ cs.map (·.2)
      · obtain ⟨p, hp, rfl⟩ := List.mem_map.mp hb
        obtain ⟨ys, hm⟩ := more p hp
        exact ⟨_, hm⟩
      · exact ⟨o, stays b o hb e⟩
/-- such a beginning is to be had -/
theorem begins (hK : K.In s₁.heap) (ts : ∀ p ∈ cs, TabF K s₁.heap p) (la : s₁.heap.get? a = some { cls := .type "list", data := .seq vs.toArray }) (hi : IntsAre vs ns) (hl : ns.length ≤ sizeLine) : ∃ H, Begin P w K cs a ns H s₁.heap := by
  have nt : a ∉ cs.map (·.2) := fun z => by
    have q := tab_get ts z
    rw [la] at q
    injection q with q
    injection q with _ _ q _
    cases q
  have rv := vals_ints hi
  let O : Option HO := if (K.lookup a).isSome = true then none else some (.frz { cls := .type "list", data := .seq vs.toArray } (.lst (ns.map V.int)))
  have atT : ∀ b, b ∈ cs.map (·.2) → (if b ∈ cs.map (·.2) then some (HO.tbl #[]) else if b = a then O else none) = some (HO.tbl #[]) := fun b h => if_pos h
  have atA : (if a ∈ cs.map (·.2) then some (HO.tbl #[]) else if a = a then O else none) = O := (if_neg nt).trans (if_pos rfl)
  have atN : ∀ b, b ∉ cs.map (·.2) → b ≠ a → (if b ∈ cs.map (·.2) then some (HO.tbl #[]) else if b = a then O else none) = none := fun b h1 h2 => (if_neg h1).trans (if_neg h2)
  refine ⟨fun b => if b ∈ cs.map (·.2) then some (.tbl #[]) else if b = a then O else none, fun p hp => atT _ (List.mem_map.mpr ⟨p, hp, rfl⟩), fun b => ?_, ?_, fun b u z => ?_, fun b z => ?_, fun z => ?_⟩
  · by_cases h1 : b ∈ cs.map (·.2)
    · exact .inr (.inl h1)
    · by_cases h2 : b = a
      · subst h2
        by_cases h3 : (K.lookup b).isSome = true
        · exact .inl (atA.trans (if_pos h3))
        · exact .inr (.inr ⟨_, _, atA.trans (if_neg h3)⟩)
      · exact .inl (atN b h1 h2)
  · cases h3 : K.lookup a with
    | none =>
      refine .inl (.inr ⟨_, atA.trans (if_neg ?_)⟩)
      rw [h3]
      exact Bool.noConfusion
    | some o =>
      have e := hK a o h3
      rw [la] at e
      cases e
      exact .inr ⟨_, vs.toArray, _, h3, rfl, rfl, rfl, by rw [List.size_toArray, hi.length]; exact hl, by simpa using rv⟩
  · by_cases h1 : b ∈ cs.map (·.2)
    · have z' := (atT b h1).symm.trans z
      cases z'
      exact tab_get ts h1
    · by_cases h2 : b = a
      · subst h2
        have z' := atA.symm.trans z
        by_cases h3 : (K.lookup b).isSome = true
        · have z2 := (if_pos h3).symm.trans z'
          cases z2
        · have z2 := (if_neg h3).symm.trans z'
          cases z2
          exact ⟨la, by rw [List.length_map]; exact hl, vs, _, rv, la⟩
      · have z' := (atN b h1 h2).symm.trans z
        cases z'
  · by_cases h1 : b ∈ cs.map (·.2)
    · exact .inr h1
    · by_cases h2 : b = a
      · exact .inl h2
      · exact absurd (atN b h1 h2) z
  · cases h3 : K.lookup a with
    | none => rfl
    | some o => exact absurd (atA.trans (if_pos (by rw [h3]; rfl))) z
end
/-- what is known of the law's promise at the head's heap h; TF: what the top says of the tables -/
def LawG (l : PySem.W.OpenLaw) (w : World) (K : PySem.W.Frag) (k n : Nat) (x : Str) (mg : Str → Option Value) (fa : Addr) (h : Heap) : Prop :=
  ∃ (fd : FuncData) (cs : List (Addr × Addr)) (sp : Sp), (∀ p ∈ cs, TabF K h p) ∧ (∀ (s : Shared) (u : Value), BindsTo s fd ⟨[u], []⟩ [(x, u)]) ∧
    (∀ (H : Hp) (a : Addr) (ns : List Int), ns.length ≤ n → (∀ z ∈ ns, Builtin.Int.intBits z ≤ 1048576) → (∀ p ∈ cs, H p.2 = some (.tbl #[])) → SqL K H a (ns.map V.int) → sp [.ref a] H (fun v _ => v = .bl true) fun _ _ _ => False) ∧
    ∀ base : Heap, K.In base → base.Ns mainGlobals mg → (∀ p ∈ cs, LamX.TabB base mg p.1 p.2) → FnG l.prog w K mg base CX0 k fa fd [x] sp
theorem walk_G {l : PySem.W.OpenLaw} {n k : Nat} {q : Program} {loose : List Str} {XP : (Str → Option Value) → Heap → Prop} {YP : World → Heap → Prop} {d : DefRec} {K : Params → PySem.W.Frag} {x : Str}
    (hn : l.most = some n) (hn2 : n ≤ sizeLine) (hdf : d.params.defaults = []) (hr : Room k callerA) (hY : ∀ (w : World) (h : Heap), YP w h → (K w.params).In h)
    (F : ∀ (w : World) (mg : Str → Option Value) (fa : Addr) (h : Heap), YP w h → (K w.params).In h → h.Ns mainGlobals mg → mg d.name = some (.ref fa) →
      (∀ (y : Str) (c T : Addr), ((recsOf q).any fun e => e.name == y) = true → PySem.W.tabIn (K w.params) y = some (c, T) → (K w.params).lookup T = none → TabF (K w.params) h (c, T)) → LawG l w (K w.params) k n x mg fa h) :
    PySem.W.WalkO q loose XP YP l.row.toRowW d [] (fun f vs => PySem.call f vs) := by
  refine Att.attach_callB hn hdf fun w s₀ s₁ mg mb fa o pm cd doc a vs ns G Y ho hd hcd hmg hobj hints hlen hbits hg => ?_
  have KX := hY w _ Y
  obtain ⟨fd, cs, sp, ts, hb, hsp, hF⟩ := F w mg fa _ Y KX G.T.g hmg fun y c T hrec hT hN => by
    obtain ⟨e, he⟩ := Option.isSome_iff_exists.mp (show ((recsOf q).find? fun e => e.name == y).isSome = true by rw [List.find?_isSome]; obtain ⟨e, h1, h2⟩ := List.any_eq_true.mp hrec; exact ⟨e, h1, h2⟩)
    obtain ⟨h1, h2⟩ := PySem.W.tab_of G.T KX he hT
    exact ⟨h2, hN, h1⟩
  obtain ⟨H, B⟩ := begins (P := l.prog) (w := w) KX ts hobj hints (Nat.le_trans hlen hn2)
  exact from_begin B KX G.T.g G.T.b G.T.builtins G.T.nolimit hg ts G.T.bmain hobj hr hF hb (hsp H a ns hlen hbits B.tbl B.seq)
end My
/-! What the top has written, by name. -/
namespace My
open PySem PySem.Spec PyProof.Rows L2
/-- the module has the def -/
structure Has (K : PySem.W.Frag) (mg : Str → Option Value) (x : Str) (st : Stmt) : Prop where
  ex : ∃ f fd, mg x = some (.ref f) ∧ Fun K x x st f fd
/-- a def that makes functions, its code object at c -/
structure HasC (K : PySem.W.Frag) (mg : Str → Option Value) (x : Str) (st : Stmt) (c : Addr) : Prop where
  ex : ∃ (f : Addr) (oc : Value) (od : Option Addr) (kV doc pm : Value) (an : Option Addr) (ct : Value) (osl : Array (Option Value)), mg x = some (.ref f) ∧
    K.lookup f = some ⟨oc, od, .func (PySem.W.fnOf x x (defArgs st) (defBody st) (defScope st) .none kV doc pm an (.ref c) ct), osl⟩ ∧ PySem.W.codeIn K (.ref c) x = true ∧ PySem.W.keepIn K (.ref f) = true
/-- the class has the method -/
structure HasM (K : PySem.W.Frag) (C : Addr) (m qual : Str) (st : Stmt) : Prop where
  ex : ∃ f fd, PySem.W.findIn K (.ref C) m = some (some (.ref f)) ∧ PySem.W.isFn K (.ref f) = true ∧ Fun K m qual st f fd
/-- the class has the method, with defaults -/
structure HasD (K : PySem.W.Frag) (C : Addr) (m qual : Str) (st : Stmt) (dvs : List V) (kws : List (Str × V)) : Prop where
  ex : ∃ f fd, PySem.W.findIn K (.ref C) m = some (some (.ref f)) ∧ PySem.W.isFn K (.ref f) = true ∧ FunD K m qual (defArgs st) (defBody st) (defScope st) dvs kws f fd
section
variable {P : Program} {w : World} {K : PySem.W.Frag} {mg : Str → Option Value} {base : Heap} {CX : CXT} {k : Nat} {x m qual : Str} {st : Stmt} {ps ks : List Str} {sp : Sp} {C c : Addr}
def BindW (x qual : Str) (st : Stmt) (ps : List Str) : Prop := ∀ (kV doc pm : Value) (an : Option Addr) (cdv ct : Value) (us : List Value), us.length = ps.length → bindArgs (PySem.W.fnOf x qual (defArgs st) (defBody st) (defScope st) .none kV doc pm an cdv ct) ⟨us, []⟩ = pure (ps.zip us)
theorem def_at (A : Has K mg x st) (ok : ∀ f fd, Fun K x x st f fd → FnOk P w K mg base CX k f fd ps sp) (b : BindW x x st ps) : DefAt P w K mg base CX k x ps sp := by
  obtain ⟨f, fd, h1, F⟩ := A.ex
  exact ⟨f, fd, ok f fd F, h1, F.kp, F.binds b⟩
theorem def_atG (A : Has K mg x st) (ok : ∀ f fd, Fun K x x st f fd → FnG P w K mg base CX k f fd ps sp) (b : BindW x x st ps) : DefG P w K mg base CX k x ps sp := by
  obtain ⟨f, fd, h1, F⟩ := A.ex
  exact ⟨f, fd, ok f fd F, h1, F.kp, F.binds b⟩
theorem meth_at (A : HasM K C m qual st) (ok : ∀ f fd, Fun K m qual st f fd → FnOk P w K mg base CX k f fd ps sp) (b : BindW m qual st ps) : MethAt P w K mg base CX k C m ps sp := by
  obtain ⟨f, fd, h1, h2, F⟩ := A.ex
  exact ⟨f, fd, ⟨h1, h2, F.kp⟩, ok f fd F, F.binds b⟩
theorem call_at (A : HasM K C "__call__" qual st) (ok : ∀ f fd, Fun K "__call__" qual st f fd → FnOk P w K mg base CX k f fd ps sp) (b : BindW "__call__" qual st ps) : CallAt P w K mg base CX k C ps sp := by
  obtain ⟨f, fd, h1, h2, F⟩ := A.ex
  obtain ⟨oc, od, kV, doc, pm, an, cdv, ct, osl, e, lk, _⟩ := F.ex
  refine ⟨f, fd, ⟨h1, h2, ?_⟩, ok f fd F, F.binds b⟩
  unfold PySem.W.fnIn
  rw [lk]
theorem cmp_at (A : HasM K C m qual st) (ok : ∀ f fd, Fun K m qual st f fd → FnOk P w K mg base CX k f fd ps sp) (b : BindW m qual st ps) : CmpAt P w K mg base CX k C m ps sp := by
  obtain ⟨f, fd, h1, h2, F⟩ := A.ex
  exact ⟨f, fd, h1, h2, ok f fd F, F.binds b⟩
/-- called with keywords alone -/
theorem methK_at {gV : List V → List V → List V} {g : List Value → List Value → List Value} (A : HasM K C m qual st) (ok : ∀ f fd, Fun K m qual st f fd → FnOk P w K mg base CX k f fd ps sp)
    (b : ∀ (kV doc pm : Value) (an : Option Addr) (cdv ct : Value) (us ws : List Value), us.length = 1 → ws.length = ks.length → bindArgs (PySem.W.fnOf m qual (defArgs st) (defBody st) (defScope st) .none kV doc pm an cdv ct) ⟨us, ks.zip ws⟩ = pure (ps.zip (g us ws)))
    (r : ∀ {vs : List V} {us : List Value} {zs : List V} {ws : List Value}, Vals vs us → Vals zs ws → Vals (gV vs zs) (g us ws)) : MethK P w K mg base CX k C m ps ks sp gV := by
  obtain ⟨f, fd, h1, h2, F⟩ := A.ex
  obtain ⟨oc, od, kV, doc, pm, an, cdv, ct, osl, rfl, lk, hcd⟩ := id F.ex
  exact ⟨f, _, g, ⟨h1, h2, F.kp⟩, ok f _ F, ⟨fun s us ws _ l1 l2 => .of_eq (b kV doc pm an cdv ct us ws l1 l2), r⟩⟩
/-- the class is made with all its arguments -/
theorem make_all {dvs : List V} (A : HasD K C "__init__" qual st dvs []) (hx : mg x = some (.ref C)) (mk : PySem.W.makesIn K C = true) (kp : PySem.W.keepIn K (.ref C) = true) (ok : ∀ f fd, FunD K "__init__" qual (defArgs st) (defBody st) (defScope st) dvs [] f fd → FnOk P w K mg base CX k f fd ps sp) (hd : dvs ≠ [])
    (b : ∀ (T : Addr) (kV doc pm : Value) (an : Option Addr) (cdv ct : Value) (us its : List Value), us.length = ps.length → its.length = dvs.length →
      ∃ k, bindArgs (PySem.W.fnOf "__init__" qual (defArgs st) (defBody st) (defScope st) (.ref T) kV doc pm an cdv ct) ⟨us, []⟩ = seqItems? (.ref T) >>= k ∧ k (some its.toArray) = pure (ps.zip (us ++ its.drop dvs.length))) : MakeAt P w K mg base CX k x C ps sp [] := by
  obtain ⟨f, fd, h1, h2, F⟩ := A.ex
  obtain ⟨ds, r, bs⟩ := F.binds1 ps.length dvs.length hd (by omega) b
  rw [List.drop_length] at r
  exact ⟨f, fd, ds, ⟨mk, h1, h2, kp⟩, ok f fd F, hx, bs, r⟩
end
end My
namespace My
open PySem PySem.Spec PyProof.Rows L2
theorem nm_part : Sup.Nm "part" := ⟨by decide, by decide, by decide, by decide, fun _ _ _ _ _ _ _ _ _ _ _ _ => rfl⟩
theorem nm_value : Sup.Nm "value" := ⟨by decide, by decide, by decide, by decide, fun _ _ _ _ _ _ _ _ _ _ _ _ => rfl⟩
theorem rev_rel {vs : List V} {us : List Value} {zs : List V} {ws : List Value} (h1 : Vals vs us) (h2 : Vals zs ws) : Vals (gRev vs zs) (us ++ ws.reverse) := h1.append h2.reverse
theorem all_mk {l : PySem.W.OpenLaw} {w : World} {K : PySem.W.Frag} {h : Heap} {mg : Str → Option Value} {fa CE CLine CBadLine fBadLine CBadRest fBadRest c1 t1 c2 t2 : Addr} {e1 e2 : Value} {dd1 dd2 : Option Addr} {vs1 vs2 : Array Value} {sx1 sx2 : Array (Option Value)} (hfa : mg "law" = some (.ref fa))
    (_gL : mg "Line" = some (.ref CLine)) (_gB : mg "BadLine" = some (.ref CBadLine)) (_gR : mg "BadRest" = some (.ref CBadRest)) (_gE : mg "ClipError" = some (.ref CE)) (_iB : PySem.W.findIn K (.ref CBadLine) "__init__" = some (some (.ref fBadLine))) (_iR : PySem.W.findIn K (.ref CBadRest) "__init__" = some (some (.ref fBadRest)))
    (T : LTx l.prog K mg CLine CBadLine fBadLine CBadRest fBadRest) (TH : HTx l.prog K mg CE CBadLine fBadLine CBadRest fBadRest) (mk : PySem.W.makesIn K CLine = true) (kp : PySem.W.keepIn K (.ref CLine) = true)
    (A_init : HasD K CLine "__init__" "Line.__init__" s_init [.int 0] []) (A_call : HasM K CLine "__call__" "Line.__call__" s_call) (A_rank : HasM K CLine "rank" "Line.rank" s_rank) (A_eq : HasM K CLine "__eq__" "Line.__eq__" s_eq) (A_half : HasM K CLine "half" "Line.half" s_half) (A_refined : HasM K CLine "refined" "Line.refined" s_refined)
    (A_isint : Has K mg "is_integer" s_isint) (A_need : Has K mg "need_rest" s_needrest) (A_pen : Has K mg "_law_pen" s_pen) (A_draw : Has K mg "_law_draw" s_draw) (A_pick : Has K mg "_law_pick" s_pick) (A_integer : Has K mg "_law_integer" s_integer) (A_heard : Has K mg "_law_heard" s_heard) (A_refinedR : Has K mg "_law_refined_right" s_refinedR) (A_law : Has K mg "law" s_law)
    (A_halfR : HasC K mg "_law_half_right" s_halfR c1) (A_refusedR : HasC K mg "_law_refused_right" s_refusedR c2) (_p1 : K.lookup c1 = some ⟨e1, dd1, .fields vs1, sx1⟩) (_q1 : vs1[11]? = some (.ref t1)) (_p2 : K.lookup c2 = some ⟨e2, dd2, .fields vs2, sx2⟩) (_q2 : vs2[11]? = some (.ref t2)) (T1 : TabF K h (c1, t1)) (T2 : TabF K h (c2, t2)) (nt : t1 ≠ t2) : LawG l w K 12 63 "_law_script" mg fa h := by
  obtain ⟨fl, fdl, hl, Fl⟩ := A_law.ex
  have e := hfa.symm.trans hl
  cases e
  obtain ⟨f1, oc1, od1, kV1, dc1, pm1, an1, ct1, sl1, m1, l1, d1, k1⟩ := A_halfR.ex
  obtain ⟨f2, oc2, od2, kV2, dc2, pm2, an2, ct2, sl2, m2, l2, d2, k2⟩ := A_refusedR.ex
  obtain ⟨fh, fdh, hh, Fh⟩ := A_heard.ex
  refine ⟨fdl, [(c1, t1), (c2, t2)], spLaw K [(t1, (("_law_half_right" : Str) ++ ".<locals>.") ++ "<lambda>"), (t2, (("_law_refused_right" : Str) ++ ".<locals>.") ++ "<lambda>")], fun p hp => ?_, fun s u => ?_, fun H a ns hn hb ht hs => ?_, fun base hK hN hT => ?_⟩
  · simp only [List.mem_cons, List.mem_nil_iff, or_false] at hp
    rcases hp with rfl | rfl
    · exact T1
    · exact T2
  · obtain ⟨oc, od, kV, doc, pm, an, cdv, ct, osl, rfl, _⟩ := Fl.ex
    exact .of_eq rfl
  · refine ⟨a, ns, rfl, hs, fun p hp => ?_, fun _ => rfl⟩
    simp only [List.mem_cons, List.mem_nil_iff, or_false] at hp
    rcases hp with rfl | rfl
    · exact LamX.TabS.nil (ht (c1, t1) (.head _))
    · exact LamX.TabS.nil (ht (c2, t2) (.tail _ (.head _)))
  · have TB1 := hT (c1, t1) (.head _)
    have TB2 := hT (c2, t2) (.tail _ (.head _))
    have D_isint : DefAt l.prog w K mg base CX0 1 "is_integer" ["thing"] spIsint := def_at A_isint (fun f fd F => ok_isint F T.toBI) fun _ _ _ _ _ _ us hl => match us, hl with | [_], _ => rfl
    have D_pen : DefAt l.prog w K mg base CX0 1 "_law_pen" ["_law_script"] (spPen K) := def_at A_pen (fun f fd F => ok_pen F T.toBI) fun _ _ _ _ _ _ us hl => match us, hl with | [_], _ => rfl
    have D_draw : DefAt l.prog w K mg base CX0 1 "_law_draw" ["_law_pen_here", "_law_many"] spDraw := def_at A_draw (fun f fd F => ok_draw F T.toBI) fun _ _ _ _ _ _ us hl => match us, hl with | [_, _], _ => rfl
    have D_pick : DefAt l.prog w K mg base CX0 2 "_law_pick" ["_law_pen_here", "_law_some"] spPick := def_at A_pick (fun f fd F => ok_pick F T.toBI D_draw) fun _ _ _ _ _ _ us hl => match us, hl with | [_, _], _ => rfl
    have D_integer : DefAt l.prog w K mg base CX0 3 "_law_integer" ["_law_pen_here"] spInteger := def_at A_integer (fun f fd F => ok_integer F T.toBI D_draw D_pick) fun _ _ _ _ _ _ us hl => match us, hl with | [_], _ => rfl
    have D_need : DefAt l.prog w K mg base (L2.CX l.prog w) 3 "need_rest" ["rest", "modulus"] (spNeed CBadRest) := def_at A_need (fun f fd F => ok_need F T D_isint) fun _ _ _ _ _ _ us hl => match us, hl with | [_, _], _ => rfl
    have M_Line : MakeAt l.prog w K mg base (L2.CX l.prog w) 3 "Line" CLine ["self", "slope", "more"] (spInit CLine CBadLine) [] := make_all A_init T.gLine mk kp (fun f fd F => ok_init F T D_isint) (by simp) fun _ _ _ _ _ _ _ us its hl hi => match us, hl, its, hi with | [_, _, _], _, [_], _ => ⟨_, rfl, rfl⟩
    have X_rank : MethAt l.prog w K mg base CX0 1 CLine "rank" ["self"] (spRank CLine) := meth_at A_rank (fun f fd F => ok_rank F T) fun _ _ _ _ _ _ us hl => match us, hl with | [_], _ => rfl
    have CE_eq : CmpAt l.prog w K mg base CX0 2 CLine "__eq__" ["self", "other"] (spEq CLine) := cmp_at A_eq (fun f fd F => ok_eq F T X_rank) fun _ _ _ _ _ _ us hl => match us, hl with | [_, _], _ => rfl
    have C_Line : CallAt l.prog w K mg base (L2.CX l.prog w) 3 CLine ["self", "m"] (spCall CLine CBadLine) := call_at A_call (fun f fd F => ok_call F T D_isint) fun _ _ _ _ _ _ us hl => match us, hl with | [_, _], _ => rfl
    have X_half : MethAt l.prog w K mg base (L2.CX l.prog w) 5 CLine "half" ["self"] (spHalf CLine CBadLine) := meth_at A_half (fun f fd F => ok_half F T M_Line) fun _ _ _ _ _ _ us hl => match us, hl with | [_], _ => rfl
    have X_refined : MethAt l.prog w K mg base (L2.CX l.prog w) 5 CLine "refined" ["self", "times", "rest"] (spRef CLine CBadLine CBadRest) := meth_at A_refined (fun f fd F => ok_refined F T D_isint D_need M_Line) fun _ _ _ _ _ _ us hl => match us, hl with | [_, _, _], _ => rfl
    have XK_refined : MethK l.prog w K mg base (L2.CX l.prog w) 5 CLine "refined" ["self", "times", "rest"] ["rest", "times"] (spRef CLine CBadLine CBadRest) gRev := methK_at A_refined (fun f fd F => ok_refined F T D_isint D_need M_Line) (fun _ _ _ _ _ _ us ws h1 h2 => match us, h1, ws, h2 with | [_], _, [_, _], _ => rfl) rev_rel
    have DH : HeardAt K mg := ⟨⟨fh, fdh, Fh, hh, Fh.binds fun _ _ _ _ _ _ us hl => match us, hl with | [_], _ => rfl⟩⟩
    have D_refinedR : DefAt l.prog w K mg base CX0 7 "_law_refined_right" ["_law_pen_here", "_law_line", "_law_rise", "_law_base"] (spRefinedR CLine) := def_at A_refinedR (fun f fd F => ok_refinedR F T D_draw D_pick X_refined XK_refined C_Line CE_eq) fun _ _ _ _ _ _ us hl => match us, hl with | [_, _, _, _], _ => rfl
    have D_halfR : DefG l.prog w K mg base CX0 10 "_law_half_right" ["_law_pen_here", "_law_line", "_law_rise", "_law_base"] (spHalfR CLine [(t1, (("_law_half_right" : Str) ++ ".<locals>.") ++ "<lambda>"), (t2, (("_law_refused_right" : Str) ++ ".<locals>.") ++ "<lambda>")]) := ⟨f1, _, ok_halfR ⟨⟨oc1, od1, kV1, dc1, pm1, an1, ct1, sl1, rfl, l1, d1⟩, k1⟩ T TH DH TB1 (.head _) (fun p hp e => by
      simp only [List.mem_cons, List.mem_nil_iff, or_false] at hp
      rcases hp with rfl | rfl
      · rfl
      · exact absurd e.symm nt) D_draw X_half C_Line, m1, k1, .all fun us hl => match us, hl with | [_, _, _, _], _ => rfl⟩
    have D_refusedR : DefG l.prog w K mg base CX0 10 "_law_refused_right" ["_law_pen_here", "_law_line"] (spRefusedR CLine [(t1, (("_law_half_right" : Str) ++ ".<locals>.") ++ "<lambda>"), (t2, (("_law_refused_right" : Str) ++ ".<locals>.") ++ "<lambda>")]) := ⟨f2, _, ok_refusedR ⟨⟨oc2, od2, kV2, dc2, pm2, an2, ct2, sl2, rfl, l2, d2⟩, k2⟩ T TH DH TB2 (.tail _ (.head _)) (fun p hp e => by
      simp only [List.mem_cons, List.mem_nil_iff, or_false] at hp
      rcases hp with rfl | rfl
      · exact absurd e nt
      · rfl) D_draw D_pick X_refined, m2, k2, .all fun us hl => match us, hl with | [_, _], _ => rfl⟩
    exact ok_law Fl T D_pen D_draw D_integer M_Line D_halfR D_refinedR D_refusedR
end My
open PySem PySem.W PyProof.Rows
set_option maxRecDepth 100000 in
set_option maxHeartbeats 0 in
theorem PySem.Challenge.cw_clipfades_k17_lines_halved_and_refined_holds : PySem.Challenge.rw_clipfades_k17_lines_halved_and_refined.Holds := by
  w_on; o_law; k_head; (case hw => w_witness2)
  k_fill
  refine My.walk_G (l := PySem.Challenge.rw_clipfades_k17_lines_halved_and_refined) (n := 63) (k := 12) (x := "_law_script") rfl (by decide) rfl ⟨rfl, by decide, by decide⟩ (fun w h Y => by first | exact PySem.W.km_in_of Y | exact PySem.W.kIn_of Y) ?F
  case F =>
    intro w mg fa h Y KX G hmg tf
    have bi : My.BI mg := ⟨mg_none_of KX G (by k_is), mg_none_of KX G (by k_is), mg_none_of KX G (by k_is), mg_none_of KX G (by k_is), mg_none_of KX G (by k_is), mg_none_of KX G (by k_is), mg_none_of KX G (by k_is), mg_none_of KX G (by k_is)⟩
    refine' My.all_mk hmg ?gL ?gB ?gR ?gE ?iB ?iR ?T ?TH ?mk ?kp ?A_init ?A_call ?A_rank ?A_eq ?A_half ?A_refined ?A_isint ?A_need ?A_pen ?A_draw ?A_pick ?A_integer ?A_heard ?A_refinedR ?A_law ?A_halfR ?A_refusedR ?p1 ?q1 ?p2 ?q2 ?T1 ?T2 ?nt
    (case gL => exact mg_of KX G (by k_is)); (case gB => exact mg_of KX G (by k_is)); (case gR => exact mg_of KX G (by k_is)); (case gE => exact mg_of KX G (by k_is)); (case iB => k_is); (case iR => k_is)
    case T => exact ⟨bi, ⟨by k_is, by k_is, by k_is, by k_is⟩, show PySem.W.findIn _ (.ref _) "slope" = some none by k_is, show PySem.W.findIn _ (.ref _) "more" = some none by k_is, mg_of KX G (by k_is), by k_is, by k_is, by k_is, by k_is, by kernel_rfl,
      ⟨mg_of KX G (by k_is), ⟨⟨_, _, _, _, _, _, _, _, _, _, _, _, _, _, _, by k_is, by decide⟩, by k_is, by k_is, by k_is, by k_is⟩, ⟨by k_is, by k_is, by k_is, by k_is⟩, by k_is, My.nm_part, by k_is, by k_is,
      ⟨_, _, _, _, _, _, _, _, _, _, _, _, _, _, _, _, _, _, _, _, _, _, by k_is, by k_is, ⟨_, _, _, by k_is⟩, _, _, _, _, _, _, by k_is, rfl, by decide +kernel, rfl⟩, by ks_is, by k_is, by k_is, mg_none_of KX G (by k_is), by k_is, by decide +kernel⟩,
      ⟨mg_of KX G (by k_is), ⟨⟨_, _, _, _, _, _, _, _, _, _, _, _, _, _, _, by k_is, by decide⟩, by k_is, by k_is, by k_is, by k_is⟩, ⟨by k_is, by k_is, by k_is, by k_is⟩, by k_is, My.nm_value, by k_is, by k_is,
      ⟨_, _, _, _, _, _, _, _, _, _, _, _, _, _, _, _, _, _, _, _, _, _, by k_is, by k_is, ⟨_, _, _, by k_is⟩, _, _, _, _, _, _, by k_is, rfl, by decide +kernel, rfl⟩, by ks_is, by k_is, by k_is, mg_none_of KX G (by k_is), by k_is, by decide +kernel⟩⟩
    case TH => exact ⟨bi, mg_of KX G (by k_is),
      ⟨mg_of KX G (by k_is), ⟨⟨_, _, _, _, _, _, _, _, _, _, _, _, _, _, _, by k_is, by decide⟩, by k_is, by k_is, by k_is, by k_is⟩, ⟨by k_is, by k_is, by k_is, by k_is⟩, by k_is, My.nm_part, by k_is, by k_is,
      ⟨_, _, _, _, _, _, _, _, _, _, _, _, _, _, _, _, _, _, _, _, _, _, by k_is, by k_is, ⟨_, _, _, by k_is⟩, _, _, _, _, _, _, by k_is, rfl, by decide +kernel, rfl⟩, by ks_is, by k_is, by k_is, mg_none_of KX G (by k_is), by k_is, by decide +kernel⟩,
      ⟨mg_of KX G (by k_is), ⟨⟨_, _, _, _, _, _, _, _, _, _, _, _, _, _, _, by k_is, by decide⟩, by k_is, by k_is, by k_is, by k_is⟩, ⟨by k_is, by k_is, by k_is, by k_is⟩, by k_is, My.nm_value, by k_is, by k_is,
      ⟨_, _, _, _, _, _, _, _, _, _, _, _, _, _, _, _, _, _, _, _, _, _, by k_is, by k_is, ⟨_, _, _, by k_is⟩, _, _, _, _, _, _, by k_is, rfl, by decide +kernel, rfl⟩, by ks_is, by k_is, by k_is, mg_none_of KX G (by k_is), by k_is, by decide +kernel⟩, by kernel_rfl, by kernel_rfl, ⟨by kernel_rfl, by k_is, by k_is, by k_is, by k_is, by k_is, by k_is, by k_is⟩, ⟨by kernel_rfl, by k_is, by k_is, by k_is, by k_is, by k_is, by k_is, by k_is⟩, by kernel_rfl, by kernel_rfl, by kernel_rfl⟩
    (case mk => k_is); (case kp => k_is)
    case A_init => exact ⟨_, _, by k_is, by k_is, ⟨_, _, _, _, _, _, _, _, _, _, rfl, by k_is, by k_is, .inr ⟨by simp, _, _, [.int 0 _], _, rfl, by k_is, rfl, .cons ⟨_, rfl⟩ .nil⟩, .inl rfl⟩, by k_is⟩
    case A_call => exact ⟨_, _, by k_is, by k_is, L2.fun_mk (by k_is) (by k_is) (by k_is)⟩
    case A_rank => exact ⟨_, _, by k_is, by k_is, L2.fun_mk (by k_is) (by k_is) (by k_is)⟩
    case A_eq => exact ⟨_, _, by k_is, by k_is, L2.fun_mk (by k_is) (by k_is) (by k_is)⟩
    case A_half => exact ⟨_, _, by k_is, by k_is, L2.fun_mk (by k_is) (by k_is) (by k_is)⟩
    case A_refined => exact ⟨_, _, by k_is, by k_is, L2.fun_mk (by k_is) (by k_is) (by k_is)⟩
    case A_isint => exact ⟨_, _, mg_of KX G (by k_is), L2.fun_mk (by k_is) (by k_is) (by k_is)⟩
    case A_need => exact ⟨_, _, mg_of KX G (by k_is), L2.fun_mk (by k_is) (by k_is) (by k_is)⟩
    case A_pen => exact ⟨_, _, mg_of KX G (by k_is), L2.fun_mk (by k_is) (by k_is) (by k_is)⟩
    case A_draw => exact ⟨_, _, mg_of KX G (by k_is), L2.fun_mk (by k_is) (by k_is) (by k_is)⟩
    case A_pick => exact ⟨_, _, mg_of KX G (by k_is), L2.fun_mk (by k_is) (by k_is) (by k_is)⟩
    case A_integer => exact ⟨_, _, mg_of KX G (by k_is), L2.fun_mk (by k_is) (by k_is) (by k_is)⟩
    case A_heard => exact ⟨_, _, mg_of KX G (by k_is), L2.fun_mk (by k_is) (by k_is) (by k_is)⟩
    case A_refinedR => exact ⟨_, _, mg_of KX G (by k_is), L2.fun_mk (by k_is) (by k_is) (by k_is)⟩
    case A_law => exact ⟨_, _, mg_of KX G (by k_is), L2.fun_mk (by k_is) (by k_is) (by k_is)⟩
    case A_halfR => exact ⟨_, _, _, _, _, _, _, _, _, mg_of KX G (by k_is), by k_is, by k_is, by k_is⟩
    case A_refusedR => exact ⟨_, _, _, _, _, _, _, _, _, mg_of KX G (by k_is), by k_is, by k_is, by k_is⟩
    (case p1 => k_is); (case q1 => rfl); (case p2 => k_is); (case q2 => rfl)
    case T1 => exact tf "_law_half_right" _ _ (by decide +kernel) (by kernel_rfl) (by kernel_rfl)
    case T2 => exact tf "_law_refused_right" _ _ (by decide +kernel) (by kernel_rfl) (by kernel_rfl)
    case nt => decide
