import PyProof.Rows.All
import Wide.All
import OpenK.AllK
import Wide.FinOn
import HandS.ForMost
import HandS.ForExc
import HandS.ExcInit
import HandS.ExcField
import HandS.Lambda
import HandS.IsInst
import KE.KExcIs
import PyProof.Rows.NestShow
import KE.KExcSuper
import HandS.Wide
import HandS.Star
import HandS.Defaults
import HandS.EndTab
import PyProof.ListMulRight
import KE.KOpsOwn
import KE.KCallOwn
import KE.KFmtOwn
import PyProof.InstNe
import HandS.ClsMeth
import HandS.TupLe
import HandS.MakeKwOnly
import HandS.MakeKw
import HandS.Small
import HandS.Style
import HandS.TupAny
import KE.GoesEnum
import KE.GoesMore
import KE.KTupTruth
import KE.KStateDown
import KE.KNestM
import HandS.Head0
import HandS.Head1
import HandS.Head2
import HandS.HeadHook1
import HandS.HeadHook2
import HandS.HeadHook4
import HandS.Property
import HandS.Codes
import HandS.FStr
import HandS.RaiseMore
import HandS.Dict
import HandS.Comp
import PyProof.ReprLen
import HandS.OwnEq
import KE.DataEq
import PySem.Challenge.RW_clipfades_k48_runs_and_points_made
set_option Elab.async false
set_option linter.all false
set_option maxRecDepth 100000
set_option maxHeartbeats 4000000
/-! Rules of our own over the hand layer: defs whose guards are told (for repr), repr of data, an error kept behind its except suite. -/
namespace My
open PySem PySem.Spec PyProof.Rows L2
/-! ### a def that is run where no repr is under way -/
structure FnG (P : Program) (w : World) (K : PySem.W.Frag) (mg : Str → Option Value) (base : Heap) (CX : CXT) (k : Nat) (f : Addr) (fd : FuncData) (ps : List Str) (sp : Sp) : Prop where
  len : ∀ vs H Q E, sp vs H Q E → vs.length = ps.length
  run : ∀ (A : Around) (outer : List Env) (s : Shared) (H : Hp) (args : Args) (us : List Value) (vs : List V) (Q : VK) (E : XK), A.guards = some [] → Room k A → Env0 P w K mg base A outer s H → BindsTo s fd args (ps.zip us) → Vals vs us → sp vs H Q E →
    codeAny (model P w) A (.call (.ref f) args) (CR CX outer P w H s Q E) s
section
variable {P : Program} {w : World} {K : PySem.W.Frag} {mg : Str → Option Value} {base : Heap}
theorem okG {x qual : Str} {st : Stmt} {f : Addr} {fd : FuncData} {N ps : List Str} {k : Nat} {sp : Sp} (F : Fun K x qual st f fd) (S : FnScope N ps (defScope st)) (len : ∀ vs H Q E, sp vs H Q E → vs.length = ps.length)
    (hbody : ∀ (cdv : Value) (A : Around) (outer : List Env) (s : Shared) (H : Hp) (vs : List V) (Q : VK) (E : XK), K.lookup f ≠ none → A.guards = some [] → Room k (A.deeper (envOfC qual (defScope st) s.heap.objs.size f cdv)) → sp vs H Q E →
      ∃ t, PSs (cxOf CX0 P w K mg base N qual (defScope st) f cdv A outer s H E).nox (defBody st) t ∧ t { nx := fun _ H' => Q .non H', rt := Q } (start N vs) H) : FnG P w K mg base CX0 (k + 1) f fd ps sp := by
  obtain ⟨oc, od, kV, doc, pm, an, cdv, ct, osl, rfl, lk, hcd⟩ := F.ex
  refine ⟨len, fun A outer s H args us vs Q E hg hr e0 hb r hsp => LamX.run_ofS lk hcd S hr e0 hb r (len _ _ _ _ hsp) fun hr' => ?_⟩
  obtain ⟨t, h, q⟩ := hbody cdv A outer s H vs Q E (by rw [lk]; exact fun z => nomatch z) hg hr' hsp
  exact ⟨t, h.nox, q⟩
end
section
variable {X : Cx} {CX : CXT} {k : Nat} {f : Addr} {fd : FuncData} {ps : List Str} {sp : Sp} {E : XK} {x : Str} {e : Expr} {es : List Expr} {t : TA} {p pos : Pos} {ds : List Value} {dvs : List V}
/-- x(e, ..) -/
theorem pe_callG (F : FnG X.prog X.w X.K X.mg X.base CX k f fd ps sp) (hgd : X.A.guards = some []) (hr : Room k X.A) (hg : Gl X x) (hm : X.mg x = some (.ref f)) (hk : PySem.W.keepIn X.K (.ref f) = true) (hb : Binds X.K fd ps []) (hx : Passes CX X E)
    (ha : PA X (e :: es) t) (hdb : (x == ("__debug__" : Str)) = false := by decide) (hs : starEach (e :: es) X.env = (false, eval e X.env) :: starEach es X.env := by rfl) (hpl : (backTo pos (starEach es X.env)).any (·.1) = false := by rfl) :
    PE X (.Call (.Name x p) (e :: es) [] pos) (tCall sp [] E t) := by
  refine ⟨fun pins s σ H Q I h => ?_⟩
  refine wpAny_Call_Name_kw (ld_glob I hg hm ?_ hdb)
  refine PySem.W.callWith_K (h₀ := X.base) I.ok.mod.kin hk (thn (ha.run pos pins s σ H _ I h) fun us s1 ⟨vs, H1, I1, r, q⟩ => ⟨I1.kIn, ?_⟩) hs hpl
  have q' : sp vs H1 Q E := by
    have z : sp (vs ++ []) H1 Q E := q
    rw [List.append_nil] at z
    exact z
  have hl : us.length = ps.length := by rw [← r.length]; exact F.len _ _ _ _ q'
  have hb' : BindsTo s1 fd ⟨us, []⟩ (ps.zip us) := by
    have z := hb s1 us I1.kIn (by rw [List.append_nil]; exact hl)
    rw [List.append_nil] at z
    exact z
  refine wpAny_call (codeAny_mono (F.run X.A X.stack s1 H1 ⟨us, []⟩ us vs Q E hgd hr I1.env0 hb' r q') fun res s2 hq => ?_)
  cases res with
  | error er => exact hx pins σ H1 s1 er s2 I1 hq
  | ok fl =>
    cases fl with
    | ret u => exact I1.after hq
    | next => exact False.elim hq
    | brk => exact False.elim hq
    | cont => exact False.elim hq
end
/-! ### repr of data -/
theorem sqt_same {K : PySem.W.Frag} {H H' : Hp} {a : Addr} {xs : List V} (e : Same H H') (h : SqT K H a xs) : SqT K H' a xs := by
  rcases h with (h | ⟨o, h⟩) | h
  · exact .inl (.inl (e _ _ h))
  · exact .inl (.inr ⟨o, e _ _ h⟩)
  · exact .inr h
/-- data that repr shows: as for ==, and the empty dict -/
def Dr (K : PySem.W.Frag) (H : Hp) (v : V) (d : PyData) : Prop := Dp K H v d ∨ (∃ a, v = .ref a ∧ d = .dict [] ∧ H a = some (.dK []))
mutual
theorem dp_same {K : PySem.W.Frag} {H H' : Hp} (k : Same H H') : ∀ (d : PyData) (v : V), Dp K H v d → Dp K H' v d
  | _, _, .non => .non
  | _, _, .bl b => .bl b
  | _, _, .int i => .int i
  | _, _, .str x => .str x
  | .list ds, _, .lst h ha => .lst (k.seq h) (dp_sameAll k ds _ ha)
  | .tuple ds, _, .tup h ha => .tup (sqt_same k h) (dp_sameAll k ds _ ha)
theorem dp_sameAll {K : PySem.W.Frag} {H H' : Hp} (k : Same H H') : ∀ (ds : List PyData) (vs : List V), DpAll K H vs ds → DpAll K H' vs ds
  | [], _, .nil => .nil
  | d :: ds, _, .cons h1 h2 => .cons (dp_same k d _ h1) (dp_sameAll k ds _ h2)
end
theorem dr_same {K : PySem.W.Frag} {H H' : Hp} {v : V} {d : PyData} (k : Same H H') (h : Dr K H v d) : Dr K H' v d := by
  rcases h with h | ⟨a, e1, e2, e3⟩
  · exact .inl (dp_same k d v h)
  · exact .inr ⟨a, e1, e2, k _ _ e3⟩
def rRepr (K : PySem.W.Frag) : List V → Hp → VK → Prop := fun xs H Q => ∃ (v : V) (d : PyData), xs = [v] ∧ Dr K H v d ∧ d.showable = true ∧ d.depth ≤ 60 ∧ d.shown.length ≤ sizeLine ∧ Q (.str d.shown) H
mutual
theorem noDict {K : PySem.W.Frag} {H : Hp} : ∀ (d : PyData) (v : V), Dp K H v d → d.hasDict = false
  | .none, _, _ => rfl
  | .bool _, _, _ => rfl
  | .int _, _, _ => rfl
  | .str _, _, _ => rfl
  | .list ds, _, h => by
    cases h with
    | lst _ ha => exact noDictAll ds _ ha
  | .tuple ds, _, h => by
    cases h with
    | tup _ ha => exact noDictAll ds _ ha
  | .dict _, _, h => by cases h
theorem noDictAll {K : PySem.W.Frag} {H : Hp} : ∀ (ds : List PyData) (vs : List V), DpAll K H vs ds → PyData.hasDictAll ds = false
  | [], _, _ => rfl
  | d :: ds, _, h => by
    cases h with
    | cons h1 h2 =>
      show (d.hasDict || PyData.hasDictAll ds) = false
      rw [noDict d _ h1, noDictAll ds _ h2]
      rfl
end
section
variable {X : Cx} {k : Nat}
theorem call_repr (hgd : X.A.guards = some []) (hr : Room k X.A) : CallR X (.builtin "repr") (rRepr X.K) := by
  intro pins s σ H xs us Q I r h
  obtain ⟨v, d, rfl, hd, hs, hdp, hz, q⟩ := h
  obtain ⟨u, rfl, r1⟩ := vals1 r
  have hu : X.A.units + (d.depth + 1) < cLine := by
    have := hr.units
    omega
  have fin : ∀ (h' : Heap) (t : Tok) (tk : Nat), (∀ b o, s.heap.get? b = some o → h'.get? b = some o) → EP X pins σ Q (.str d.shown t) { s with heap := h', toks := tk } :=
    fun h' t tk hk => ⟨.str d.shown, H, I.kept (t' := tk) hk, ⟨t, rfl⟩, q⟩
  rcases hd with hd | ⟨a, rfl, rfl, ha⟩
  · have hn := noDict d v hd
    obtain ⟨as, rd⟩ := Dp.reads I d v u hd r1
    cases hd with
    | non => cases (show u = Value.none from r1); exact PySem.P.repr_of_none (fin s.heap _ _ fun _ _ e => e)
    | bl b => cases (show u = Value.bool b from r1); exact PySem.P.repr_of_bool (fin s.heap _ _ fun _ _ e => e)
    | int i =>
      obtain ⟨t, e⟩ := (show ∃ t, u = Value.int i t from r1)
      cases e
      exact PySem.P.repr_of_int (of_decide_eq_true hs) (fin s.heap _ _ fun _ _ e => e)
    | str z =>
      obtain ⟨t, e⟩ := (show ∃ t, u = Value.str z t from r1)
      cases e
      exact PySem.P.repr_of_str (fin s.heap _ _ fun _ _ e => e) hz
    | @lst a xs ds _ _ =>
      cases (show u = Value.ref a from r1)
      exact repr_of_reads' rd hs (PyData.noDict_hsm hn) hgd hu (fun _ _ e => e) (fun h' t tk hk => fin h' t tk hk) hz
    | @tup a xs ds _ _ =>
      cases (show u = Value.ref a from r1)
      exact repr_of_reads' rd hs (PyData.noDict_hsm hn) hgd hu (fun _ _ e => e) (fun h' t tk hk => fin h' t tk hk) hz
  · cases (show u = Value.ref a from r1)
    obtain ⟨_, hne, vs, kv, o, es, ep, e1, e2, e3, e4⟩ := (show ObjOk X.prog X.w H s.heap a (.dK []) from I.hok a _ ha)
    cases kv
    have hes : es.toList = [] := by
      obtain ⟨_, pr, _⟩ := e4
      revert pr
      generalize es.toList = l
      intro pr
      cases pr
      rfl
    have rd : Reads s.heap (.ref a) (.dict []) (a :: [] ++ []) := .dict e1 e2.1 e3 (by rw [hes]; exact .nil) (by rw [hes]; exact .nil)
    exact repr_of_reads' rd hs (fun _ hm => by simp at hm; simp [hm] at hne) hgd hu (fun _ _ e => e) (fun h' t tk hk => fin h' t tk hk) hz
end
/-! ### an error that stands behind its except suite -/
/-- at a: an error of the class cls, its own dict at d -/
def ExA (cls : Value) (d : Option Addr) (a : Addr) : HO := .ext fun h => ∃ (oe : Obj) (vs : Array Value), h.get? a = some oe ∧ Zc cls d oe ∧ oe.data = .fields vs
theorem exA_ok {P : Program} {w : World} {H : Hp} {h : Heap} {a : Addr} {cls : Value} {d : Option Addr} {oe : Obj} {vs : Array Value} (e : h.get? a = some oe) (z : Zc cls d oe) (hd : oe.data = .fields vs) : ObjOk P w H h a (ExA cls d a) :=
  ⟨⟨oe, vs, e, z, hd⟩, ⟨oe, e⟩, fun _ _ ⟨o, v, q, r⟩ k => ⟨o, v, k o q, r⟩⟩
section
variable {X : Cx} {pins : List (Addr × Obj)} {σ : L2.St} {H : Hp} {s : Shared}
/-- an object of the heap that was not there at the entry, tracked from now on -/
theorem track {a : Addr} {o : HO} (I : Inv X pins σ H s) (h0 : X.s_0.heap.get? a = none) (na : H a = none) (nL : a ≠ X.env.locals) (nC : ∀ x c, X.env.cells.lookup x = some c → c ≠ a) (nP : ∀ p ∈ X.pn ++ pins, p.1 ≠ a)
    (new : ObjOk X.prog X.w (upd H a o) s.heap a o) : Inv X pins σ (upd H a o) s := by
  have ne0 : ∀ b ob, X.s_0.heap.get? b = some ob → b ≠ a := fun b ob e z => by rw [z, h0] at e; cases e
  refine ⟨I.ok, I.os, I.bare, ⟨I.base.keep, I.base.slot, fun b ob e n hx => ?_, I.base.there, fun b xs e => ?_, fun b ob u e => ?_, fun b ps e => ?_⟩, I.loc, I.cell, ?_, fun x c e => ?_, fun p hp => ?_, fun b u e => ?_, I.len⟩
  · rw [upd_ne (ne0 b ob e)]
    exact I.base.free b ob e n hx
  · have z := I.base.tups b xs e
    rw [upd_ne (ne_of_none z na)]
    exact z
  · have z := I.base.frzs b ob u e
    rw [upd_ne (ne_of_none z na)]
    exact z
  · obtain ⟨m, z⟩ := I.base.tbls b ps e
    exact ⟨m, by rw [upd_ne (ne_of_none z na)]; exact z⟩
  · rw [upd_ne (Ne.symm nL)]
    exact I.free
  · rw [upd_ne (nC x c e)]
    exact I.freeC x c e
  · obtain ⟨e, n, r⟩ := I.pin p hp
    exact ⟨e, by rw [upd_ne (nP p hp)]; exact n, r⟩
  · by_cases hb : b = a
    · subst hb
      rw [upd_same] at e
      cases e
      exact new
    · rw [upd_ne hb] at e
      exact (I.hok b u e).stay (fun _ _ _ q => q) (fun c q => by rw [upd_ne (ne_of_none q na)]; exact q) fun c xs q => by rw [upd_ne (ne_of_none q na)]; exact q
end
/-- the wish of «except c as n: y = n»: slot i is n's, slot j is y's -/
def wKeep (K : PySem.W.Frag) (c : Value) (i j n : Nat) (Wout : WX) (D : Ends) : WX := fun cls d σ H =>
  ∃ b, PySem.W.exmOne K cls c = some b ∧ (b = true → ∀ a, H a = none → σ.length = n → D.nx (((σ.set i (some (.ref a))).set j (some (.ref a))).set i none) (upd H a (ExA cls d a))) ∧ (b = false → Wout cls d σ H)
section
variable {X : Cx} {x n y : Str} {c : Value} {i j : Nat} {body : List Stmt} {np p1 p2 p3 pos pos' : Pos} {tb : WX → TS} {Wout : WX}
theorem ps_try_keep (hs : X.stack = X.env :: X.outer) (hf : X.env.frame = some X.env.locals) (hN : X.N.Nodup) (hi : X.N[i]? = some n) (hln : X.env.kindOf n = some .local) (hj : X.N[j]? = some y) (hly : X.env.kindOf y = some .local) (hex : X.ex = []) (hc : Names X x c) (tk : Takes X Wout)
    (hb : ∀ (W : WX) (pn : List (Addr × Obj)) (xe : Value → Shared → Prop), Takes (X.tr pn xe) W → PassesOwn (model X.prog X.w) X.A X.env xe → PSs (X.tr pn xe) body (tb W)) (hd1 : (n == ("__debug__" : Str)) = false := by decide) (hd2 : (n == ("__classdict__" : Str)) = false := by decide) :
    PS X (.Try body [.ExceptHandler (some (.Name x np)) (some n) [.Assign [.Name y p1] (.Name n p2) p3] pos'] [] [] pos) (fun D σ H => tb (wKeep X.K c i j X.N.length Wout D) D σ H) := by
  refine ⟨fun pins s σ H D I h => ?_⟩
  have ok := I.ok
  have hfr : X.A.frames = some (X.env :: X.outer) := by rw [ok.frames, hs]
  refine wpAny_Try_except ?_
  refine wpAny_mono ((hb (wKeep X.K c i j X.N.length Wout D) (X.pn ++ pins) (fun e t1 => wpAny (model X.prog X.w) X.A (noteFrame e X.env) (fun _ t2 => wpAny (model X.prog X.w) X.A (setFlight e none) (fun _ t3 =>
    wpAny (model X.prog X.w) X.A (handleBy e X.env [.ExceptHandler (some (.Name x np)) (some n) [.Assign [.Name y p1] (.Name n p2) p3] pos']) (SP X pins D) X.xe t3) X.xe t2) X.xe t1) (fun u s' xx => ?_) PassesOwn.looking).run [] s σ H D (I.toTry _) h) (fun fl t1 hsp => ?_) (fun _ _ he => he)
  · obtain ⟨a, B, sI, pins', σ1, H1, cls, d, rfl, J0, nb, up, sky, na, os, ag, b, hb1, hyes, hno⟩ := xx
    have J : Inv X pins σ1 H1 sI := J0.ofTry ok
    have sky' : Sky B (X.env :: X.outer) a (Zc cls d) X.env.locals s'.heap := by rw [← hs]; exact sky
    show wpAny (model X.prog X.w) X.A (noteFrame (.ref a) X.env) _ _ _
    refine Sky.land Zc.steady hfr hf sky' fun h3 fl3 up3 => ?_
    have J3 : Inv X pins σ1 H1 { s' with heap := h3 } := J.landed nb fl3.1 (up.trans up3) os ag
    obtain ⟨oe3, vs3, he3, hz3, hd3⟩ := fl3.there
    have nfr : a ∉ frs (X.env :: X.outer) := fun hm => by
      obtain ⟨_, o', e', hnf⟩ := fl3.2.2.1.mem hm
      rw [he3] at e'
      cases e'
      exact hnf _ hd3
    have nL : a ≠ X.env.locals := fun z => nfr (List.mem_filterMap.mpr ⟨X.env, List.mem_cons_self, by rw [hf, z]⟩)
    have nF : a ∉ X.fs := fun hm => by
      obtain ⟨e1, he1, q1⟩ := List.mem_filterMap.mp hm
      exact nfr (List.mem_filterMap.mpr ⟨e1, List.mem_cons_of_mem _ he1, q1⟩)
    -- the error was not there at the entry, and is no pin
    have Ba : B.get? a = none := fl3.2.1
    have sIa : sI.heap.get? a = none := by
      cases z : sI.heap.get? a with
      | none => rfl
      | some o =>
        have y := nb a o z (by rw [hs]; exact nfr)
        rw [Ba] at y
        cases y
    have s0a : X.s_0.heap.get? a = none := by
      cases z : X.s_0.heap.get? a with
      | none => rfl
      | some o =>
        obtain ⟨o', y⟩ := J.base.there a o z (by rw [hex]; exact fun w => nomatch w)
        rw [sIa] at y
        cases y
    have nPin : ∀ p ∈ X.pn ++ pins, p.1 ≠ a := fun p hp z => by
      have y := (J.pin p hp).1
      rw [z, sIa] at y
      cases y
    have S3 := J3.suite he3 hd3 na nL nF
    refine wpAny_handleBy_cons (codeAny_handlers_test ?_) (by intro q; cases q)
    have LT : PySem.W.Looks (model X.prog X.w) h3 (typeOf (.ref a)) cls := fun A Q E s k q => wpAny_typeOf_ref (k _ _ he3) (by rw [hz3.1]; exact q)
    have LM := PySem.W.exm_one (M := model X.prog X.w) (J3.kIn) LT hb1
    have test : ∀ {Q : Value → Shared → Prop} {E : Value → Shared → Prop}, Q c { s' with heap := h3 } → wpAny (model X.prog X.w) (X.A.mark (some (.ref a))) (eval (.Name x np) X.env) Q E { s' with heap := h3 } := fun {Q E} q => by
      obtain ⟨hg, hdbg, hm | ⟨hm, hv, hnn⟩⟩ := hc
      · exact ld_glob (X := X.suite a ((a, oe3) :: (X.pn ++ pins))) S3 hg hm q hdbg
      · exact ld_blt (X := X.suite a ((a, oe3) :: (X.pn ++ pins))) S3 hg hm hv q hnn hdbg
    refine test (LM.here ?_)
    cases b with
    | true =>
      refine codeAny_handlers_suite_as ?_
      refine HandSPX.lands_againZ fl3 fun h4 fl4 up4 => ?_
      have J4 : Inv X pins σ1 H1 { s' with heap := h4 } := J.landed nb fl4.1 ((up.trans up3).trans up4) os ag
      obtain ⟨oe4, vs4, he4, hz4, hd4⟩ := fl4.there
      have S4 := J4.suite he4 hd4 na nL nF
      refine store_ok (X := X.suite a ((a, oe4) :: (X.pn ++ pins))) (v := .ref a) S4 hN hi (.inl hln) rfl (fun s5 S5 => ?_) (.inr hln)
      have suite : PSs (X.suite a ((a, oe4) :: (X.pn ++ pins))) [.Assign [.Name y p1] (.Name n p2) p3] (tAsg (tVar i) (gName j)) :=
        pss_one (ps_asg (pe_var (i := i) hi (.inl hln) hd1 hd2) (pg_name (i := j) hN hj (.inl hly) (hf := .inr hly)))
      have hlen : i < σ1.length := by
        rw [J.len]
        exact (List.getElem?_eq_some_iff.mp hi).1
      refine wpAny_mono (suite.run [] s5 _ H1 { nx := fun σ' H' => σ' = (σ1.set i (some (.ref a))).set j (some (.ref a)) ∧ H' = H1, rt := fun _ _ => False } S5 ⟨.ref a, by rw [List.getElem?_set_self hlen], rfl, rfl⟩) (fun fl s6 hsp => ?_) (fun _ _ z => False.elim z)
      cases fl with
      | next =>
        obtain ⟨σ6, H6, S6, eσ, eH⟩ := hsp
        subst eσ
        subst eH
        refine gone_ok (X := X.suite a ((a, oe4) :: (X.pn ++ pins))) S6 hN hi hln fun s7 S7 => ?_
        have ha7 : s7.heap.get? a = some oe4 := (S7.pin (a, oe4) (List.mem_append_left _ List.mem_cons_self)).1
        have J7 := S7.unsuite ok
        have nC : ∀ (x : Str) (c : Addr), X.env.cells.lookup x = some c → c ≠ a := fun x c e z => by
          obtain ⟨v, o, ho, hdc⟩ := J7.cell x c e
          rw [z, ha7] at ho
          cases ho
          rw [hd4] at hdc
          cases hdc
        exact ⟨_, _, track J7 s0a na nL nC nPin (exA_ok ha7 hz4 hd4), hyes rfl a na J.len⟩
      | brk => obtain ⟨_, _, _, z⟩ := hsp; exact z.elim
      | cont => obtain ⟨_, _, _, z⟩ := hsp; exact z.elim
      | ret u => obtain ⟨_, _, _, _, _, z⟩ := hsp; exact z.elim
    | false =>
      show wpAny _ X.A (handleBy (.ref a) X.env []) _ _ _
      refine wpAny_handleBy_nil ?_
      obtain ⟨w1, w2, w3, oe, vs, T, oT, ts', he, hz, hdd, h1, hr⟩ := id fl3
      unfold PySem.passOn
      refine wpAny_bind (wpAny_field he hdd h1 ?_)
      rw [if_neg (show ¬ ((Value.ref T == Value.none) = true) from by simp)]
      have fin : wpAny (model X.prog X.w) X.A (setFlight (.ref a) X.env.frame) (fun _ s4 => wpAny (model X.prog X.w) X.A (throw (.ref a) : Sem Flow) (SP X pins D) X.xe s4) X.xe { s' with heap := h3 } := by
        rw [hf]
        refine HandSPX.setFlight_upZ fl3 fun h4 hh4 up4 => wpAny_throw (tk _ _ ?_)
        exact ⟨a, B, sI, pins, σ1, H1, cls, d, rfl, J, nb, (up.trans up3).trans up4, .inr (.inr (by rw [hs]; exact hh4)), na, os, ag, hno rfl⟩
      first
        | exact wpAny_bind (wpAny_pure (wpAny_bind fin))
        | exact wpAny_bind fin
  · cases fl with
    | next =>
      obtain ⟨σ', H', J', q⟩ := hsp
      exact wpAny_execs_nil ⟨σ', H', J'.ofTry ok, q⟩
    | brk =>
      obtain ⟨σ', H', J', q⟩ := hsp
      exact ⟨σ', H', J'.ofTry ok, q⟩
    | cont =>
      obtain ⟨σ', H', J', q⟩ := hsp
      exact ⟨σ', H', J'.ofTry ok, q⟩
    | ret u =>
      obtain ⟨v, σ', H', J', r, q⟩ := hsp
      exact ⟨v, σ', H', J'.ofTry ok, r, q⟩
end
/-! ### isinstance and fields of such an error -/
structure ExcK (K : PySem.W.Frag) (C : Addr) : Prop where
  cl : (PySem.W.clsIn K C).isSome = true
  ga : PySem.W.findIn K (.ref C) "__getattribute__" = some (some (.builtin "BaseException.__getattribute__"))
  gg : PySem.W.findIn K (.ref C) "__getattr__" = some none
  sb : PySem.W.subIn K (.ref C) (.type "BaseException") = some true
  ha : PySem.W.findIn K (.ref C) "__class__" = some (some (.builtin "object.__class__"))
  hn : PySem.W.specialIn K (.builtin "object.__class__") "__get__" = some (some (.builtin "getset_descriptor.__get__"))
  ht : PySem.W.takesIn K (.builtin "object.__class__") = some true
  hm : PySem.W.mroIn K C (.type "object") = some true
/-- isinstance(e, D) -/
def rIsA (K : PySem.W.Frag) : List V → Hp → VK → Prop := fun xs H Q => ∃ (a C d : Addr) (fs : List (Str × V)) (c : V) (cv : Value) (b : Bool), xs = [.ref a, c] ∧ ClsV c cv ∧ ExcK K C ∧ H a = some (ExA (.ref C) (some d) a) ∧ H d = some (.xd fs) ∧ PySem.W.kitOne K (.ref C) cv = some b ∧ Q (.bl b) H
section
variable {X : Cx} {pins : List (Addr × Obj)} {σ : L2.St} {H : Hp} {s : Shared}
theorem exA_at {a C d : Addr} {fs : List (Str × V)} (I : Inv X pins σ H s) (ha : H a = some (ExA (.ref C) (some d) a)) (hd : H d = some (.xd fs)) :
    ∃ (oe od : Obj) (mA : Str → Option Value), PySem.W.InstAt s.heap a oe C (some od) ∧ (∀ name, PySem.W.lookIn name od = some (mA name)) ∧ ∀ f, RelO (fs.lookup f) (mA f) := by
  obtain ⟨⟨oe, vs, ho, hz, hdat⟩, _, _⟩ := I.hok a _ ha
  obtain ⟨mA, hns, hr⟩ := (show ObjOk X.prog X.w H s.heap d (.xd fs) from I.hok d _ hd)
  obtain ⟨od, hod, hl⟩ := lookIn_ns hns
  exact ⟨oe, od, mA, ⟨ho, hz.1, by unfold PySem.W.notCls; rw [hdat] <;> rfl, by rw [hz.2]; exact hod⟩, hl, hr⟩
theorem call_isA : CallR X (.builtin "isinstance") (rIsA X.K) := by
  intro pins s σ H xs us Q I r h
  obtain ⟨a, C, d, fs, c, cv, b, rfl, k, T, ha, hd, e, q⟩ := h
  obtain ⟨u1, u2, rfl, r1, r2⟩ := vals2 r
  cases (show u1 = Value.ref a from r1)
  have e2 := k.eq r2
  subst e2
  obtain ⟨oe, od, mA, J, _, _⟩ := exA_at I ha hd
  exact PySem.W.kia_one (PySem.W.kitx_exc T.cl T.ga T.gg T.sb T.ha T.hn T.ht T.hm) I.kIn J e (fun z => nomatch z) fun t => ⟨.bl b, H, I.tok t, rfl, q⟩
/-- e.f -/
def tXa (K : PySem.W.Frag) (f : Str) (te : TE) : TE := fun σ H Q => te σ H fun x H1 => ∃ (a C d : Addr) (fs : List (Str × V)) (v : V), x = .ref a ∧ H1 a = some (ExA (.ref C) (some d) a) ∧ H1 d = some (.xd fs) ∧ XfC K C ∧ PySem.W.findIn K (.ref C) f = some none ∧ fs.lookup f = some v ∧ Q v H1
theorem pe_xa {e : Expr} {te : TE} {n : Str} {pos : Pos} (he : PE X e te) (hb : attributeBase e n X.env (eval e X.env) = eval e X.env := by rfl) : PE X (.Attribute e n pos) (tXa X.K n te) := by
  refine ⟨fun pins s σ H Q I h => ?_⟩
  refine attr_of hb (thn (he.run pins s σ H _ I h) fun u s1 hh => ?_)
  obtain ⟨x, H1, I1, rx, a, C, d, fs, v, ex, ha, hd, T, hno, l, q⟩ := hh
  subst ex
  obtain rfl : u = Value.ref a := rx
  obtain ⟨oe, od, mA, J, hl, hr⟩ := exA_at I1 ha hd
  obtain ⟨u, hu, ru⟩ := RelO.some_of (v := v) (o := mA n) (by rw [← l]; exact hr n)
  exact HandSPX.exc_get I1.kIn J T.ga T.gg T.exC (PySem.W.findObj_own T.hdC hno rfl (by rw [hl, hu])) (handed_of ru) ⟨v, H1, I1.tok _, ru, q⟩
end
end My
/-! An own error class E(Base(ValueError)) whose __init__ says super().__init__(f) and self.f = f. -/
namespace Sup
open PySem PySem.W PySem.Calls PyProof.Rows PySem.HandSPX
def a1 (f : Str) (p1 p2 : Pos) : Arguments :=
  { posonlyargs := [], args := [{ arg := "self", annotation := none, pos := p1 }, { arg := f, annotation := none, pos := p2 }], vararg := none, kwonlyargs := [], kw_defaults := [], kwarg := none, defaults := [] }
def b1 (f : Str) (q1 q2 q3 q4 q5 q6 r1 r2 r3 r4 : Pos) : List Stmt :=
  [.Expr (.Call (.Attribute (.Call (.Name "super" q1) [] [] q2) "__init__" q3) [.Name f q4] [] q5) q6, .Assign [.Attribute (.Name "self" r1) f r2] (.Name f r3) r4]
def s1 (f : Str) : Scope :=
  { kind := .function, names := [(PySem.Str.ofString "self", .local), (f, .local), (PySem.Str.ofString "__class__", .free), (PySem.Str.ofString "super", .globalImplicit)], isGenerator := false, isCoroutine := false, more := [] }
/-- the field's name is no other name of the text -/
structure Nm (f : Str) : Prop where
  n1 : (f == ("self" : Str)) = false
  n2 : (("__class__" : Str) == f) = false
  n3 : (("super" : Str) == f) = false
  n4 : (f == ("__debug__" : Str)) = false
  bd : ∀ (qual : Str) (body : List Stmt) (doc pm : Value) (an : Option Addr) (cdv ct : Value) (cc : Addr) (p1 p2 : Pos) (a b : Value),
    bindArgs (ksFn "__init__" qual (a1 f p1 p2) body (s1 f) .none .none doc pm an cdv ct cc) ⟨[a, b], []⟩ = pure [(("self" : Str), a), (f, b)]
/-- what the top has written of the class x, at C, and of its __init__, at fI -/
structure Err1 (prog : Program) (K : Frag) (mg : Str → Option Value) (x f : Str) (C fI : Addr) : Prop where
  gC : mg x = some (.ref C)
  ox : L2.OexC K C
  rd : L2.XfC K C
  nf : findIn K (.ref C) f = some none
  nm : Nm f
  iC : findIn K (.ref C) "__init__" = some (some (.ref fI))
  tI : typeIn K (.ref fI) = some (.type "function")
  fn : ∃ (qual : Str) (oc : Value) (od : Option Addr) (doc pm : Value) (an : Option Addr) (cda : Addr) (ct : Value) (cc : Addr) (osl : Array (Option Value)) (p1 p2 q1 q2 q3 q4 q5 q6 r1 r2 r3 r4 : Pos),
    K.lookup fI = some ⟨oc, od, .func (ksFn "__init__" qual (a1 f p1 p2) (b1 f q1 q2 q3 q4 q5 q6 r1 r2 r3 r4) (s1 f) .none .none doc pm an (.ref cda) ct cc), osl⟩ ∧ codeIn K (.ref cda) qual = true ∧
    (∃ cl cld csl, K.lookup cc = some ⟨cl, cld, .cell (some (.ref C)), csl⟩) ∧ ∃ ccl cdd vs ccs file tf, K.lookup cda = some ⟨ccl, cdd, .fields vs, ccs⟩ ∧ vs[2]? = some (.str file tf) ∧ ((prog.main.file : Str) == file) = true ∧ (q3.endLine == q5.line) = true
  su : ks_superIn K C C "__init__" = some (some (.builtin "ValueError.__init__"))
  sV : subIn K (.ref C) (.type "ValueError") = some true
  sC : mroIn K C (.ref C) = some true
  gS : mg "super" = none
  oq : nsIn K cStatics "thirdparty.any" = some none
  top : (prog.main.scope.names.lookup ("super" : Str)).isSome = false
/-- what __init__ leaves of a fresh exception at x -/
structure End1 (h h' : Heap) (f : Str) (x C dx t1 : Addr) (v : Value) : Prop where
  keep : ∀ b o, b ≠ x → h.get? b = some o → h'.get? b = some o
  obj : h'.get? x = some { cls := .ref C, dict := some dx, data := .fields #[.ref t1, .none, .none, .none, .bool false, .none] }
  dbig : h.objs.size ≤ dx
  dne : dx ≠ x
  ns : h'.Ns1 dx (fun y => if y = f then some v else none)
theorem lk2 {f : Str} (N : Nm f) : (s1 f).names.lookup f = some .local := by
  simp only [s1, List.lookup, N.n1, beq_self_eq_true]
theorem lk3 {f : Str} (N : Nm f) : (s1 f).names.lookup ("__class__" : Str) = some .free := by
  have e : (("__class__" : Str) == ("self" : Str)) = false := by decide +kernel
  have e2 : (("__class__" : Str) == ("__class__" : Str)) = true := by decide +kernel
  simp only [s1, List.lookup, N.n2, e, e2]
theorem lk4 {f : Str} (N : Nm f) : (s1 f).names.lookup ("super" : Str) = some .globalImplicit := by
  have e : (("super" : Str) == ("self" : Str)) = false := by decide +kernel
  have e2 : (("super" : Str) == ("__class__" : Str)) = false := by decide +kernel
  have e3 : (("super" : Str) == ("super" : Str)) = true := by decide +kernel
  simp only [s1, List.lookup, N.n3, e, e2, e3]
theorem meth_eq {o : Expr} {name f : Str} {q3 q4 q5 : Pos} {env : Env} (hp : (q3.endLine == q5.line) = true) :
    eval (.Call (.Attribute o name q3) [.Name f q4] [] q5) env = (do
      let ov ← attributeBase o name env (eval o env)
      standAt q3.atName
      let (g, first) ← holding [ov] (getMethod ov name (do return (← importBound o env).getD true))
      callWith q5 g first (backTo q5 (starEach [.Name f q4] env)) []) := by
  rw [arm_eval_Call]
  have hf : methodCallForm ([Expr.Name f q4].length + ([] : List Keyword).length) (backTo q5 (starEach [.Name f q4] env)) (backToKw q5 (keywordEach [] env)) = true := rfl
  have e : ∀ ov, methodCall o name q3 q5 env ov ([Expr.Name f q4].length + ([] : List Keyword).length) (backTo q5 (starEach [.Name f q4] env)) (backToKw q5 (keywordEach [] env)) = (do
      let (g, first) ← holding [ov] (getMethod ov name (do return (← importBound o env).getD true))
      callWith q5 g first (backTo q5 (starEach [.Name f q4] env)) []) := fun ov => by
    unfold methodCall
    rw [hf]
    unfold calleeOf methodCallPos
    simp only [hp, Bool.not_true, Bool.false_or, if_true]
    rfl
  simp only [e]
section
variable {prog : Program} {w : World} {A : Around} {E : Value → Shared → Prop} {R : Result → Shared → Prop} {s : Shared} {K : Frag} {mg : Str → Option Value} {x f : Str} {C fI : Addr}
/-- the bound ValueError.__init__ called -/
theorem call_mw {h : Heap} {g : Array GenState} {d : Drawn} {t : Nat} {os : OsState} {u e t0 : Addr} {rest : List Value} {Q : Value → Shared → Prop} {nm q : Str} {N : Addr} {bs bm : List Value} {hdct : Bool} {sn : List Str} {sub : List Value} {ab : Bool} {col : Option Bool} {dd : Option Addr} {k0 k1 k2 k3 k5 : Option Value}
    (hC : h.get? C = some (excClassObj nm q C N bs bm hdct sn sub ab col dd k0 k1 k2 k3 k5 "ValueError.__new__")) (he : h.get? e = some (excO C t0)) (hu : h.get? u = some (kxs_mw "ValueError.__init__" e)) (hz : rest.length ≤ sizeLine)
    (hq : ∀ h' t1, (∀ b o, b ≠ e → h.get? b = some o → h'.get? b = some o) → h'.get? e = some (excO C t1) → Q .none ⟨h', g, d, t, os⟩) :
    wpAny (model prog w) A (call (.ref u) rest) Q E ⟨h, g, d, t, os⟩ := by
  refine wpAny_call (codeAny_of_tree ?_)
  show wpAny _ A.in1 (callAny (.ref u) ⟨rest, []⟩) _ _ _
  simp only [callAny]
  refine wpAny_bind (wpAny_load hu ?_)
  simp only [kxs_mw, show (Value.type "method-wrapper" == Value.type "method" || Value.type "method-wrapper" == Value.type "builtin_function_or_method" || Value.type "method-wrapper" == Value.type "method-wrapper") = true by decide, if_true]
  refine KFB.if_so (by decide) ?_
  refine wpAny_bind (check_bound_init F.excBase_ValueError.toExcCallFacts hC he rfl ?_)
  refine wpAny_bind (wpAny_pure (wpAny_pure ?_))
  refine ⟨plainId_quiet F.excBase_ValueError.init.plain _, codeAny_builtin F.excBase_ValueError.initEntry ?_⟩
  exact exc_init_tree (cls := .ref C) (t0 := t0) (dv := none) (c2 := .none) (c3 := .none) (b4 := .bool false) he hz fun h' k e' _ => hq h' _ k e'
theorem init1 (T : Err1 prog K mg x f C fI) {e t0 : Addr} {v : Value} (X : K.In s.heap) (hlim : s.heap.NoLimit) (hg : s.heap.Ns mainGlobals mg) (hb : ∃ mb, s.heap.Ns builtinsNs mb ∧ ∀ x : Str, x ≠ "__name__" → mb x = bootBuiltins x)
    (he : s.heap.get? e = some (excO C t0)) (hnx : K.lookup e = none) (hroom : A.depth < recursionLimit)
    (hq : ∀ h' tk dx t1, End1 s.heap h' f e C dx t1 v → R (.ok (.ret .none)) { s with heap := h', toks := tk }) :
    codeAny (model prog w) A (.call (.ref fI) ⟨[.ref e, v], []⟩) R s := by
  obtain ⟨qual, oc, od, doc, pm, an, cda, ct, cc, osl, p1, p2, q1, q2, q3, q4, q5, q6, r1, r2, r3, r4, ho, hcd, ⟨cl, cld, csl, hcell⟩, ccl, cdd, vs, ccs, file, tf, hcode, hvs, hfile, hqq⟩ := T.fn
  obtain ⟨nm, q, N, bs, bm, sn, sub, ab, col, dd, k0, k1, k2, k3, k5, hC, hbm⟩ := T.ox.cls
  obtain ⟨mb, hb1, hb2⟩ := hb
  have hcl : clsIn K C = some { name := nm, bases := bs, mro := .ref C :: bm, ns := N, qualname := q, hasDict := true, slotNames := sn, subclasses := sub, abstract := ab, collection := col, hasDel := false } := by unfold clsIn; rw [hC] <;> rfl
  have hloc : ∀ y ∈ [(("self" : Str), Value.ref e), (f, v)], (s1 f).names.lookup y.1 = some .local := fun y hy => by
    rcases List.mem_cons.mp hy with z | z
    · rw [z]; rfl
    · rw [List.mem_singleton.mp z]; exact lk2 T.nm
  have hsu : alongIn K "__init__" ((((Value.ref C :: bm) : List Value).dropWhile (· != .ref C)).drop 1) = some (some (.builtin "ValueError.__init__")) := by
    have z := T.su
    unfold ks_superIn at z
    rw [hcl] at z
    exact z
  refine ks_codeAny_call_defAt (fd := ksFn "__init__" qual (a1 f p1 p2) (b1 f q1 q2 q3 q4 q5 q6 r1 r2 r3 r4) (s1 f) .none .none doc pm an (.ref cda) ct cc) (binds := [("self", .ref e), (f, v)]) hroom (X _ _ ho) rfl hlim (codeRec_of X hcd) rfl (BindsTo.of_eq (T.nm.bd _ _ _ _ _ _ _ _ _ _ _ _))
    (by intro y hy; simp only [s1, List.mem_cons, List.mem_nil_iff, or_false] at hy; rcases hy with z | z | z | z <;> rw [z] <;> exact (fun w => nomatch w)) hloc (fun h1 hns kp => ?_)
  have X1 : K.In h1 := X.keeps kp
  have he1 := kp _ _ he
  have hC1 := X1 _ _ hC
  have hx0 : e ≠ C := fun z => by
    have y := X _ _ hC
    rw [← z, he] at y
    cases y
  have mself : ([(("self" : Str), Value.ref e), (f, v)].reverse.lookup ("self" : Str)) = some (.ref e) := by
    have e1 : (("self" : Str) == f) = false := by
      have z := T.nm.n1
      rw [Bool.eq_false_iff] at z ⊢
      intro y
      exact z (by rw [beq_iff_eq] at y ⊢; exact y.symm)
    simp only [List.reverse_cons, List.reverse_nil, List.nil_append, List.cons_append, List.lookup, e1, beq_self_eq_true]
  have mf : ([(("self" : Str), Value.ref e), (f, v)].reverse.lookup f) = some v := by
    simp only [List.reverse_cons, List.reverse_nil, List.nil_append, List.cons_append, List.lookup, beq_self_eq_true]
  show _root_.PySem.wpAt _ _ _ (execs (b1 f q1 q2 q3 q4 q5 q6 r1 r2 r3 r4) _) _ _ _
  unfold b1
  refine ks_wpAt_execs_cons (ks_wpAt_Expr_any (ks_wpAt_MethodCall (ks_wpAt_super_base (lk4 T.nm) (lk3 T.nm) (by decide +kernel) rfl (X1 _ _ ho) rfl rfl rfl (X1 _ _ hcode) rfl hvs hfile T.top ?_) (meth_eq hqq)))
  refine ks_loadName_global rfl (lk4 T.nm) (loadGlobal_builtin (hg.keeps kp) T.gS (hb1.keeps kp) ((hb2 _ (by decide +kernel)).trans (by decide +kernel : bootBuiltins "super" = some (.type "super"))) ⟨rfl, ?_⟩)
  refine wpAny_loadName_free rfl (lk3 T.nm) rfl ⟨_, X1 _ _ hcell, rfl⟩ ?_
  refine wpAny_loadName_local rfl rfl hns mself ?_
  refine ks_wpAny_isType_cls hC1 rfl ⟨rfl, ?_⟩
  refine ks_wpAny_call_super hC1 rfl he1 rfl (fun c z => nomatch z) (looks_mroIn X1 T.sC) (fun h2 hso k2 => ?_)
  have X2 : K.In h2 := X1.keeps k2
  have he2 := k2 _ _ he1
  have I2 : InstAt h2 e (excO C t0) C none := ⟨he2, rfl, rfl, trivial⟩
  refine kxs_getMethod kxs_ValueError hso (looks_opaque X2 T.oq) (l₀ := .ref C :: bm) (fun A Q E s k q => wpAny_bind ((looks_clsIn X2 hcl) A _ E s k (wpAny_pure q))) rfl X2 hsu (I2.type.andThen (looks_subIn X2 T.sV)) hx0 (by decide +kernel) ?_
  refine kxs_callWith (i := "ValueError.__init__") (x := e) rfl ?_
  have hns2 := hns.keeps k2
  refine evalArgs_plain (Calls.spliced_cons (ldc rfl (lk2 T.nm) (hns2.keeps fun b o z => Heap.get?_push_of_some _ z) mf (Calls.spliced_nil ⟨Heap.get?_push_size _ rfl, ?_⟩) T.nm.n4))
  have k3 : ∀ b o, h2.get? b = some o → (h2.push (kxs_mw "ValueError.__init__" e)).get? b = some o := fun b o z => Heap.get?_push_of_some _ z
  show wpAny _ _ (call (.ref h2.objs.size) [v]) _ _ _
  refine call_mw (X2.keeps k3 _ _ hC) (k3 _ _ he2) (Heap.get?_push_size _ rfl) (by rw [sizeLine_eq]; exact (by decide : 1 ≤ 16777216)) fun h4 t1 k4 he4 => ?_
  have kall : ∀ b o, b ≠ e → s.heap.get? b = some o → h4.get? b = some o := fun b o hb z => k4 b o hb (k3 b o (k2 b o (kp b o z)))
  have X4 : K.In h4 := fun a o z => kall a o (fun y => by rw [y, hnx] at z; cases z) (X a o z)
  have hL : s.heap.objs.size ≠ e := Nat.ne_of_gt (Heap.lt_size he)
  have hns4 : h4.Ns s.heap.objs.size (fun y => [(("self" : Str), Value.ref e), (f, v)].reverse.lookup y) := by
    obtain ⟨oL, es, ep, hoL, r⟩ := hns2
    exact ⟨oL, es, ep, k4 _ _ hL (k3 _ _ hoL), r⟩
  show _root_.PySem.wpAt _ _ _ (execs [.Assign [.Attribute (.Name "self" r1) f r2] (.Name f r3) r4] _) _ _ _
  refine wpAt_of_wpAny (wpAny_execs_cons (plainObj_wpAny_Assign_Attribute (ldc rfl (lk2 T.nm) hns4 mf (ldc rfl rfl hns4 mself ?_) T.nm.n4)))
  refine set_plain X4 (ox := excO C t1) (od := none) ⟨he4, rfl, rfl, trivial⟩ T.ox.sa ?_
  refine exc_osa X4 he4 hcl (show refsVE (.ref C :: bm) = true from hbm) rfl T.nf (fun h5 tk5 dx k5 dn dne hx5 hn5 => ?_)
  have z1 : s.heap.objs.size ≤ h1.objs.size := Nat.le_of_lt hns.lt
  refine wpAny_execs_nil (hq h5 tk5 dx t1 ⟨fun b o hb z => k5 b o hb (kall b o hb z), hx5, ?_, dne, hn5⟩)
  have z2 := hns4.lt
  exact Nat.le_trans (Nat.le_of_lt z2) dn
/-- a made error -/
structure Made1 (h h' : Heap) (f : Str) (e C d : Addr) (v : Value) : Prop where
  keep : ∀ b o, h.get? b = some o → h'.get? b = some o
  new : h.objs.size ≤ e
  obj : ∃ oe vs, h'.get? e = some oe ∧ oe.cls = .ref C ∧ oe.dict = some d ∧ oe.data = .fields vs ∧ vs[1]? = some .none
  dbig : h.objs.size ≤ d
  dne : d ≠ e
  ns : h'.Ns1 d (fun y => if y = f then some v else none)
theorem made1 (T : Err1 prog K mg x f C fI) {v : Value} (X : K.In s.heap) (hlim : s.heap.NoLimit) (hg : s.heap.Ns mainGlobals mg) (hb : ∃ mb, s.heap.Ns builtinsNs mb ∧ ∀ x : Str, x ≠ "__name__" → mb x = bootBuiltins x) (hroom : A.depth + 1 < recursionLimit)
    (hq : ∀ h' tk e d, Made1 s.heap h' f e C d v → R (.ok (.ret (.ref e))) { s with heap := h', toks := tk }) :
    codeAny (model prog w) A (.call (.ref C) ⟨[v], []⟩) R s := by
  obtain ⟨nm, q, N, bs, bm, sn, sub, ab, col, dd, k0, k1, k2, k3, k5, hC, hbm⟩ := T.ox.cls
  obtain ⟨hp, g, dr, tk, os⟩ := s
  have kp : ∀ b o, hp.get? b = some o → ((hp.push (kdv_tup [v])).push (excO C hp.objs.size)).get? b = some o := fun b o z => Heap.get?_push_of_some _ (Heap.get?_push_of_some _ z)
  have hget : ((hp.push (kdv_tup [v])).push (excO C hp.objs.size)).get? (hp.objs.size + 1) = some (excO C hp.objs.size) := by heap_get
  have hnx : K.lookup (hp.objs.size + 1) = none := by
    cases z : K.lookup (hp.objs.size + 1) with
    | none => rfl
    | some o => exact absurd (Nat.lt_of_succ_lt (Heap.lt_size (X _ _ z))) (Nat.lt_irrefl _)
  refine call_own F.excBase_ValueError (fun Y => refsVE_contains Y bm hbm) (X _ _ hC) (looks_findIn X T.iC) (fun self => bind_fn X self T.tI) (by rw [sizeLine_eq]; exact (by decide : 1 ≤ 16777216)) ?_
  obtain ⟨mb, hb1, hb2⟩ := hb
  refine init1 (s := ⟨(hp.push (kdv_tup [v])).push (excO C hp.objs.size), g, dr, tk, os⟩) T (X.keeps kp) (hlim.keeps kp) (hg.keeps kp) ⟨mb, hb1.keeps kp, hb2⟩ hget hnx ?_ fun h' tk' dx t1 ⟨k', hx, dn, dne, hns⟩ => ?_
  · show A.depth + 1 < recursionLimit
    exact hroom
  · have old : ∀ b o, hp.get? b = some o → h'.get? b = some o := fun b o z => k' b o (Nat.ne_of_lt (Nat.lt_succ_of_lt (Heap.lt_size z))) (kp b o z)
    have z : hp.objs.size + 1 + 1 ≤ dx := by
      have y := dn
      first
        | (rw [Heap.size_push, Heap.size_push] at y; exact y)
        | exact y
    exact ⟨rfl, hq h' tk' (hp.objs.size + 1) dx ⟨old, Nat.le_succ _, ⟨_, _, hx, rfl, rfl, rfl, rfl⟩, Nat.le_trans (Nat.le_trans (Nat.le_succ _) (Nat.le_succ _)) z, dne, hns⟩⟩
end
end Sup
namespace L2
open PySem PySem.Spec PyProof.Rows
theorem relO_one {v : V} {v' : Value} {f : Str} (r : RelV v v') (g : Str) : RelO (List.lookup g [(f, v)]) (if g = f then some v' else none) := by
  by_cases hw : g = f
  · rw [if_pos hw, hw]
    have z : List.lookup f [(f, v)] = some v := by simp [List.lookup]
    rw [z]
    exact r
  · rw [if_neg hw]
    have y : (g == f) = false := by simpa using hw
    have z : List.lookup g [(f, v)] = none := by simp [List.lookup, y]
    rw [z]
    trivial
section
variable {X : Cx} {C fI : Addr} {x f : Str}
/-- E(e) -/
def tMk1 (C : Addr) (f : Str) (ta : TA) : St → Hp → XK → Prop := fun σ H Q => ta σ H fun vs H1 => ∃ v, vs = [v] ∧ ∀ d, H1 d = none → Q (.ref C) (some d) (upd H1 d (.xd [(f, v)]))
theorem pmk_1 {a : Expr} {ta : TA} {p pos : Pos} {k : Nat} (T : Sup.Err1 X.prog X.K X.mg x f C fI) (hr : Room k X.A) (ha : PA X [a] ta) (hg : Gl X x := by rfl) (hdb : (x == ("__debug__" : Str)) = false := by decide)
    (hs : starEach (a :: []) X.env = (false, eval a X.env) :: starEach [] X.env := by rfl) (hpl : (backTo pos (starEach [] X.env)).any (·.1) = false := by rfl) :
    PMk X (.Call (.Name x p) [a] [] pos) (tMk1 C f ta) := by
  intro pins s σ H Q I h
  refine wpAny_Call_Name_kw (ld_glob I hg T.gC ?_ hdb)
  refine PySem.W.callWith_K (h₀ := X.base) I.ok.mod.kin T.ox.kC (thn (ha.run pos pins s σ H _ I h) fun us s1 hh => ?_) hs hpl
  obtain ⟨vs, H1, I1, r1, v, ev, q1⟩ := hh
  subst ev
  refine ⟨I1.kIn, ?_⟩
  cases r1 with
  | cons rv rn =>
    rename_i v' us'
    cases rn
    show wpAny _ _ (call (.ref C) [v']) _ _ _
    have hlim := I1.nolimit
    obtain ⟨mb, hb1, hb2⟩ := I1.mod.blt
    have bk1 := I1.bk
    have gl1 := I1.mod.glob
    obtain ⟨hp, g, dr, tk, os⟩ := s1
    refine wpAny_call (Sup.made1 T I1.kIn hlim (gl1.keeps bk1) ⟨mb, hb1.keeps bk1, hb2⟩ (by have := hr.dp; omega) fun h' tk' e d M => ?_)
    show MkP X pins σ Q (.ref e) ⟨h', g, dr, tk', os⟩
    obtain ⟨oe, fv, hoe, hc, hd, hdat, h1⟩ := M.obj
    have hns := M.ns
    obtain ⟨G', g1, g2⟩ := restrict h' fun b => decide (b ≠ e)
    have gk : ∀ b, b ≠ e → G'.get? b = h'.get? b := fun b hb => g1 b (decide_eq_true hb)
    have ge : G'.get? e = none := g2 e (by simp)
    have old : ∀ b o, hp.get? b = some o → G'.get? b = some o := fun b o z => (gk b (Nat.ne_of_lt (Nat.lt_of_lt_of_le (Heap.lt_size z) M.new))).trans (M.keep b o z)
    have ob : ObjOk X.prog X.w (upd H1 d (.xd [(f, v)])) G' d (.xd [(f, v)]) :=
      ⟨_, hns.at (fun o z => (gk d M.dne).trans z), fun y => relO_one rv y⟩
    have J : Inv X pins σ (upd H1 d (.xd [(f, v)])) ⟨G', g, dr, tk', os⟩ := I1.laid (t' := tk') old M.dbig ob
    refine ⟨e, oe, fv, ⟨G', g, dr, tk', os⟩, _, .ref C, some d, rfl, J, fun b o z => ?_, ge, hoe, ⟨hc, hd⟩, hdat, h1, ?_, rfl, I1.bare, raises_own T.ox.exC T.ox.tyC, q1 d (I1.hok.fresh M.dbig)⟩
    · by_cases hb : b = e
      · have z' : G'.get? b = some o := z
        rw [hb, ge] at z'; cases z'
      · exact (gk b hb).symm.trans z
    · rw [upd_ne (Ne.symm M.dne)]
      exact I1.hok.fresh M.new
/-- raise E(e) -/
def tRaise1 (C : Addr) (f : Str) (W : WX) (ta : TA) : TS := fun _ σ H => tMk1 C f ta σ H fun cls d H' => W cls d σ H'
theorem ps_raise1 {a : Expr} {ta : TA} {W : WX} {p pos pos2 : Pos} {k : Nat} (hc : X.calm = true) (T : Sup.Err1 X.prog X.K X.mg x f C fI) (hr : Room k X.A) (tk : Takes X W) (ha : PA X [a] ta) (hg : Gl X x := by rfl) (hdb : (x == ("__debug__" : Str)) = false := by decide)
    (hs : starEach (a :: []) X.env = (false, eval a X.env) :: starEach [] X.env := by rfl) (hpl : (backTo pos (starEach [] X.env)).any (·.1) = false := by rfl) :
    PS X (.Raise (some (.Call (.Name x p) [a] [] pos)) none pos2) (tRaise1 C f W ta) := ps_raise hc tk (pmk_1 T hr ha hg hdb hs hpl)
end
end L2
/-! Defs by name, the pen. -/
namespace My
open PySem PySem.Spec PyProof.Rows L2
/-- a def of the module that keeps its promise -/
structure DefAt (P : Program) (w : World) (K : PySem.W.Frag) (mg : Str → Option Value) (base : Heap) (CX : CXT) (k : Nat) (x : Str) (ps : List Str) (sp : Sp) : Prop where
  ex : ∃ f fd, FnOk P w K mg base CX k f fd ps sp ∧ mg x = some (.ref f) ∧ PySem.W.keepIn K (.ref f) = true ∧ L2.Binds K fd ps []
structure DefG (P : Program) (w : World) (K : PySem.W.Frag) (mg : Str → Option Value) (base : Heap) (CX : CXT) (k : Nat) (x : Str) (ps : List Str) (sp : Sp) : Prop where
  ex : ∃ f fd, FnG P w K mg base CX k f fd ps sp ∧ mg x = some (.ref f) ∧ PySem.W.keepIn K (.ref f) = true ∧ L2.Binds K fd ps []
section
variable {X : Cx} {CX : CXT} {k : Nat} {ps : List Str} {sp : Sp} {E : XK} {x : Str} {e : Expr} {es : List Expr} {t : TA} {p pos : Pos}
theorem pe_d (D : DefAt X.prog X.w X.K X.mg X.base CX k x ps sp) (hr : Room k X.A) (hg : Gl X x) (hx : Passes CX X E) (ha : PA X (e :: es) t) (hdb : (x == ("__debug__" : Str)) = false := by decide)
    (hs : starEach (e :: es) X.env = (false, eval e X.env) :: starEach es X.env := by rfl) (hpl : (backTo pos (starEach es X.env)).any (·.1) = false := by rfl) : PE X (.Call (.Name x p) (e :: es) [] pos) (tCall sp [] E t) := by
  obtain ⟨f, fd, F, m, hk, b⟩ := D.ex
  exact pe_call F hr hg m hk b .nil hx ha hdb hs hpl
theorem pe_dG (D : DefG X.prog X.w X.K X.mg X.base CX k x ps sp) (hgd : X.A.guards = some []) (hr : Room k X.A) (hg : Gl X x) (hx : Passes CX X E) (ha : PA X (e :: es) t) (hdb : (x == ("__debug__" : Str)) = false := by decide)
    (hs : starEach (e :: es) X.env = (false, eval e X.env) :: starEach es X.env := by rfl) (hpl : (backTo pos (starEach es X.env)).any (·.1) = false := by rfl) : PE X (.Call (.Name x p) (e :: es) [] pos) (tCall sp [] E t) := by
  obtain ⟨f, fd, F, m, hk, b⟩ := D.ex
  exact pe_callG F hgd hr hg m hk b hx ha hdb hs hpl
end
/-- a class of the module that is made by its __init__, some defaults filled up -/
structure MakeAt (P : Program) (w : World) (K : PySem.W.Frag) (mg : Str → Option Value) (base : Heap) (CX : CXT) (k : Nat) (x : Str) (C : Addr) (ps : List Str) (sp : Sp) (dvs : List V) : Prop where
  ex : ∃ f fd ds, Mk K C f ∧ FnOk P w K mg base CX k f fd ps sp ∧ mg x = some (.ref C) ∧ L2.Binds K fd ps ds ∧ Vals dvs ds
structure MethAt (P : Program) (w : World) (K : PySem.W.Frag) (mg : Str → Option Value) (base : Heap) (CX : CXT) (k : Nat) (C : Addr) (m : Str) (ps : List Str) (sp : Sp) : Prop where
  ex : ∃ f fd, Meth K C m f ∧ FnOk P w K mg base CX k f fd ps sp ∧ L2.Binds K fd ps []
/-- .. called with keywords alone: their names ks, gV puts them in the parameters' order -/
structure MethK (P : Program) (w : World) (K : PySem.W.Frag) (mg : Str → Option Value) (base : Heap) (CX : CXT) (k : Nat) (C : Addr) (m : Str) (ps ks : List Str) (sp : Sp) (gV : List V → List V → List V) : Prop where
  ex : ∃ f fd g, Meth K C m f ∧ FnOk P w K mg base CX k f fd ps sp ∧ KBn K fd ps 1 ks g gV
structure CallAt (P : Program) (w : World) (K : PySem.W.Frag) (mg : Str → Option Value) (base : Heap) (CX : CXT) (k : Nat) (C : Addr) (ps : List Str) (sp : Sp) : Prop where
  ex : ∃ f fd, StX.CallO K C f ∧ FnOk P w K mg base CX k f fd ps sp ∧ L2.Binds K fd ps []
section
variable {X : Cx} {CX : CXT} {k : Nat} {C : Addr} {ps ks : List Str} {sp : Sp} {E : XK} {x m : Str} {e o fe : Expr} {es : List Expr} {kws : List Keyword} {t tk : TA} {ta tf : TE} {p pos apos : Pos} {dvs : List V} {gV : List V → List V → List V}
theorem pe_mk (M : MakeAt X.prog X.w X.K X.mg X.base CX k x C ps sp dvs) (hr : Room (k + 1) X.A) (hg : Gl X x) (hx : Passes CX X E) (ha : PA X (e :: es) t) (hdb : (x == ("__debug__" : Str)) = false := by decide)
    (hs : starEach (e :: es) X.env = (false, eval e X.env) :: starEach es X.env := by rfl) (hpl : (backTo pos (starEach es X.env)).any (·.1) = false := by rfl) : PE X (.Call (.Name x p) (e :: es) [] pos) (tMake C sp dvs E t) := by
  obtain ⟨f, fd, ds, mk, F, hm, b, d⟩ := M.ex
  exact pe_make mk F hr hg hm b d hx ha hdb hs hpl
theorem pe_mt {pl : Sem Bool} (c : Cls X.K C) (M : MethAt X.prog X.w X.K X.mg X.base CX k C m ps sp) (hr : Room k X.A) (hx : Passes CX X E) (he : PE X o ta) (ha : PA X (e :: es) t)
    (hst : starEach (e :: es) X.env = (false, eval e X.env) :: starEach es X.env := by rfl) (hpl : (backTo pos (starEach es X.env)).any (·.1) = false := by rfl)
    (ht : eval (.Call (.Attribute o m apos) (e :: es) [] pos) X.env = (do
      let ov ← eval o X.env
      standAt apos.atName
      let (f, first) ← holding [ov] (getMethod ov m pl)
      callWith pos f first (backTo pos (starEach (e :: es) X.env)) (backToKw pos (keywordEach [] X.env))) := by rfl) :
    PE X (.Call (.Attribute o m apos) (e :: es) [] pos) (tMeth C m sp [] E ta t) := by
  obtain ⟨f, fd, hm, F, b⟩ := M.ex
  exact pe_meth he c hm F hr b .nil hx ha hst hpl ht
theorem pe_mt0 {pl : Sem Bool} (c : Cls X.K C) (M : MethAt X.prog X.w X.K X.mg X.base CX k C m ps sp) (hr : Room k X.A) (hx : Passes CX X E) (he : PE X o ta)
    (ht : eval (.Call (.Attribute o m apos) [] [] pos) X.env = (do
      let ov ← eval o X.env
      standAt apos.atName
      let (f, first) ← holding [ov] (getMethod ov m pl)
      callWith pos f first (backTo pos (starEach [] X.env)) (backToKw pos (keywordEach [] X.env))) := by rfl) :
    PE X (.Call (.Attribute o m apos) [] [] pos) (tMeth C m sp [] E ta tNil) := by
  obtain ⟨f, fd, hm, F, b⟩ := M.ex
  exact pe_meth0 he c hm F hr b .nil hx ht
/-- o.m(k = v, ..) -/
def tMethK (C : Addr) (m : Str) (j : Nat) (sp : Sp) (gV : List V → List V → List V) (E : XK) (ta : TE) (tk : TA) : TE := fun σ H Q => ta σ H fun x H1 => ∃ a dx fs, x = .ref a ∧ H1 a = some (.ins C dx fs) ∧ fs.lookup m = none ∧
  tk σ H1 fun zs H2 => zs.length = j ∧ sp (gV [.ref a] zs) H2 Q E
theorem pe_mtK {pl : Sem Bool} (c : Cls X.K C) (M : MethK X.prog X.w X.K X.mg X.base CX k C m ps ks sp gV) (hr : Room k X.A) (hx : Passes CX X E) (he : PE X o ta) (hkw : PK X kws tk)
    (hall : (backToKw pos (keywordEach kws X.env)).all (·.1.isSome) = true := by rfl) (hks : (backToKw pos (keywordEach kws X.env)).filterMap (·.1) = ks := by rfl)
    (hpl : ((backTo pos (starEach [] X.env)).any (·.1) || (backToKw pos (keywordEach kws X.env)).any (·.1.isNone)) = false := by rfl)
    (ht : eval (.Call (.Attribute o m apos) [] kws pos) X.env = (do
      let ov ← eval o X.env
      standAt apos.atName
      let (f, first) ← holding [ov] (getMethod ov m pl)
      callWith pos f first (backTo pos (starEach [] X.env)) (backToKw pos (keywordEach kws X.env))) := by rfl) :
    PE X (.Call (.Attribute o m apos) [] kws pos) (tMethK C m ks.length sp gV E ta tk) := by
  obtain ⟨f, fd, g, hm, F, b⟩ := M.ex
  refine ⟨fun pins s σ H Q I h => ?_⟩
  refine PySem.W.methodCall_KW (pl := pl) (thn (he.run pins s σ H _ I h) fun u s1 ⟨x, H1, I1, rx, a, dx, fs, ex, ea, l, q⟩ => ?_) ht
  subst ex
  obtain rfl : u = Value.ref a := rx
  refine getmeth_ok I1 ea c hm l ?_
  refine PySem.W.callWith_KW0 (first := [.ref a]) (h₀ := X.base) I.ok.mod.kin hm.kp hall (thn (hkw.run pos pins s1 σ H1 _ I1 q) fun ws s2 ⟨zs, H2, I2, rz, l2, q2⟩ => ⟨I2.kIn, ?_⟩) hpl
  rw [hks]
  exact run_fnN (us := [.ref a]) (vs := [.ref a]) F hr b hx I2 (.cons rfl .nil) rz rfl l2 q2
theorem pe_cl (M : CallAt X.prog X.w X.K X.mg X.base CX k C ps sp) (hr : Room k X.A) (hx : Passes CX X E) (hf : PE X fe tf) (ha : PA X (e :: es) t)
    (ht : eval (.Call fe (e :: es) [] pos) X.env = (do callWith pos (← eval fe X.env) [] (backTo pos (starEach (e :: es) X.env)) (backToKw pos (keywordEach [] X.env))) := by rfl)
    (hs : starEach (e :: es) X.env = (false, eval e X.env) :: starEach es X.env := by rfl) (hpl : (backTo pos (starEach es X.env)).any (·.1) = false := by rfl) : PE X (.Call fe (e :: es) [] pos) (StX.tCallO X C sp E tf t) := by
  obtain ⟨f, fd, c, F, b⟩ := M.ex
  refine StX.pe_callO hf c (fun A outer s H us vs Q E hr e0 r hsp => ?_) hr hx ha ht hs hpl
  have hl : (us ++ []).length = ps.length := by rw [List.append_nil, ← r.length]; exact F.len _ _ _ _ hsp
  have hb := b s us (e0.mod.kin.keeps fun b o e => (e0.bs b o e).1) hl
  rw [List.append_nil] at hb
  exact F.run A outer s H ⟨us, []⟩ us vs Q E hr e0 hb r hsp
end
/-- an own comparison -/
structure CmpAt (P : Program) (w : World) (K : PySem.W.Frag) (mg : Str → Option Value) (base : Heap) (CX : CXT) (k : Nat) (C : Addr) (m : Str) (ps : List Str) (sp : Sp) : Prop where
  ex : ∃ f fd, PySem.W.findIn K (.ref C) m = some (some (.ref f)) ∧ PySem.W.isFn K (.ref f) = true ∧ FnOk P w K mg base CX k f fd ps sp ∧ L2.Binds K fd ps []
def rCmpO (K : PySem.W.Frag) (C : Addr) (sp : Sp) (E : XK) : R2 := fun x y H Q => ∃ a dx fs t, x = .ref a ∧ H a = some (.ins C dx fs) ∧ TyX K H y t ∧ PySem.W.notFirst K C t = true ∧ sp [.ref a, y] H Q E
theorem op_cmpO {X : Cx} {CX : CXT} {k : Nat} {C : Addr} {m : Str} {ps : List Str} {sp : Sp} {E : XK} {op : CmpOp} (M : CmpAt X.prog X.w X.K X.mg X.base CX k C m ps sp) (hr : Room k X.A) (hx : Passes CX X E) (hop : (cmpInfo op).2.1 = m := by rfl)
    (hco : ∀ v u, compareOp op v u = richCompare op v u := by intro _ _; rfl) : OpR X (compareOp op) (rCmpO X.K C sp E) := by
  intro pins s σ H x y v u Q I rx ry h
  obtain ⟨f, fd, hs, hf, F, hb⟩ := M.ex
  obtain ⟨a, dx, fs, t, rfl, ha, ty, hn, hsp⟩ := h
  obtain rfl : v = Value.ref a := rx
  obtain ⟨mA, J, _⟩ := ins_get I.hok ha
  obtain ⟨od, J, _⟩ := J.look
  obtain ⟨m', hF⟩ := I.fr
  obtain ⟨Pz, Z, pz, _⟩ := kit_of I ry ty
  rw [hco]
  refine PySem.W.cmp_K (op := op) (tb := t) hr.units0 hF I.ok.mod.kin J (Z.ty _ _ I.kIn pz) hn (by rw [hop]; exact hs) hf ?_
  have hl := F.len _ _ _ _ hsp
  have r2 : Vals [V.ref a, y] [Value.ref a, u] := .cons rfl (.cons ry .nil)
  refine wpAny_call (codeAny_mono (F.run X.A X.stack s H ⟨[.ref a, u], []⟩ [.ref a, u] [.ref a, y] _ E hr I.env0 (by
    have := hb s [.ref a, u] I.kIn (by simpa using hl)
    simpa using this) r2 hsp) fun r s' hq => ?_)
  cases r with
  | error e => exact hx pins σ H s e s' I hq
  | ok fl =>
    cases fl with
    | ret z =>
      have q := I.after hq
      obtain ⟨zv, H', I', rz, q'⟩ := id q
      cases z with
      | notImplemented => cases zv <;> first | (cases rz; done) | (obtain ⟨_, rz⟩ := rz; cases rz)
      | _ => exact q
    | next => exact False.elim hq
    | brk => exact False.elim hq
    | cont => exact False.elim hq
/-! ### the pen: a list of the cells, an index, what is left of a great cell -/
def PenAt (H : Hp) (pn : Addr) (n : Nat) : Prop := ∃ (cl : Addr) (ns : List Int) (at_ rest : Int), H pn = some (.lst [.ref cl, .int at_, .int rest]) ∧ H cl = some (.lst (ns.map V.int)) ∧ ns.length ≤ 63 ∧ 0 ≤ at_ ∧ at_ ≤ n
/-- all but pn stays -/
def But (pn : Addr) (H H' : Hp) : Prop := ∀ b o, H b = some o → b ≠ pn → H' b = some o
theorem But.refl (pn : Addr) (H : Hp) : But pn H H := fun _ _ h _ => h
theorem But.trans {pn : Addr} {H H1 H2 : Hp} (a : But pn H H1) (b : But pn H1 H2) : But pn H H2 := fun c o h n => b c o (a c o h n) n
theorem But.new {pn p : Addr} {H : Hp} {o : HO} (h : H p = none) : But pn H (upd H p o) := fun b u e _ => by rw [upd_ne (ne_of_none e h)]; exact e
theorem But.put {pn : Addr} {H : Hp} {o : HO} : But pn H (upd H pn o) := fun b u e n => by rw [upd_ne n]; exact e
theorem pen_new {H : Hp} {pn p : Addr} {n : Nat} {o : HO} (h : PenAt H pn n) (hp : H p = none) : PenAt (upd H p o) pn n := by
  obtain ⟨cl, ns, a, r, h1, h2, h3⟩ := h
  exact ⟨cl, ns, a, r, by rw [upd_ne (ne_of_none h1 hp)]; exact h1, by rw [upd_ne (ne_of_none h2 hp)]; exact h2, h3⟩
theorem PenAt.le {H : Hp} {pn : Addr} {n m : Nat} (h : PenAt H pn n) (le : n ≤ m) : PenAt H pn m := by
  obtain ⟨cl, ns, a, r, h1, h2, h3, h4, h5⟩ := h
  exact ⟨cl, ns, a, r, h1, h2, h3, h4, by omega⟩
def spDraw : Sp := fun vs H Q _ => ∃ (pn : Addr) (m : Int) (n : Nat), vs = [.ref pn, .int m] ∧ 0 < m ∧ m.natAbs.log2 < 9000 ∧ PenAt H pn n ∧ n < 100000 ∧
  ∀ (d : Int) (H' : Hp), 0 ≤ d → d < m → PenAt H' pn (n + 1) → But pn H H' → Q (.int d) H'
/-- pick(pen, some): one of some -/
def spPick : Sp := fun vs H Q _ => ∃ (pn l : Addr) (n : Nat) (xs : List V), vs = [.ref pn, .ref l] ∧ H l = some (.lst xs) ∧ l ≠ pn ∧ 0 < xs.length ∧ xs.length ≤ 1000 ∧ PenAt H pn n ∧ n < 100000 ∧
  ∀ (v : V) (H' : Hp), v ∈ xs → PenAt H' pn (n + 1) → But pn H H' → Q v H'
def spPen (K : PySem.W.Frag) : Sp := fun vs H Q _ => ∃ (a : Addr) (ns : List Int), vs = [.ref a] ∧ SqL K H a (ns.map V.int) ∧
  ∀ (pn : Addr) (H' : Hp), H pn = none → PenAt H' pn 0 → Same H H' → Q (.ref pn) H'
/-! ### lists of ints as data -/
theorem dp_ints {K : PySem.W.Frag} {H : Hp} : ∀ ns : List Int, DpAll K H (ns.map V.int) (ns.map PyData.int)
  | [] => .nil
  | n :: ns => .cons (.int n) (dp_ints ns)
theorem lay_ints : ∀ ns : List Int, PyData.canLayAll0 (ns.map PyData.int) = true
  | [] => rfl
  | n :: ns => by
    show (true && PyData.canLayAll0 (ns.map PyData.int)) = true
    rw [lay_ints ns]
    rfl
theorem dep_ints : ∀ ns : List Int, PyData.depthAll (ns.map PyData.int) = 0
  | [] => rfl
  | n :: ns => by
    show max 0 (PyData.depthAll (ns.map PyData.int)) = 0
    rw [dep_ints ns]
    rfl
theorem shaped_ints (ns : List Int) : SeqAt.shaped (.list (ns.map PyData.int)) = true := by
  show (PyData.canLayAll0 (ns.map PyData.int) && decide (PyData.depthAll (ns.map PyData.int) + 1 ≤ 64)) = true
  rw [lay_ints, dep_ints]
  rfl
theorem pow_lt {i : Int} {b : Nat} (h0 : 0 ≤ i) (h : i < 2 ^ b) : i.natAbs < 2 ^ b := by
  have e : ((2 ^ b : Nat) : Int) = (2 : Int) ^ b := by simp
  omega
theorem mix_lt {x a c d e : Int} (x0 : 0 ≤ x) (x1 : x < 2147483648) (a0 : 0 ≤ a) (a1 : a < 100000) (c0 : 0 ≤ c) (c1 : c ≤ 1000) (d0 : 0 ≤ d) (d1 : d ≤ 100000) (e0 : 0 ≤ e) (e1 : e ≤ 100000) : (x * (2 * a + c) + d * a * a + e).natAbs < 2 ^ 64 := by
  have h1 : x * (2 * a + c) ≤ 2147483648 * 201000 := Int.mul_le_mul (by omega) (by omega) (by omega) (by decide)
  have h2 : 0 ≤ x * (2 * a + c) := Int.mul_nonneg x0 (by omega)
  have h3 : d * a ≤ 100000 * 100000 := Int.mul_le_mul d1 (by omega) a0 (by decide)
  have h4 : 0 ≤ d * a := Int.mul_nonneg d0 a0
  have h5 : d * a * a ≤ (100000 * 100000) * 100000 := Int.mul_le_mul h3 (by omega) a0 (by decide)
  have h6 : 0 ≤ d * a * a := Int.mul_nonneg h4 a0
  generalize x * (2 * a + c) = y at *
  generalize d * a * a = z at *
  refine pow_lt (by omega) (by omega)
theorem cut_ints (ns : List Int) (k : Nat) : cutV (ns.map V.int) none (some (k : Int)) = (ns.take k).map V.int := by
  unfold cutV
  rw [HT.sIx_none, HT.sIx_nat, List.drop_zero, Nat.sub_zero, List.map_take, List.length_map]
  by_cases h : k ≤ ns.length
  · rw [Nat.min_eq_left h]
  · rw [Nat.min_eq_right (by omega), List.take_of_length_le (by rw [List.length_map]; exact Nat.le_refl _), List.take_of_length_le (by rw [List.length_map]; omega)]
/-- names that are still the built-in ones -/
structure BI (mg : Str → Option Value) : Prop where
  z_len : mg "len" = none
  z_abs : mg "abs" = none
  z_int : mg "int" = none
  z_bool : mg "bool" = none
  z_list : mg "list" = none
  z_repr : mg "repr" = none
  z_isinstance : mg "isinstance" = none
  z_range : mg "range" = none
end My
/-! The end of a law whose def shows containers: a def that keeps its promise where nothing is being shown. -/
namespace My
open PySem PySem.Spec PyProof.Rows L2
/-- the heap h at the law's start as the walk sees it: the script's list at a, the tables of code objects -/
structure Begin (P : Program) (w : World) (K : PySem.W.Frag) (cs : List (Addr × Addr)) (a : Addr) (ns : List Int) (H : Hp) (h : Heap) : Prop where
  tbl : ∀ p ∈ cs, H p.2 = some (.tbl #[])
  kind : ∀ b, H b = none ∨ b ∈ cs.map (·.2) ∨ ∃ o xs, H b = some (.frz o (.lst xs))
  seq : SqL K H a (ns.map V.int)
  ok : HOk P w H h
  only : ∀ b, H b ≠ none → b = a ∨ b ∈ cs.map (·.2)
  out : H a ≠ none → K.lookup a = none
/-- what is known of a table and its code object -/
structure TabF (K : PySem.W.Frag) (h : Heap) (p : Addr × Addr) : Prop where
  get : h.get? p.2 = some { cls := .none, data := .fields #[] }
  out : K.lookup p.2 = none
  hd : PySem.W.CodeHd h p.1 p.2
def Goal (l : Program) (w : World) (fa a : Addr) (s₁ : Shared) : Prop := codeAny (model l w) callerA (.call (.ref fa) ⟨[.ref a], []⟩) (fun r s' => r = .ok (.ret (.bool true)) ∧ OldK s₁.heap s'.heap ∧ s'.os = s₁.os ∧ AllBare s'.gens) s₁
theorem tab_get {K : PySem.W.Frag} {h : Heap} {cs : List (Addr × Addr)} (t : ∀ p ∈ cs, TabF K h p) {b : Addr} (hb : b ∈ cs.map (·.2)) : h.get? b = some { cls := .none, data := .fields #[] } := by
  obtain ⟨p, hp, rfl⟩ := List.mem_map.mp hb
  exact (t p hp).get
section
variable {P : Program} {w : World} {K : PySem.W.Frag} {mg mb : Str → Option Value} {k : Nat} {fa a : Addr} {cs : List (Addr × Addr)} {fd : FuncData} {x : Str} {sp : Sp} {s₁ : Shared} {vs : List Value} {ns : List Int}
theorem from_begin {H : Hp} (B : Begin P w K cs a ns H s₁.heap) (hK : K.In s₁.heap) (gN : s₁.heap.Ns mainGlobals mg) (bN : s₁.heap.Ns builtinsNs mb) (bB : ∀ x : Str, x ≠ "__name__" → mb x = bootBuiltins x) (lim : s₁.heap.NoLimit) (gens : s₁.gens = #[])
    (ts : ∀ p ∈ cs, TabF K s₁.heap p) (mB : ∃ (bm : Addr) (ob : Obj), mg "__builtins__" = some (.ref bm) ∧ bm ≠ builtinsNs ∧ s₁.heap.get? bm = some ob ∧ ob.cls = .type "module" ∧ ob.dict = some builtinsNs ∧ ob.data = .plain)
    (la : s₁.heap.get? a = some { cls := .type "list", data := .seq vs.toArray }) (hr : Room k callerA)
    (F : ∀ base : Heap, K.In base → base.Ns mainGlobals mg → (∀ p ∈ cs, LamX.TabB base mg p.1 p.2) → FnG P w K mg base CX0 k fa fd [x] sp) (bd : ∀ (s : Shared) (u : Value), BindsTo s fd ⟨[u], []⟩ [(x, u)])
    (go : sp [.ref a] H (fun v _ => v = .bl true) fun _ _ _ => False) : Goal P w fa a s₁ := by
  have away : ∀ {b : Addr} {o : Obj}, s₁.heap.get? b = some o → (∀ ys n, o.data ≠ .seq ys n) → o.data ≠ .fields #[] → H b = none := fun {b o} e n1 n2 => by
    by_cases q : H b = none
    · exact q
    · exfalso
      rcases B.only b q with rfl | hb
      · rw [la] at e
        injection e with e
        subst e
        exact n1 _ _ rfl
      · rw [tab_get ts hb] at e
        injection e with e
        subst e
        exact n2 rfl
  have seen : ∀ {b : Addr} {o : Obj}, s₁.heap.get? b = some o → H b = none → (hidT s₁.heap H).get? b = some o := fun e n => hidT_get e n
  have nsOf : ∀ {b : Addr} {m : Str → Option Value}, s₁.heap.Ns b m → (hidT s₁.heap H).Ns b m := fun {b m} ⟨o, es, ep, e, d, r⟩ =>
    ⟨o, es, ep, seen e (away e (fun ys n z => by rw [d] at z; cases z) (fun z => by rw [d] at z; cases z)), d, r⟩
  have inK : K.In (hidT s₁.heap H) := fun b o e => by
    refine seen (hK b o e) ?_
    by_cases q : H b = none
    · exact q
    · exfalso
      rcases B.only b q with rfl | hb
      · rw [B.out q] at e
        cases e
      · obtain ⟨p, hp, rfl⟩ := List.mem_map.mp hb
        rw [(ts p hp).out] at e
        cases e
  have modK : L2.Mod K mg (hidT s₁.heap H) := ⟨inK, nsOf gN, ⟨mb, nsOf bN, bB⟩, let ⟨mc, h1, h2⟩ := lim; ⟨mc, nsOf h1, h2⟩⟩
  have tabs : ∀ p ∈ cs, LamX.TabB (hidT s₁.heap H) mg p.1 p.2 := fun p hp => by
    have tp := ts p hp
    refine ⟨?_, ?_, fun z => ?_⟩
    · obtain ⟨o, us, file, tf, flags, tg, inF, text, tt, e1, r1, r2, r3, rs⟩ := tp.hd
      exact ⟨o, us, file, tf, flags, tg, inF, text, tt, seen e1 (away e1 (fun ys n z => by rw [r2] at z; cases z) (fun z => by rw [r2] at z; cases z; simp at r3)), r1, r2, r3, rs⟩
    · obtain ⟨bm, ob, m1, m2, m3, m4, m5, m6⟩ := mB
      refine ⟨bm, ob, m1, m2, fun z => ?_, fun z => ?_, seen m3 (away m3 (fun ys n z => by rw [m6] at z; cases z) (fun z => by rw [m6] at z; cases z)), m4, m5, m6⟩
      · obtain ⟨o, es, ep, e, hd, _⟩ := gN
        rw [z, e] at m3
        cases m3
        rw [hd] at m6
        cases m6
      · rw [z, tp.get] at m3
        cases m3
        cases m6
    · obtain ⟨o, es, ep, e, hd, _⟩ := gN
      rw [z, tp.get] at e
      cases e
      cases hd
  have env0 : Env0 P w K mg (hidT s₁.heap H) callerA [] s₁ H := ⟨rfl, modK, fun b o e => of_hidT e, Nat.le_of_eq (hidT_size _ _), trivial, fun b hb => absurd (show b ∈ ([] : List Addr) from hb) (by simp), B.ok, .of_eq gens⟩
  unfold Goal
  refine codeAny_mono ((F _ inK (nsOf gN) tabs).run callerA [] s₁ H ⟨[.ref a], []⟩ [.ref a] [.ref a] _ _ rfl hr env0 (bd s₁ (.ref a)) (.cons rfl .nil) go) fun r s' done => ?_
  match r, done with
  | .error e, z => exact False.elim z
  | .ok .next, z => exact False.elim z
  | .ok .brk, z => exact False.elim z
  | .ok .cont, z => exact False.elim z
  | .ok (.ret u), ⟨v, H', os, bare, un, ok', r', q⟩ =>
    have q2 : v = .bl true := q
    subst q2
    have q3 : u = Value.bool true := r'
    subst q3
    have stays : ∀ b o, b ∉ cs.map (·.2) → s₁.heap.get? b = some o → s'.heap.get? b = some o := fun b o nb e => by
      rcases B.kind b with z | z | ⟨ob, xs, z⟩
      · exact un.keep b o e z (by intro z; exact absurd (show b ∈ ([] : List Addr) from z) (by simp)) (by simp)
      · exact absurd z nb
      · obtain ⟨e1, _⟩ := B.ok b _ z
        obtain ⟨e2, _⟩ := ok' b _ (un.frzs b ob _ z)
        rw [e] at e1
        cases e1
        exact e2
    have more : ∀ p ∈ cs, ∃ ys : Array Value, s'.heap.get? p.2 = some { cls := .none, data := .fields ys } := fun p hp => by
      obtain ⟨ys, z⟩ := un.tbls p.2 #[] (B.tbl p hp)
      exact ⟨_, ok' p.2 _ z⟩
    refine ⟨rfl, ⟨fun b o e => ?_, fun b o e => ?_⟩, os, bare⟩
    · by_cases hb : b ∈ cs.map (·.2)
      · obtain ⟨p, hp, rfl⟩ := List.mem_map.mp hb
        obtain ⟨ys, hm⟩ := more p hp
        rw [(ts p hp).get] at e
        cases e
        exact .inr (.inl ⟨((ts p hp).hd.tab (ts p hp).get).isCodeTable, rfl, #[], ys, rfl, by rw [Array.empty_append]; exact hm⟩)
      · exact .inl (stays b o hb e)
    · by_cases hb : b ∈ cs.map (·.2)
      · obtain ⟨p, hp, rfl⟩ := List.mem_map.mp hb
        obtain ⟨ys, hm⟩ := more p hp
        exact ⟨_, hm⟩
      · exact ⟨o, stays b o hb e⟩
/-- such a beginning is to be had -/
theorem begins (hK : K.In s₁.heap) (ts : ∀ p ∈ cs, TabF K s₁.heap p) (la : s₁.heap.get? a = some { cls := .type "list", data := .seq vs.toArray }) (hi : IntsAre vs ns) (hl : ns.length ≤ sizeLine) : ∃ H, Begin P w K cs a ns H s₁.heap := by
  have nt : a ∉ cs.map (·.2) := fun z => by
    have q := tab_get ts z
    rw [la] at q
    injection q with q
    injection q with _ _ q _
    cases q
  have rv := vals_ints hi
  let O : Option HO := if (K.lookup a).isSome = true then none else some (.frz { cls := .type "list", data := .seq vs.toArray } (.lst (ns.map V.int)))
  have atT : ∀ b, b ∈ cs.map (·.2) → (if b ∈ cs.map (·.2) then some (HO.tbl #[]) else if b = a then O else none) = some (HO.tbl #[]) := fun b h => if_pos h
  have atA : (if a ∈ cs.map (·.2) then some (HO.tbl #[]) else if a = a then O else none) = O := (if_neg nt).trans (if_pos rfl)
  have atN : ∀ b, b ∉ cs.map (·.2) → b ≠ a → (if b ∈ cs.map (·.2) then some (HO.tbl #[]) else if b = a then O else none) = none := fun b h1 h2 => (if_neg h1).trans (if_neg h2)
  refine ⟨fun b => if b ∈ cs.map (·.2) then some (.tbl #[]) else if b = a then O else none, fun p hp => atT _ (List.mem_map.mpr ⟨p, hp, rfl⟩), fun b => ?_, ?_, fun b u z => ?_, fun b z => ?_, fun z => ?_⟩
  · by_cases h1 : b ∈ cs.map (·.2)
    · exact .inr (.inl h1)
    · by_cases h2 : b = a
      · subst h2
        by_cases h3 : (K.lookup b).isSome = true
        · exact .inl (atA.trans (if_pos h3))
        · exact .inr (.inr ⟨_, _, atA.trans (if_neg h3)⟩)
      · exact .inl (atN b h1 h2)
  · cases h3 : K.lookup a with
    | none =>
      refine .inl (.inr ⟨_, atA.trans (if_neg ?_)⟩)
      rw [h3]
      exact Bool.noConfusion
    | some o =>
      have e := hK a o h3
      rw [la] at e
      cases e
      exact .inr ⟨_, vs.toArray, _, h3, rfl, rfl, rfl, by rw [List.size_toArray, hi.length]; exact hl, by simpa using rv⟩
  · by_cases h1 : b ∈ cs.map (·.2)
    · have z' := (atT b h1).symm.trans z
      cases z'
      exact tab_get ts h1
    · by_cases h2 : b = a
      · subst h2
        have z' := atA.symm.trans z
        by_cases h3 : (K.lookup b).isSome = true
        · have z2 := (if_pos h3).symm.trans z'
          cases z2
        · have z2 := (if_neg h3).symm.trans z'
          cases z2
          exact ⟨la, by rw [List.length_map]; exact hl, vs, _, rv, la⟩
      · have z' := (atN b h1 h2).symm.trans z
        cases z'
  · by_cases h1 : b ∈ cs.map (·.2)
    · exact .inr h1
    · by_cases h2 : b = a
      · exact .inl h2
      · exact absurd (atN b h1 h2) z
  · cases h3 : K.lookup a with
    | none => rfl
    | some o => exact absurd (atA.trans (if_pos (by rw [h3]; rfl))) z
end
/-- what is known of the law's promise at the head's heap h; TF: what the top says of the tables -/
def LawG (l : PySem.W.OpenLaw) (w : World) (K : PySem.W.Frag) (k n : Nat) (x : Str) (mg : Str → Option Value) (fa : Addr) (h : Heap) : Prop :=
  ∃ (fd : FuncData) (cs : List (Addr × Addr)) (sp : Sp), (∀ p ∈ cs, TabF K h p) ∧ (∀ (s : Shared) (u : Value), BindsTo s fd ⟨[u], []⟩ [(x, u)]) ∧
    (∀ (H : Hp) (a : Addr) (ns : List Int), ns.length ≤ n → (∀ z ∈ ns, Builtin.Int.intBits z ≤ 1048576) → (∀ p ∈ cs, H p.2 = some (.tbl #[])) → SqL K H a (ns.map V.int) → sp [.ref a] H (fun v _ => v = .bl true) fun _ _ _ => False) ∧
    ∀ base : Heap, K.In base → base.Ns mainGlobals mg → (∀ p ∈ cs, LamX.TabB base mg p.1 p.2) → FnG l.prog w K mg base CX0 k fa fd [x] sp
theorem walk_G {l : PySem.W.OpenLaw} {n k : Nat} {q : Program} {loose : List Str} {XP : (Str → Option Value) → Heap → Prop} {YP : World → Heap → Prop} {d : DefRec} {K : Params → PySem.W.Frag} {x : Str}
    (hn : l.most = some n) (hn2 : n ≤ sizeLine) (hdf : d.params.defaults = []) (hr : Room k callerA) (hY : ∀ (w : World) (h : Heap), YP w h → (K w.params).In h)
    (F : ∀ (w : World) (mg : Str → Option Value) (fa : Addr) (h : Heap), YP w h → (K w.params).In h → h.Ns mainGlobals mg → mg d.name = some (.ref fa) →
      (∀ (y : Str) (c T : Addr), ((recsOf q).any fun e => e.name == y) = true → PySem.W.tabIn (K w.params) y = some (c, T) → (K w.params).lookup T = none → TabF (K w.params) h (c, T)) → LawG l w (K w.params) k n x mg fa h) :
    PySem.W.WalkO q loose XP YP l.row.toRowW d [] (fun f vs => PySem.call f vs) := by
  refine Att.attach_callB hn hdf fun w s₀ s₁ mg mb fa o pm cd doc a vs ns G Y ho hd hcd hmg hobj hints hlen hbits hg => ?_
  have KX := hY w _ Y
  obtain ⟨fd, cs, sp, ts, hb, hsp, hF⟩ := F w mg fa _ Y KX G.T.g hmg fun y c T hrec hT hN => by
    obtain ⟨e, he⟩ := Option.isSome_iff_exists.mp (show ((recsOf q).find? fun e => e.name == y).isSome = true by rw [List.find?_isSome]; obtain ⟨e, h1, h2⟩ := List.any_eq_true.mp hrec; exact ⟨e, h1, h2⟩)
    obtain ⟨h1, h2⟩ := PySem.W.tab_of G.T KX he hT
    exact ⟨h2, hN, h1⟩
  obtain ⟨H, B⟩ := begins (P := l.prog) (w := w) KX ts hobj hints (Nat.le_trans hlen hn2)
  exact from_begin B KX G.T.g G.T.b G.T.builtins G.T.nolimit hg ts G.T.bmain hobj hr hF hb (hsp H a ns hlen hbits B.tbl B.seq)
end My
/-! What the top has written, by name. -/
namespace My
open PySem PySem.Spec PyProof.Rows L2
/-- the module has the def -/
structure Has (K : PySem.W.Frag) (mg : Str → Option Value) (x : Str) (st : Stmt) : Prop where
  ex : ∃ f fd, mg x = some (.ref f) ∧ Fun K x x st f fd
/-- a def that makes functions, its code object at c -/
structure HasC (K : PySem.W.Frag) (mg : Str → Option Value) (x : Str) (st : Stmt) (c : Addr) : Prop where
  ex : ∃ (f : Addr) (oc : Value) (od : Option Addr) (kV doc pm : Value) (an : Option Addr) (ct : Value) (osl : Array (Option Value)), mg x = some (.ref f) ∧
    K.lookup f = some ⟨oc, od, .func (PySem.W.fnOf x x (defArgs st) (defBody st) (defScope st) .none kV doc pm an (.ref c) ct), osl⟩ ∧ PySem.W.codeIn K (.ref c) x = true ∧ PySem.W.keepIn K (.ref f) = true
/-- the class has the method -/
structure HasM (K : PySem.W.Frag) (C : Addr) (m qual : Str) (st : Stmt) : Prop where
  ex : ∃ f fd, PySem.W.findIn K (.ref C) m = some (some (.ref f)) ∧ PySem.W.isFn K (.ref f) = true ∧ Fun K m qual st f fd
/-- the class has the method, with defaults -/
structure HasD (K : PySem.W.Frag) (C : Addr) (m qual : Str) (st : Stmt) (dvs : List V) (kws : List (Str × V)) : Prop where
  ex : ∃ f fd, PySem.W.findIn K (.ref C) m = some (some (.ref f)) ∧ PySem.W.isFn K (.ref f) = true ∧ FunD K m qual (defArgs st) (defBody st) (defScope st) dvs kws f fd
section
variable {P : Program} {w : World} {K : PySem.W.Frag} {mg : Str → Option Value} {base : Heap} {CX : CXT} {k : Nat} {x m qual : Str} {st : Stmt} {ps ks : List Str} {sp : Sp} {C c : Addr}
def BindW (x qual : Str) (st : Stmt) (ps : List Str) : Prop := ∀ (kV doc pm : Value) (an : Option Addr) (cdv ct : Value) (us : List Value), us.length = ps.length → bindArgs (PySem.W.fnOf x qual (defArgs st) (defBody st) (defScope st) .none kV doc pm an cdv ct) ⟨us, []⟩ = pure (ps.zip us)
theorem def_at (A : Has K mg x st) (ok : ∀ f fd, Fun K x x st f fd → FnOk P w K mg base CX k f fd ps sp) (b : BindW x x st ps) : DefAt P w K mg base CX k x ps sp := by
  obtain ⟨f, fd, h1, F⟩ := A.ex
  exact ⟨f, fd, ok f fd F, h1, F.kp, F.binds b⟩
theorem def_atG (A : Has K mg x st) (ok : ∀ f fd, Fun K x x st f fd → FnG P w K mg base CX k f fd ps sp) (b : BindW x x st ps) : DefG P w K mg base CX k x ps sp := by
  obtain ⟨f, fd, h1, F⟩ := A.ex
  exact ⟨f, fd, ok f fd F, h1, F.kp, F.binds b⟩
theorem meth_at (A : HasM K C m qual st) (ok : ∀ f fd, Fun K m qual st f fd → FnOk P w K mg base CX k f fd ps sp) (b : BindW m qual st ps) : MethAt P w K mg base CX k C m ps sp := by
  obtain ⟨f, fd, h1, h2, F⟩ := A.ex
  exact ⟨f, fd, ⟨h1, h2, F.kp⟩, ok f fd F, F.binds b⟩
theorem call_at (A : HasM K C "__call__" qual st) (ok : ∀ f fd, Fun K "__call__" qual st f fd → FnOk P w K mg base CX k f fd ps sp) (b : BindW "__call__" qual st ps) : CallAt P w K mg base CX k C ps sp := by
  obtain ⟨f, fd, h1, h2, F⟩ := A.ex
  obtain ⟨oc, od, kV, doc, pm, an, cdv, ct, osl, e, lk, _⟩ := F.ex
  refine ⟨f, fd, ⟨h1, h2, ?_⟩, ok f fd F, F.binds b⟩
  unfold PySem.W.fnIn
  rw [lk]
theorem cmp_at (A : HasM K C m qual st) (ok : ∀ f fd, Fun K m qual st f fd → FnOk P w K mg base CX k f fd ps sp) (b : BindW m qual st ps) : CmpAt P w K mg base CX k C m ps sp := by
  obtain ⟨f, fd, h1, h2, F⟩ := A.ex
  exact ⟨f, fd, h1, h2, ok f fd F, F.binds b⟩
/-- called with keywords alone -/
theorem methK_at {gV : List V → List V → List V} {g : List Value → List Value → List Value} (A : HasM K C m qual st) (ok : ∀ f fd, Fun K m qual st f fd → FnOk P w K mg base CX k f fd ps sp)
    (b : ∀ (kV doc pm : Value) (an : Option Addr) (cdv ct : Value) (us ws : List Value), us.length = 1 → ws.length = ks.length → bindArgs (PySem.W.fnOf m qual (defArgs st) (defBody st) (defScope st) .none kV doc pm an cdv ct) ⟨us, ks.zip ws⟩ = pure (ps.zip (g us ws)))
    (r : ∀ {vs : List V} {us : List Value} {zs : List V} {ws : List Value}, Vals vs us → Vals zs ws → Vals (gV vs zs) (g us ws)) : MethK P w K mg base CX k C m ps ks sp gV := by
  obtain ⟨f, fd, h1, h2, F⟩ := A.ex
  obtain ⟨oc, od, kV, doc, pm, an, cdv, ct, osl, rfl, lk, hcd⟩ := id F.ex
  exact ⟨f, _, g, ⟨h1, h2, F.kp⟩, ok f _ F, ⟨fun s us ws _ l1 l2 => .of_eq (b kV doc pm an cdv ct us ws l1 l2), r⟩⟩
/-- the class is made with all its arguments -/
theorem make_all {dvs : List V} (A : HasD K C "__init__" qual st dvs []) (hx : mg x = some (.ref C)) (mk : PySem.W.makesIn K C = true) (kp : PySem.W.keepIn K (.ref C) = true) (ok : ∀ f fd, FunD K "__init__" qual (defArgs st) (defBody st) (defScope st) dvs [] f fd → FnOk P w K mg base CX k f fd ps sp) (hd : dvs ≠ [])
    (b : ∀ (T : Addr) (kV doc pm : Value) (an : Option Addr) (cdv ct : Value) (us its : List Value), us.length = ps.length → its.length = dvs.length →
      ∃ k, bindArgs (PySem.W.fnOf "__init__" qual (defArgs st) (defBody st) (defScope st) (.ref T) kV doc pm an cdv ct) ⟨us, []⟩ = seqItems? (.ref T) >>= k ∧ k (some its.toArray) = pure (ps.zip (us ++ its.drop dvs.length))) : MakeAt P w K mg base CX k x C ps sp [] := by
  obtain ⟨f, fd, h1, h2, F⟩ := A.ex
  obtain ⟨ds, r, bs⟩ := F.binds1 ps.length dvs.length hd (by omega) b
  rw [List.drop_length] at r
  exact ⟨f, fd, ds, ⟨mk, h1, h2, kp⟩, ok f fd F, hx, bs, r⟩
end
end My
/-! Ints beside instances: the int's own slots decline. -/
namespace My
open PySem PySem.Spec PyProof.Rows
def Plain (h : Heap) (l : Addr) : Prop := ∃ (c : Value) (d : Option Addr) (sl : Array (Option Value)), h.get? l = some { cls := c, dict := d, data := .plain, slots := sl }
def Declines (B : Builtin) (a : Int) (t : Tok) (l : Addr) : Prop := Meets (B ⟨[.int a t, .ref l], []⟩) fun _ R s => Plain s.heap l ∧ R (.ok (.ret Value.notImplemented)) s
theorem dec_add (a : Int) (t : Tok) (l : Addr) : Declines Builtin.«int.__add__» a t l :=
  .of_wp fun prog w A R s h => by obtain ⟨hp, g, d, tk, os⟩ := s; obtain ⟨⟨c, dd, sl, hl⟩, h⟩ := h; wp_walk; exact ⟨_, rfl, h⟩
theorem dec_sub (a : Int) (t : Tok) (l : Addr) : Declines Builtin.«int.__sub__» a t l :=
  .of_wp fun prog w A R s h => by obtain ⟨hp, g, d, tk, os⟩ := s; obtain ⟨⟨c, dd, sl, hl⟩, h⟩ := h; wp_walk; exact ⟨_, rfl, h⟩
theorem dec_mul (a : Int) (t : Tok) (l : Addr) : Declines Builtin.«int.__mul__» a t l :=
  .of_wp fun prog w A R s h => by obtain ⟨hp, g, d, tk, os⟩ := s; obtain ⟨⟨c, dd, sl, hl⟩, h⟩ := h; wp_walk; exact ⟨_, rfl, h⟩
theorem dec_floordiv (a : Int) (t : Tok) (l : Addr) : Declines Builtin.«int.__floordiv__» a t l :=
  .of_wp fun prog w A R s h => by obtain ⟨hp, g, d, tk, os⟩ := s; obtain ⟨⟨c, dd, sl, hl⟩, h⟩ := h; wp_walk; exact ⟨_, rfl, h⟩
theorem dec_mod (a : Int) (t : Tok) (l : Addr) : Declines Builtin.«int.__mod__» a t l :=
  .of_wp fun prog w A R s h => by obtain ⟨hp, g, d, tk, os⟩ := s; obtain ⟨⟨c, dd, sl, hl⟩, h⟩ := h; wp_walk; exact ⟨_, rfl, h⟩
theorem dec_lt (a : Int) (t : Tok) (l : Addr) : Declines Builtin.«int.__lt__» a t l :=
  .of_wp fun prog w A R s h => by obtain ⟨hp, g, d, tk, os⟩ := s; obtain ⟨⟨c, dd, sl, hl⟩, h⟩ := h; wp_walk; exact ⟨_, rfl, h⟩
theorem dec_le (a : Int) (t : Tok) (l : Addr) : Declines Builtin.«int.__le__» a t l :=
  .of_wp fun prog w A R s h => by obtain ⟨hp, g, d, tk, os⟩ := s; obtain ⟨⟨c, dd, sl, hl⟩, h⟩ := h; wp_walk; exact ⟨_, rfl, h⟩
theorem dec_gt (a : Int) (t : Tok) (l : Addr) : Declines Builtin.«int.__gt__» a t l :=
  .of_wp fun prog w A R s h => by obtain ⟨hp, g, d, tk, os⟩ := s; obtain ⟨⟨c, dd, sl, hl⟩, h⟩ := h; wp_walk; exact ⟨_, rfl, h⟩
theorem dec_ge (a : Int) (t : Tok) (l : Addr) : Declines Builtin.«int.__ge__» a t l :=
  .of_wp fun prog w A R s h => by obtain ⟨hp, g, d, tk, os⟩ := s; obtain ⟨⟨c, dd, sl, hl⟩, h⟩ := h; wp_walk; exact ⟨_, rfl, h⟩
theorem dec_eq (a : Int) (t : Tok) (l : Addr) : Declines Builtin.«int.__eq__» a t l :=
  .of_wp fun prog w A R s h => by obtain ⟨hp, g, d, tk, os⟩ := s; obtain ⟨⟨c, dd, sl, hl⟩, h⟩ := h; wp_walk; exact ⟨_, rfl, h⟩
end My
/-! Own operators: an instance beside an instance, beside an int, an int beside it, in place, the sign. -/
namespace My
open PySem PySem.Spec PySem.Calls PyProof.Rows L2
section
open PySem.W
variable {prog : Program} {w : World} {A : Around} {E : Value → Shared → Prop} {s : Shared} {K : Frag} {x C L f f0 : Addr} {h₀ : Heap} {m : Str → Option Value} {ox : Obj} {od : Option Obj}
/-- what is known of the int's slot -/
structure IntSlot (K : Frag) (nm : String) (id : String) (B : Builtin) : Prop where
  slot : Slot "int" (PySem.dunder nm) id
  entry : entryFor table id = some B
  args : ∀ a b : Value, argsOk id ⟨[a, b], []⟩
  dec : ∀ a t l, Declines B a t l
theorem int_plain (i : Int) (t : Tok) (s : Shared) : s.TypeIs (.int i t) "int" := by
  first | exact .int | exact trivial | rfl | exact ⟨_, rfl⟩
theorem int_call {i : Int} {t : Tok} {nm id : String} {B : Builtin} {Q : Value → Shared → Prop} (S : IntSlot K nm id B) (hp : Plain s.heap x) (h : Q .notImplemented s) : wpAny (model prog w) A (call (.builtin id) [.int i t, .ref x]) Q E s :=
  call_meets S.slot (int_plain i t s) S.entry (S.args _ _) (S.dec i t x) ⟨hp, h⟩
/-- an int beside an instance: the reflected method -/
theorem binR_K {op : Operator} {i : Int} {t : Tok} {id : String} {B : Builtin} {fo ro : Option Value} {Q : Value → Shared → Prop} (S : IntSlot K op.info.2 id B) (F : Fr h₀ L s.heap m) (X₀ : K.In h₀) (I : InstAt s.heap x ox C od) (hp : Plain s.heap x) (hc : selfFirst K C = true)
    (hs : findIn K (.ref C) (PySem.dunder op.info.2) = some (some (.ref f0))) (hr : findIn K (.ref C) (dunderR op.info.2) = some (some (.ref f))) (hf : isFn K (.ref f) = true)
    (h1 : findIn K (.type "int") (PySem.dunder op.info.2) = some fo) (h2 : findIn K (.type "int") (dunderR op.info.2) = some ro) (hl : ((fo.isSome && !isSeqSlot fo) || (ro.isSome && !isSeqSlot ro)) = true) (hsub : subIn K (.ref C) (.type "int") = some false)
    (h : wpAny (model prog w) A (call (.ref f) [.ref x, .int i t]) (PySem.W.CmpBack Q) E s) : wpAny (model prog w) A (binaryOp op (.int i t) (.ref x)) Q E s := by
  have X := X₀.keeps F.keep
  obtain ⟨cd, rest, hcd, hm⟩ := ksp_first hc
  have two := ksp_try X I hr hf h
  rcases hi : op.info with ⟨sym, nm'⟩
  rw [hi] at hs hr h1 h2 S two
  dsimp only at hs hr h1 h2 S two
  have one : wpAny (model prog w) A (tryMethod (.int i t) (PySem.dunder nm') (.ref x)) (fun r s' => r = none ∧ s' = s) E s := wpAny_tryMethod_declines (int_plain i t s) S.slot (int_call S hp ⟨rfl, rfl, rfl⟩)
  obtain ⟨hh, g, d, tt, os⟩ := s
  have L1 : Looks (model prog w) hh (typeOf (.ref x)) (.ref C) := I.type
  have L2 : Looks (model prog w) hh (typeOf (.int i t)) (.type "int") := Looks.of_pure rfl
  have L3 : Looks (model prog w) hh (fillsNumberSlot (.ref C) nm') true := fills_K X hcd hm hs
  have L4 : Looks (model prog w) hh (fillsNumberSlot (.type "int") nm') true := hl ▸ ksp_fillsT X h1 h2
  have L5 : Looks (model prog w) hh (isSubtype (.ref C) (.type "int")) false := looks_subIn X hsub
  have L7 : Looks (model prog w) hh (numberSlotInPython (.type "int") nm') false := Looks.of_pure rfl
  have hne : (Value.type "int" == Value.ref C) = false := Bool.eq_false_iff.mpr fun q => by cases beq_iff_eq.mp q
  simp only [binaryOp, hi]
  refine wpAny_holding (wpAny_bind ?_)
  unfold binaryOp1
  refine wpAny_bind (L2.at (wpAny_bind (L1.at (wpAny_bind (L4.at ?_)))))
  simp only [hne, Bool.false_eq_true, if_false]
  ksp_lk
  refine wpAny_mono one (fun r s' hr' => ?_) fun _ _ e => e
  obtain ⟨rfl, rfl⟩ := hr'
  ksp_lk
  refine wpAny_mono two (fun r s' hr' => ?_) fun _ _ e => e
  obtain ⟨v, rfl, hq⟩ := hr'
  ksp_lk
  exact hq
/-- an int compared with an instance: the reflected method -/
theorem cmpR_K {op : CmpOp} {i : Int} {t : Tok} {id : String} {B : Builtin} {Q : Value → Shared → Prop} (hu : A.units < cLine) (sl : Slot "int" (cmpInfo op).2.1 id) (en : entryFor table id = some B) (ar : ∀ a b : Value, argsOk id ⟨[a, b], []⟩) (de : ∀ a t l, Declines B a t l)
    (F : Fr h₀ L s.heap m) (X₀ : K.In h₀) (I : InstAt s.heap x ox C od) (hp : Plain s.heap x) (hs : findIn K (.ref C) (cmpInfo op).2.2 = some (some (.ref f))) (hf : isFn K (.ref f) = true) (hsub : subIn K (.ref C) (.type "int") = some false)
    (h : wpAny (model prog w) A (call (.ref f) [.ref x, .int i t]) (PySem.W.CmpBack Q) E s) (h1 : oneThing? op (.int i t) (.ref x) = none) : wpAny (model prog w) A (richCompare op (.int i t) (.ref x)) Q E s := by
  have X := X₀.keeps F.keep
  have two : wpAny (model prog w) A (tryCompare (.ref x) (cmpInfo op).2.2 (.int i t)) (fun r s' => ∃ v, r = some v ∧ Q v s') E s := by
    unfold tryCompare
    refine wpAny_bind (ifBound_K X I hs hf (wpAny_mono h (fun v s' hv => ?_) fun _ _ e => e))
    cases v <;> first | exact hv.elim | exact wpAny_pure ⟨_, rfl, hv⟩
  have one : wpAny (model prog w) A (tryCompare (.int i t) (cmpInfo op).2.1 (.ref x)) (fun r s' => r = none ∧ s' = s) E s :=
    wpAny_tryCompare_declines (int_plain i t s) sl (call_meets sl (int_plain i t s) en (ar _ _) (de i t x) ⟨hp, rfl, rfl, rfl⟩)
  have hne : (Value.type "int" != Value.ref C) = true := by
    have : (Value.type "int" == Value.ref C) = false := Bool.eq_false_iff.mpr fun q => by cases beq_iff_eq.mp q
    simp [bne, this]
  unfold richCompare
  simp only [h1]
  refine wpAny_holding (wpAny_bind (wpAny_cRoomFor hu ?_))
  refine wpAny_bind ((Looks.of_pure (show typeOf (.int i t) = pure (.type "int") from rfl)).here (wpAny_bind (I.type.here ?_)))
  simp only [hne, if_true]
  refine wpAny_bind ((looks_subIn X hsub).here ?_)
  simp only [Bool.false_eq_true, if_false, Bool.not_false, if_true]
  refine wpAny_bind (wpAny_mono one (fun r s' z => ?_) fun _ _ e => e)
  obtain ⟨rfl, rfl⟩ := z
  refine wpAny_bind (wpAny_mono two (fun r s' z => ?_) fun _ _ e => e)
  obtain ⟨v, rfl, hq⟩ := z
  exact wpAny_pure hq
end
/-! ### a method run somewhere below the body -/
structure Und (X : Cx) (n : Nat) (A : Around) : Prop where
  room : Room n A
  fr : A.frames = X.A.frames
theorem Und.here {X : Cx} {n : Nat} (hr : Room n X.A) : Und X n X.A := ⟨hr, rfl⟩
theorem Und.in1 {X : Cx} {n : Nat} {A : Around} (u : Und X (n + 1) A) : Und X n A.in1 := ⟨u.room.in1, u.fr⟩
section
variable {X : Cx} {pins : List (Addr × Obj)} {σ : L2.St} {H : Hp} {s : Shared} {CX : CXT} {k : Nat} {ps : List Str} {sp : Sp} {E : XK} {C : Addr} {m : Str}
theorem run_at {f : Addr} {fd : FuncData} {A : Around} {vs : List V} {us : List Value} {Q : VK} (F : FnOk X.prog X.w X.K X.mg X.base CX k f fd ps sp) (hb : L2.Binds X.K fd ps []) (hx : Passes CX X E) (u : Und X k A) (I : Inv X pins σ H s) (r : Vals vs us) (hsp : sp vs H Q E) :
    wpAny (model X.prog X.w) A (call (.ref f) us) (EP X pins σ Q) X.xe s := by
  have e0 : Env0 X.prog X.w X.K X.mg X.base A X.stack s H := by
    have e := I.env0
    exact ⟨by rw [u.fr]; exact e.frames, e.mod, e.bs, e.bsz, e.funs, e.frf, e.hok, e.bare⟩
  have hl : (us ++ []).length = ps.length := by rw [List.append_nil, ← r.length]; exact F.len _ _ _ _ hsp
  have bd := hb s us I.kIn hl
  rw [List.append_nil] at bd
  refine wpAny_call (codeAny_mono (F.run A X.stack s H ⟨us, []⟩ us vs _ E u.room e0 bd r hsp) fun r s' hq => ?_)
  match r, hq with
  | .error e, hq => exact hx pins σ H s e s' I hq
  | .ok (.ret z), hq => exact I.after hq
  | .ok .next, hq => exact False.elim hq
  | .ok .brk, hq => exact False.elim hq
  | .ok .cont, hq => exact False.elim hq
theorem ep_back {Q : VK} {v : Value} {s' : Shared} (h : EP X pins σ Q v s') : PySem.W.CmpBack (EP X pins σ Q) v s' := by
  cases v with
  | notImplemented =>
    obtain ⟨zv, H', I', rz, q'⟩ := h
    cases zv <;> first | (cases rz; done) | (obtain ⟨_, rz⟩ := rz; cases rz)
  | _ => exact h
theorem ins_plain {a dx : Addr} {fs : List (Str × V)} (I : Inv X pins σ H s) (ha : H a = some (.ins C dx fs)) : ∃ (ox od : Obj), PySem.W.InstAt s.heap a ox C (some od) ∧ Plain s.heap a := by
  obtain ⟨mA, J, _⟩ := ins_get I.hok ha
  have g : Plain s.heap a := ⟨_, _, _, J.1⟩
  obtain ⟨od, J, _⟩ := J.look
  exact ⟨_, od, J, g⟩
/-- a two-place method of C beside an instance of C or an int -/
structure BinF (K : PySem.W.Frag) (C : Addr) (nm : String) : Prop where
  sf : PySem.W.selfFirst K C = true
  rc : ∃ rc, PySem.W.findIn K (.ref C) (dunderR nm) = some rc ∧ (rc = none ∨ ∃ g : Addr, rc = some (.ref g))
  i1 : ∃ fo, PySem.W.findIn K (.type "int") (PySem.dunder nm) = some fo
  i2 : ∃ ro, PySem.W.findIn K (.type "int") (dunderR nm) = some ro
  su : PySem.W.subIn K (.type "int") (.ref C) = some false
def OrInt (H : Hp) (C : Addr) (y : V) : Prop := (∃ b dy gs, y = .ref b ∧ H b = some (.ins C dy gs)) ∨ ∃ j, y = .int j
def rBinO (C : Addr) (sp : Sp) (E : XK) : R2 := fun x y H Q => ∃ a dx fs, x = .ref a ∧ H a = some (.ins C dx fs) ∧ OrInt H C y ∧ sp [x, y] H Q E
theorem op_binO {op : Operator} (M : CmpAt X.prog X.w X.K X.mg X.base CX k C m ps sp) (B : BinF X.K C op.info.2) (hr : Room k X.A) (hx : Passes CX X E) (hm : PySem.dunder op.info.2 = m := by rfl) : OpR X (binaryOp op) (rBinO C sp E) := by
  intro pins s σ H x y v u Q I rx ry h
  obtain ⟨f, fd, hs, hf, F, hb⟩ := M.ex
  obtain ⟨a, dx, fs, rfl, ha, oi, hsp⟩ := h
  obtain rfl : v = Value.ref a := rx
  obtain ⟨ox, od, J, _⟩ := ins_plain I ha
  obtain ⟨m', hF⟩ := I.fr
  subst hm
  have go : wpAny (model X.prog X.w) X.A (call (.ref f) [.ref a, u]) (PySem.W.CmpBack (EP X pins σ Q)) X.xe s := wpAny_mono (run_at (vs := [.ref a, y]) F hb hx (Und.here hr) I (.cons rfl (.cons ry .nil)) hsp) (fun _ _ z => ep_back z) fun _ _ z => z
  rcases oi with ⟨b, dy, gs, rfl, hb'⟩ | ⟨j, rfl⟩
  · obtain rfl : u = Value.ref b := ry
    obtain ⟨oy, od', J', _⟩ := ins_plain I hb'
    exact PySem.W.binop_K hF I.ok.mod.kin J J'.type B.sf hs hf go
  · obtain ⟨t, rfl⟩ := ry
    obtain ⟨rc, r1, r2⟩ := B.rc
    obtain ⟨fo, i1⟩ := B.i1
    obtain ⟨ro, i2⟩ := B.i2
    exact PySem.W.ksp_binT hF I.ok.mod.kin J rfl B.sf hs hf r1 r2 i1 i2 B.su go
/-- an int beside an instance: the reflected method -/
structure RefF (K : PySem.W.Frag) (C : Addr) (nm : String) : Prop where
  sf : PySem.W.selfFirst K C = true
  f0 : ∃ f : Addr, PySem.W.findIn K (.ref C) (PySem.dunder nm) = some (some (.ref f))
  ii : ∃ fo ro, PySem.W.findIn K (.type "int") (PySem.dunder nm) = some fo ∧ PySem.W.findIn K (.type "int") (dunderR nm) = some ro ∧ ((fo.isSome && !isSeqSlot fo) || (ro.isSome && !isSeqSlot ro)) = true
  su : PySem.W.subIn K (.ref C) (.type "int") = some false
def rBinR (C : Addr) (sp : Sp) (E : XK) : R2 := fun x y H Q => ∃ i b dy gs, x = .int i ∧ y = .ref b ∧ H b = some (.ins C dy gs) ∧ sp [y, x] H Q E
theorem op_binR {op : Operator} {id : String} {Bu : Builtin} (M : CmpAt X.prog X.w X.K X.mg X.base CX k C m ps sp) (S : IntSlot X.K op.info.2 id Bu) (B : RefF X.K C op.info.2) (hr : Room k X.A) (hx : Passes CX X E) (hm : dunderR op.info.2 = m := by rfl) : OpR X (binaryOp op) (rBinR C sp E) := by
  intro pins s σ H x y v u Q I rx ry h
  obtain ⟨f, fd, hs, hf, F, hb⟩ := M.ex
  obtain ⟨i, b, dy, gs, rfl, rfl, hb', hsp⟩ := h
  obtain rfl : u = Value.ref b := ry
  obtain ⟨t, rfl⟩ := rx
  obtain ⟨ox, od, J, pl⟩ := ins_plain I hb'
  obtain ⟨m', hF⟩ := I.fr
  subst hm
  obtain ⟨f0, h0⟩ := B.f0
  obtain ⟨fo, ro, i1, i2, i3⟩ := B.ii
  exact binR_K S hF I.ok.mod.kin J pl B.sf h0 hs hf i1 i2 i3 B.su (wpAny_mono (run_at (vs := [.ref b, .int i]) F hb hx (Und.here hr) I (.cons rfl (.cons ⟨t, rfl⟩ .nil)) hsp) (fun _ _ z => ep_back z) fun _ _ z => z)
theorem is_add {K : PySem.W.Frag} : IntSlot K (Operator.info .Add).2 "int.__add__" Builtin.«int.__add__» := ⟨PySem.F.slot_int_add, PySem.F.entry_int_add, PySem.F.args_int_add_2, dec_add⟩
theorem is_sub {K : PySem.W.Frag} : IntSlot K (Operator.info .Sub).2 "int.__sub__" Builtin.«int.__sub__» := ⟨PySem.F.slot_int_sub, PySem.F.entry_int_sub, PySem.F.args_int_sub_2, dec_sub⟩
theorem is_mul {K : PySem.W.Frag} : IntSlot K (Operator.info .Mult).2 "int.__mul__" Builtin.«int.__mul__» := ⟨PySem.F.slot_int_mul, PySem.F.entry_int_mul, PySem.F.args_int_mul_2, dec_mul⟩
/-- an int compared with an instance -/
def rCmpR (C : Addr) (sp : Sp) (E : XK) : R2 := fun x y H Q => ∃ i b dy gs, x = .int i ∧ y = .ref b ∧ H b = some (.ins C dy gs) ∧ sp [y, x] H Q E
theorem op_cmpRv {op : CmpOp} {id : String} {Bu : Builtin} (M : CmpAt X.prog X.w X.K X.mg X.base CX k C m ps sp) (su : PySem.W.subIn X.K (.ref C) (.type "int") = some false) (hr : Room k X.A) (hx : Passes CX X E) (hm : (cmpInfo op).2.2 = m) (hco : ∀ v u, compareOp op v u = richCompare op v u)
    (h1 : ∀ i t b, oneThing? op (.int i t) (.ref b) = none) (sl : Slot "int" (cmpInfo op).2.1 id) (en : entryFor table id = some Bu) (ar : ∀ a b : Value, argsOk id ⟨[a, b], []⟩) (de : ∀ a t l, Declines Bu a t l) : OpR X (compareOp op) (rCmpR C sp E) := by
  intro pins s σ H x y v u Q I rx ry h
  obtain ⟨f, fd, hs, hf, F, hb⟩ := M.ex
  obtain ⟨i, b, dy, gs, rfl, rfl, hb', hsp⟩ := h
  obtain rfl : u = Value.ref b := ry
  obtain ⟨t, rfl⟩ := rx
  obtain ⟨ox, od, J, pl⟩ := ins_plain I hb'
  obtain ⟨m', hF⟩ := I.fr
  subst hm
  rw [hco]
  exact cmpR_K hr.units0 sl en ar de hF I.ok.mod.kin J pl hs hf su (wpAny_mono (run_at (vs := [.ref b, .int i]) F hb hx (Und.here hr) I (.cons rfl (.cons ⟨t, rfl⟩ .nil)) hsp) (fun _ _ z => ep_back z) fun _ _ z => z) (h1 i t b)
theorem op_ltR (M : CmpAt X.prog X.w X.K X.mg X.base CX k C "__gt__" ps sp) (su : PySem.W.subIn X.K (.ref C) (.type "int") = some false) (hr : Room k X.A) (hx : Passes CX X E) : OpR X (compareOp .Lt) (rCmpR C sp E) := op_cmpRv M su hr hx rfl (fun _ _ => rfl) (fun _ _ _ => rfl) PySem.F.slot_int_lt PySem.F.entry_int_lt PySem.F.args_int_lt_2 dec_lt
theorem op_leR (M : CmpAt X.prog X.w X.K X.mg X.base CX k C "__ge__" ps sp) (su : PySem.W.subIn X.K (.ref C) (.type "int") = some false) (hr : Room k X.A) (hx : Passes CX X E) : OpR X (compareOp .LtE) (rCmpR C sp E) := op_cmpRv M su hr hx rfl (fun _ _ => rfl) (fun _ _ _ => rfl) PySem.F.slot_int_le PySem.F.entry_int_le PySem.F.args_int_le_2 dec_le
theorem op_gtR (M : CmpAt X.prog X.w X.K X.mg X.base CX k C "__lt__" ps sp) (su : PySem.W.subIn X.K (.ref C) (.type "int") = some false) (hr : Room k X.A) (hx : Passes CX X E) : OpR X (compareOp .Gt) (rCmpR C sp E) := op_cmpRv M su hr hx rfl (fun _ _ => rfl) (fun _ _ _ => rfl) PySem.F.slot_int_gt PySem.F.entry_int_gt PySem.F.args_int_gt_2 dec_gt
theorem op_geR (M : CmpAt X.prog X.w X.K X.mg X.base CX k C "__le__" ps sp) (su : PySem.W.subIn X.K (.ref C) (.type "int") = some false) (hr : Room k X.A) (hx : Passes CX X E) : OpR X (compareOp .GtE) (rCmpR C sp E) := op_cmpRv M su hr hx rfl (fun _ _ => rfl) (fun _ _ _ => rfl) PySem.F.slot_int_ge PySem.F.entry_int_ge PySem.F.args_int_ge_2 dec_ge
/-- - of an instance -/
def rNegO (C : Addr) (sp : Sp) (E : XK) : V → Hp → VK → Prop := fun x H Q => ∃ a dx fs, x = .ref a ∧ H a = some (.ins C dx fs) ∧ sp [x] H Q E
theorem un_negO (M : CmpAt X.prog X.w X.K X.mg X.base CX k C "__neg__" ps sp) (hr : Room k X.A) (hx : Passes CX X E) : UnR X (unaryOp .USub) (rNegO C sp E) := by
  intro pins s σ H x v Q I rx h
  obtain ⟨f, fd, hs, hf, F, hb⟩ := M.ex
  obtain ⟨a, dx, fs, rfl, ha, hsp⟩ := h
  obtain rfl : v = Value.ref a := rx
  obtain ⟨ox, od, J, _⟩ := ins_plain I ha
  obtain ⟨m', hF⟩ := I.fr
  exact PySem.W.ksp_neg hF I.ok.mod.kin J hs hf (run_at (vs := [.ref a]) F hb hx (Und.here hr) I (.cons rfl .nil) hsp)
/-- str(x) of an instance with its own __str__ -/
def rStrO (C : Addr) (sp : Sp) (E : XK) : List V → Hp → VK → Prop := fun xs H Q => ∃ a dx fs, xs = [.ref a] ∧ H a = some (.ins C dx fs) ∧ sp [.ref a] H (fun v H' => ∃ x, v = .str x ∧ Q v H') E
theorem call_strO (M : CmpAt X.prog X.w X.K X.mg X.base CX k C "__str__" ps sp) (hr : Room (k + 2) X.A) (hx : Passes CX X E) : CallR X (.type "str") (rStrO C sp E) := by
  intro pins s σ H xs us Q I r h
  obtain ⟨f, fd, hs, hf, F, hb⟩ := M.ex
  obtain ⟨a, dx, fs, rfl, ha, hsp⟩ := h
  obtain ⟨u, rfl, r1⟩ := vals1 r
  obtain rfl : u = Value.ref a := r1
  obtain ⟨ox, od, J, _⟩ := ins_plain I ha
  have U : Und X k X.A.in1.in1 := (Und.here hr).in1.in1
  refine PySem.W.kso_call U.room.units0 (I.kIn) J hs hf (wpAny_mono (run_at (vs := [.ref a]) F hb hx U I (.cons rfl .nil) hsp) (fun v s' z => ?_) fun _ _ z => z)
  obtain ⟨z, H', I', rz, x, rfl, q⟩ := z
  obtain ⟨t, rfl⟩ := rz
  exact ⟨.str x, H', I', ⟨t, rfl⟩, q⟩
end
end My
/-! != by an own ==. -/
namespace My
open PySem PySem.Spec PySem.Calls PyProof.Rows L2
theorem slot_one : Slot "object" "__ne__" "object.__ne__" :=
  .of (owner := "object") (n := "__ne__") (by rw [typeLookup_type, builtinLookup_eq_fast]; kernel_rfl) (by decide +kernel) (by decide +kernel) (by decide +kernel) (.inl (by decide +kernel)) (by rw [isSubtype_type]; kernel_rfl)
section
open PySem.W
variable {prog : Program} {w : World} {A : Around} {E : Value → Shared → Prop} {s : Shared} {K : Frag} {x C L f : Addr} {h₀ : Heap} {m : Str → Option Value} {ox : Obj} {od : Option Obj} {b tb : Value}
/-- what an own == hands back, turned about -/
def NotBack (Q : Value → Shared → Prop) (v : Value) (s' : Shared) : Prop := ∃ c, v = .bool c ∧ Q (.bool (!c)) s'
theorem one_call {Q : Value → Shared → Prop} (hu : A.in1.units < cLine) (X : K.In s.heap) (I : InstAt s.heap x ox C od) (hm : mroIn K C (.type "object") = some true) (hs : findIn K (.ref C) "__eq__" = some (some (.ref f))) (hf : isFn K (.ref f) = true)
    (h : wpAny (model prog w) A.in1 (call (.ref f) [.ref x, b]) (NotBack Q) E s) : wpAny (model prog w) A (call (.builtin "object.__ne__") [.ref x, b]) Q E s := by
  refine wpAny_call (codeAny_call_builtin slot_one.plain PySem.F.cmpEntry_ne (check_slot (i := "object.__ne__") (owner := "object") (n := "__ne__") PySem.F.cmpKind_ne PySem.F.cmpSplit_ne (I.type.andThen (looks_mroIn X hm)) (PySem.F.cmpArgs_ne _ _) ?_))
  unfold Builtin.«object.__ne__»
  refine wpAny_bind (m := slotArgs "__ne__" 1 _) (wpAny_pure ?_)
  refine wpAny_bind (m := cRoomFor _ _) (wpAny_cRoomFor hu ?_)
  refine wpAny_bind (m := callSpecialIfBound? (.ref x) (Str.ofString "__eq__") _) (ifBound_K X I hs hf (wpAny_mono h (fun r s' hq => ?_) fun _ _ y => y))
  obtain ⟨c, rfl, hq⟩ := hq
  refine wpAny_bind (m := truthy (.bool c)) (wpAny_truthy_bool ?_)
  exact wpAny_pure hq
theorem ne_K {Q : Value → Shared → Prop} (hu : A.units < cLine) (hu1 : A.in1.units < cLine) (F : Fr h₀ L s.heap m) (X₀ : K.In h₀) (I : InstAt s.heap x ox C od) (hb : Looks (model prog w) s.heap (typeOf b) tb) (hn : notFirst K C tb = true)
    (hm : mroIn K C (.type "object") = some true) (h1 : findIn K (.ref C) "__ne__" = some (some (.builtin "object.__ne__"))) (hs : findIn K (.ref C) "__eq__" = some (some (.ref f))) (hf : isFn K (.ref f) = true)
    (h : wpAny (model prog w) A.in1 (call (.ref f) [.ref x, b]) (NotBack Q) E s) : wpAny (model prog w) A (richCompare .NotEq (.ref x) b) Q E s := by
  have X := X₀.keeps F.keep
  have one : wpAny (model prog w) A (tryCompare (.ref x) "__ne__" b) (fun r s' => ∃ v, r = some v ∧ Q v s') E s := by
    unfold tryCompare
    refine wpAny_bind ?_
    simp only [callSpecialIfBound?, bindSpecialIfBound?]
    refine wpAny_holding (wpAny_bind (wpAny_bind (wpAny_bind (I.type.here ((looks_findIn X h1).here ?_)))))
    refine wpAny_bind (wpAny_askSetting (wpAny_ite ?_))
    have fin : wpAny (model prog w) A (call (.builtin "object.__ne__") ([.ref x] ++ [b]) >>= fun v => pure (some v)) (fun r s' => wpAny (model prog w) A (match r with | some .notImplemented | none => pure none | some v => pure (some v)) (fun r s' => ∃ v, r = some v ∧ Q v s') E s') E s := by
      refine wpAny_bind (one_call hu1 X I hm hs hf (wpAny_mono h (fun v s' z => ?_) fun _ _ z => z))
      obtain ⟨c, rfl, hq⟩ := z
      exact ⟨c, rfl, wpAny_pure (wpAny_pure ⟨_, rfl, hq⟩)⟩
    split
    · exact wpAny_bind ((Looks.of_pure (slot_one.bind (.ref x))).here (wpAny_pure (by exact fin)))
    · exact wpAny_tryCatch (wpAny_bind ((Looks.of_pure (slot_one.bind (.ref x))).here (wpAny_pure (by exact fin))))
  unfold richCompare
  simp only [oneThing_ref]
  refine wpAny_holding (wpAny_bind (wpAny_cRoomFor hu ?_))
  refine wpAny_bind (I.type.here (wpAny_bind (hb.here ?_)))
  split
  · rename_i q
    have e : subIn K tb (.ref C) = some false := by
      rcases Bool.or_eq_true_iff.mp hn with e | e
      · rw [beq_iff_eq.mp e] at q; simp at q
      · exact beq_iff_eq.mp e
    refine wpAny_bind ((looks_subIn X e).here ?_)
    simp only [Bool.false_eq_true, if_false]
    refine wpAny_bind (wpAny_mono one (fun r s' z => ?_) fun _ _ e => e)
    obtain ⟨v, rfl, hq⟩ := z
    exact wpAny_pure hq
  · refine wpAny_bind (wpAny_pure ?_)
    simp only [Bool.false_eq_true, if_false]
    refine wpAny_bind (wpAny_mono one (fun r s' z => ?_) fun _ _ e => e)
    obtain ⟨v, rfl, hq⟩ := z
    exact wpAny_pure hq
end
section
variable {X : Cx} {CX : CXT} {k : Nat} {ps : List Str} {sp : Sp} {E : XK} {C : Addr}
def rNeO (K : PySem.W.Frag) (C : Addr) (sp : Sp) (E : XK) : R2 := fun x y H Q => ∃ a dx fs t, x = .ref a ∧ H a = some (.ins C dx fs) ∧ TyX K H y t ∧ PySem.W.notFirst K C t = true ∧ sp [.ref a, y] H (fun v H' => ∃ b, v = .bl b ∧ Q (.bl (!b)) H') E
theorem op_neO (M : CmpAt X.prog X.w X.K X.mg X.base CX k C "__eq__" ps sp) (hm : PySem.W.mroIn X.K C (.type "object") = some true) (h1 : PySem.W.findIn X.K (.ref C) "__ne__" = some (some (.builtin "object.__ne__"))) (hr : Room (k + 1) X.A) (hx : Passes CX X E) : OpR X (compareOp .NotEq) (rNeO X.K C sp E) := by
  intro pins s σ H x y v u Q I rx ry h
  obtain ⟨f, fd, hs, hf, F, hb⟩ := M.ex
  obtain ⟨a, dx, fs, t, rfl, ha, ty, hn, hsp⟩ := h
  obtain rfl : v = Value.ref a := rx
  obtain ⟨ox, od, J, _⟩ := ins_plain I ha
  obtain ⟨m', hF⟩ := I.fr
  obtain ⟨Pz, Z, pz, _⟩ := kit_of I ry ty
  have U : Und X k X.A.in1 := (Und.here hr).in1
  refine ne_K hr.units0 U.room.units0 hF I.ok.mod.kin J (Z.ty _ _ I.kIn pz) hn hm h1 hs hf (wpAny_mono (run_at (vs := [.ref a, y]) F hb hx U I (.cons rfl (.cons ry .nil)) hsp) (fun v s' z => ?_) fun _ _ z => z)
  obtain ⟨z, H', I', rz, b, rfl, q⟩ := z
  obtain rfl : v = Value.bool b := rz
  exact ⟨b, rfl, .bl (!b), H', I', rfl, q⟩
end
end My
/-! Static methods by the class's name; ints divided by ints of any sign; lists beside the empty one. -/
namespace My
open PySem PySem.Spec PySem.Calls PyProof.Rows L2
/-- C.m is a staticmethod with the def at f -/
structure Stat (K : PySem.W.Frag) (C : Addr) (m : Str) (f : Addr) : Prop where
  ga : PySem.W.specialIn K (.ref C) "__getattribute__" = some (some (.builtin "type.__getattribute__"))
  rc : ∃ (mc : Value) (p : Addr) (rest : List Value), PySem.W.readsIn K C mc = true ∧ PySem.W.findCls K (.ref C) mc m = some (.get (.builtin "staticmethod.__get__") (.ref p) .none (.ref C)) ∧ PySem.W.recIn K p "staticmethod" = some (.ref f :: rest)
  kp : PySem.W.keepIn K (.ref f) = true
structure StatAt (P : Program) (w : World) (K : PySem.W.Frag) (mg : Str → Option Value) (base : Heap) (CX : CXT) (k : Nat) (C : Addr) (m : Str) (ps : List Str) (sp : Sp) : Prop where
  ex : ∃ f fd, Stat K C m f ∧ FnOk P w K mg base CX k f fd ps sp ∧ L2.Binds K fd ps []
structure StatK (P : Program) (w : World) (K : PySem.W.Frag) (mg : Str → Option Value) (base : Heap) (CX : CXT) (k : Nat) (C : Addr) (m : Str) (ps ks : List Str) (sp : Sp) (gV : List V → List V → List V) : Prop where
  ex : ∃ f fd g, Stat K C m f ∧ FnOk P w K mg base CX k f fd ps sp ∧ KBn K fd ps 0 ks g gV
section
variable {X : Cx} {CX : CXT} {k : Nat} {C : Addr} {ps ks : List Str} {sp : Sp} {E : XK} {m : Str} {e o : Expr} {es : List Expr} {kws : List Keyword} {t tk : TA} {ta : TE} {pos apos : Pos} {gV : List V → List V → List V}
theorem getstat_ok {pins : List (Addr × Obj)} {σ : L2.St} {H : Hp} {s : Shared} {f : Addr} {pl : Sem Bool} {A : Around} {Er : Value → Shared → Prop} {Q : Value × List Value → Shared → Prop} (I : Inv X pins σ H s) (c : Stat X.K C m f) (h : ∀ s', Inv X pins σ H s' → Q (.ref f, []) s') : wpAny (model X.prog X.w) A (getMethod (.ref C) m pl) Q Er s := by
  obtain ⟨mc, p, rest, h1, h2, h3⟩ := c.rc
  refine PySem.W.method_cls I.kIn c.ga (PySem.W.cls_bind I.kIn h1 h2 ?_)
  exact wpAny_call (PySem.W.sm_get (s := { s with toks := s.toks + 1 }) I.kIn h3 (PySem.W.handed_on rfl (h _ (I.tok _))))
def tStat (C : Addr) (sp : Sp) (E : XK) (ta : TE) (t : TA) : TE := fun σ H Q => ta σ H fun x H1 => x = .ref C ∧ t σ H1 fun vs H2 => sp vs H2 Q E
theorem pe_st {pl : Sem Bool} (M : StatAt X.prog X.w X.K X.mg X.base CX k C m ps sp) (hr : Room k X.A) (hx : Passes CX X E) (he : PE X o ta) (ha : PA X (e :: es) t)
    (hst : starEach (e :: es) X.env = (false, eval e X.env) :: starEach es X.env := by rfl) (hpl : (backTo pos (starEach es X.env)).any (·.1) = false := by rfl)
    (ht : eval (.Call (.Attribute o m apos) (e :: es) [] pos) X.env = (do
      let ov ← eval o X.env
      standAt apos.atName
      let (f, first) ← holding [ov] (getMethod ov m pl)
      callWith pos f first (backTo pos (starEach (e :: es) X.env)) (backToKw pos (keywordEach [] X.env))) := by rfl) :
    PE X (.Call (.Attribute o m apos) (e :: es) [] pos) (tStat C sp E ta t) := by
  obtain ⟨f, fd, c, F, b⟩ := M.ex
  refine ⟨fun pins s σ H Q I h => ?_⟩
  refine PySem.W.methodCall_KW (pl := pl) (thn (he.run pins s σ H _ I h) fun u s1 ⟨x, H1, I1, rx, ex, q⟩ => ?_) ht
  subst ex
  obtain rfl : u = Value.ref C := rx
  refine getstat_ok I1 c fun s1 I1 => ?_
  refine PySem.W.callWith_K (first := []) (h₀ := X.base) I.ok.mod.kin c.kp (thn (ha.run pos pins s1 σ H1 _ I1 q) fun us s2 ⟨vs, H2, I2, r, q2⟩ => ⟨I2.kIn, ?_⟩) hst hpl
  exact run_fn (us := us) (vs := vs) F hr b .nil hx I2 r (by rw [List.append_nil]; exact q2)
def tStatK (C : Addr) (j : Nat) (sp : Sp) (gV : List V → List V → List V) (E : XK) (ta : TE) (tk : TA) : TE := fun σ H Q => ta σ H fun x H1 => x = .ref C ∧ tk σ H1 fun zs H2 => zs.length = j ∧ sp (gV [] zs) H2 Q E
theorem pe_stK {pl : Sem Bool} (M : StatK X.prog X.w X.K X.mg X.base CX k C m ps ks sp gV) (hr : Room k X.A) (hx : Passes CX X E) (he : PE X o ta) (hkw : PK X kws tk)
    (hall : (backToKw pos (keywordEach kws X.env)).all (·.1.isSome) = true := by rfl) (hks : (backToKw pos (keywordEach kws X.env)).filterMap (·.1) = ks := by rfl)
    (hpl : ((backTo pos (starEach [] X.env)).any (·.1) || (backToKw pos (keywordEach kws X.env)).any (·.1.isNone)) = false := by rfl)
    (ht : eval (.Call (.Attribute o m apos) [] kws pos) X.env = (do
      let ov ← eval o X.env
      standAt apos.atName
      let (f, first) ← holding [ov] (getMethod ov m pl)
      callWith pos f first (backTo pos (starEach [] X.env)) (backToKw pos (keywordEach kws X.env))) := by rfl) :
    PE X (.Call (.Attribute o m apos) [] kws pos) (tStatK C ks.length sp gV E ta tk) := by
  obtain ⟨f, fd, g, c, F, b⟩ := M.ex
  refine ⟨fun pins s σ H Q I h => ?_⟩
  refine PySem.W.methodCall_KW (pl := pl) (thn (he.run pins s σ H _ I h) fun u s1 ⟨x, H1, I1, rx, ex, q⟩ => ?_) ht
  subst ex
  obtain rfl : u = Value.ref C := rx
  refine getstat_ok I1 c fun s1 I1 => ?_
  refine PySem.W.callWith_KW0 (first := []) (h₀ := X.base) I.ok.mod.kin c.kp hall (thn (hkw.run pos pins s1 σ H1 _ I1 q) fun ws s2 ⟨zs, H2, I2, rz, l2, q2⟩ => ⟨I2.kIn, ?_⟩) hpl
  rw [hks]
  exact run_fnN (us := []) (vs := []) F hr b hx I2 .nil rz rfl l2 q2
/-! ### // and % by any int but 0 -/
def CDivX (_ j : Int) : Prop := j ≠ 0 ∧ j.natAbs.log2 < 9000
theorem op_fdivX : OpR X (binaryOp .FloorDiv) (rI CDivX fun i j => .int (i.fdiv j)) := opI fun _ _ _ _ _ _ _ hc q => floordiv_int hc.1 q (.inl (PyProof.noPylong_of_log2 hc.2))
/-! ### lists of unlike lengths -/
def rEqL : R2 := fun x y H Q => ∃ l b xs ys, x = .ref l ∧ y = .ref b ∧ H l = some (.lst xs) ∧ H b = some (.lst ys) ∧ xs.length ≠ ys.length ∧ Q (.bl false) H
theorem op_eqL (hu : X.A.units < cLine) : OpR X (compareOp .Eq) rEqL := by
  intro pins s σ H x y v u Q I rx ry h
  obtain ⟨l, b, xs, ys, rfl, rfl, h1, h2, hn, q⟩ := h
  obtain rfl : v = Value.ref l := rx
  obtain rfl : u = Value.ref b := ry
  obtain ⟨z, its, n, r, hl, e⟩ := I.lstM h1
  obtain ⟨z2, its2, n2, r2, hl2, e2⟩ := I.lstM h2
  have hs : (its.toArray.size != its2.toArray.size) = true := by
    have a1 := r.length
    have a2 := r2.length
    simp only [List.size_toArray, bne_iff_ne, ne_eq]
    omega
  show wpAny (model X.prog X.w) X.A (richCompare .Eq (.ref l) (.ref b)) _ _ s
  refine wpAny_richCompare_same_room (op := .Eq) ⟨_, e, rfl⟩ ⟨_, e2, rfl⟩ PySem.F.slot_list_eq (call_meets PySem.F.slot_list_eq ⟨_, e, rfl⟩ PySem.F.entry_list_eq (PySem.F.args_list_eq_2 _ _) (AutoSeq1.list___eq___list_list_0 l its.toArray n b its2.toArray n2 hs) ⟨e, e2, ?_⟩) hu
  exact ⟨(fun x => nomatch x), .bl false, H, I, rfl, q⟩
end
end My
/-! The order of two pairs of ints; two promises of one def. -/
namespace My
open PySem PySem.Spec PySem.Calls PyProof.Rows L2
def ordP (r : Int → Int → Bool) (z : Bool) (a b c d : Int) : Bool := if a = c then (if b = d then z else r b d) else r a c
def rOrd (K : PySem.W.Frag) (r : Int → Int → Bool) (z : Bool) : R2 := fun x y H Q => ∃ (l m : Addr) (a b c d : Int), x = .ref l ∧ y = .ref m ∧ SqT K H l [.int a, .int b] ∧ SqT K H m [.int c, .int d] ∧ Q (.bl (ordP r z a b c d)) H
theorem int_here {s : Shared} {A : Around} (a c : Int) (t u : Tok) : SeqAt.EqAt A s (.int a t) (.int c u) (decide (a = c)) := by
  have e : (a == c) = decide (a = c) := by
    by_cases q : a = c
    · rw [decide_eq_true q]; exact beq_iff_eq.mpr q
    · rw [decide_eq_false q]; exact beq_eq_false_iff_ne.mpr q
  rw [← e]
  exact SeqAt.EqAt.int_int _ _ _ _
theorem op_ordV {X : Cx} {op : CmpOp} {r : Int → Int → Bool} {z : Bool} (hco : ∀ v u, compareOp op v u = richCompare op v u)
    (tup : ∀ {A : Around} {s : Shared} {l b : Addr} {is js : Array Value} {e r : Nat → Bool}, s.heap.IsTuple l is → s.heap.IsTuple b js → A.units < cLine → is.size = 2 → js.size = 2 → (∀ j (h1 : j < is.size) (h2 : j < js.size), SeqAt.EqAt A.in1 s is[j] js[j] (e j)) →
      (∀ j (h1 : j < is.size) (h2 : j < js.size), e j = false → Ob.RcOp op A.in1 s is[j] js[j] (r j)) → Ob.RcOp op A s (.ref l) (.ref b) (Ob.lexAt e r z 0 2))
    (int : ∀ {A : Around} {s : Shared} (a b : Int) (t u : Tok), Ob.RcOp op A s (.int a t) (.int b u) (r a b)) (hu : X.A.units < cLine) : OpR X (compareOp op) (rOrd X.K r z) := by
  intro pins s σ H x y v u Q I rx ry h
  obtain ⟨l, m, a, b, c, d, rfl, rfl, hl, hm, q⟩ := h
  obtain rfl : v = Value.ref l := rx
  obtain rfl : u = Value.ref m := ry
  obtain ⟨is, r1, p1, _⟩ := I.tuple hl
  obtain ⟨js, r2, p2, _⟩ := I.tuple hm
  cases r1 with
  | cons ra r1 =>
    cases r1 with
    | cons rb r1 =>
      cases r1
      cases r2 with
      | cons rc r2 =>
        cases r2 with
        | cons rd r2 =>
          cases r2
          obtain ⟨ta, rfl⟩ := ra
          obtain ⟨tb, rfl⟩ := rb
          obtain ⟨tc, rfl⟩ := rc
          obtain ⟨td, rfl⟩ := rd
          have R := tup (A := X.A) (s := s) (e := fun j => if j = 0 then decide (a = c) else decide (b = d)) (r := fun j => if j = 0 then r a c else r b d) p1 p2 hu rfl rfl (fun j h1 h2 => by
            match j, h1 with
            | 0, _ => exact int_here a c ta tc
            | 1, _ => exact int_here b d tb td) (fun j h1 h2 _ => by
            match j, h1 with
            | 0, _ => exact int a c ta tc
            | 1, _ => exact int b d tb td)
          rw [hco]
          refine R X.prog X.w X.xe (EP X pins σ Q) ⟨.bl _, H, I, rfl, ?_⟩
          have e : Ob.lexAt (fun j => if j = 0 then decide (a = c) else decide (b = d)) (fun j => if j = 0 then r a c else r b d) z 0 2 = ordP r z a b c d := by
            unfold ordP
            simp only [Ob.lexAt_succ, Ob.lexAt_zero]
            by_cases h1 : a = c
            · by_cases h2 : b = d
              · simp [h1, h2]
              · simp [h1, h2]
            · simp [h1]
          rw [e]
          exact q
section
variable {X : Cx}
theorem op_ltP (hu : X.A.units < cLine) : OpR X (compareOp .Lt) (rOrd X.K (fun i j => decide (i < j)) false) := op_ordV (fun _ _ => rfl) (fun {A s l b is js e r} h1 h2 h3 h4 h5 h6 h7 => by have z := Ob.RcOp.tuples_lt h1 h2 h3 h6 h7; rw [h4, h5] at z; exact z) (fun a b t u => Ob.RcOp.lt_int a b t u) hu
theorem op_leP (hu : X.A.units < cLine) : OpR X (compareOp .LtE) (rOrd X.K (fun i j => decide (i ≤ j)) true) := op_ordV (fun _ _ => rfl) (fun {A s l b is js e r} h1 h2 h3 h4 h5 h6 h7 => by have z := Ob.RcOp.tuples_le h1 h2 h3 h6 h7; rw [h4, h5] at z; exact z) (fun a b t u => Ob.RcOp.le_int a b t u) hu
theorem op_gtP (hu : X.A.units < cLine) : OpR X (compareOp .Gt) (rOrd X.K (fun i j => decide (j < i)) false) := op_ordV (fun _ _ => rfl) (fun {A s l b is js e r} h1 h2 h3 h4 h5 h6 h7 => by have z := Ob.RcOp.tuples_gt h1 h2 h3 h6 h7; rw [h4, h5] at z; exact z) (fun a b t u => Ob.RcOp.gt_int a b t u) hu
theorem op_geP (hu : X.A.units < cLine) : OpR X (compareOp .GtE) (rOrd X.K (fun i j => decide (j ≤ i)) true) := op_ordV (fun _ _ => rfl) (fun {A s l b is js e r} h1 h2 h3 h4 h5 h6 h7 => by have z := Ob.RcOp.tuples_ge h1 h2 h3 h6 h7; rw [h4, h5] at z; exact z) (fun a b t u => Ob.RcOp.ge_int a b t u) hu
end
/-! ### within a comprehension -/
theorem op_cmpB {X : Cx} {K : PySem.W.Frag} {CX : CXT} {k : Nat} {C : Addr} {m : Str} {ps : List Str} {sp : Sp} {E : XK} {op : CmpOp} (hK : X.K = K) (M : CmpAt X.prog X.w X.K X.mg X.base CX k C m ps sp) (hr : Room k X.A) (hx : Passes CX X E) (hop : (cmpInfo op).2.1 = m := by rfl)
    (hco : ∀ v u, compareOp op v u = richCompare op v u := by intro _ _; rfl) : OpR X (compareOp op) (rCmpO K C sp E) := by
  subst hK
  exact op_cmpO M hr hx hop hco
/-! ### a def that keeps two promises -/
def spOr (s1 s2 : Sp) : Sp := fun vs H Q E => s1 vs H Q E ∨ s2 vs H Q E
section
variable {P : Program} {w : World} {K : PySem.W.Frag} {mg : Str → Option Value} {base : Heap} {CX : CXT} {k : Nat} {f : Addr} {fd : FuncData} {ps : List Str} {s1 s2 : Sp}
theorem ok_or (h1 : FnOk P w K mg base CX k f fd ps s1) (h2 : FnOk P w K mg base CX k f fd ps s2) : FnOk P w K mg base CX k f fd ps (spOr s1 s2) :=
  ⟨fun vs H Q E h => h.elim (h1.len vs H Q E) (h2.len vs H Q E), fun A outer s H args us vs Q E hr e0 hb r h => h.elim (h1.run A outer s H args us vs Q E hr e0 hb r) (h2.run A outer s H args us vs Q E hr e0 hb r)⟩
theorem okG_or (h1 : FnG P w K mg base CX k f fd ps s1) (h2 : FnG P w K mg base CX k f fd ps s2) : FnG P w K mg base CX k f fd ps (spOr s1 s2) :=
  ⟨fun vs H Q E h => h.elim (h1.len vs H Q E) (h2.len vs H Q E), fun A outer s H args us vs Q E hg hr e0 hb r h => h.elim (h1.run A outer s H args us vs Q E hg hr e0 hb r) (h2.run A outer s H args us vs Q E hg hr e0 hb r)⟩
end
end My
/-! Signs in place; an instance called by keywords; what a comprehension may hold. -/
namespace My
open PySem PySem.Spec PySem.Calls PyProof.Rows L2
section
open PySem.W
variable {prog : Program} {w : World} {M : Model} {A : Around} {E : Value → Shared → Prop} {s : Shared} {K : Frag} {x C L f : Addr} {h₀ : Heap} {m : Str → Option Value} {ox : Obj} {od : Option Obj} {nm : String}
/-- beside one of its own class -/
theorem bin1_S {b : Value} {Q : Value → Shared → Prop} (X : K.In s.heap) (I : InstAt s.heap x ox C od) (hb : Looks (model prog w) s.heap (typeOf b) (.ref C)) (hc : selfFirst K C = true) (hs : findIn K (.ref C) (PySem.dunder nm) = some (some (.ref f))) (hf : isFn K (.ref f) = true)
    (h : wpAny (model prog w) A (call (.ref f) [.ref x, b]) (PySem.W.CmpBack Q) E s) : wpAny (model prog w) A (binaryOp1 nm (.ref x) b) (fun r s' => ∃ v, r = some v ∧ Q v s') E s := by
  obtain ⟨cd, rest, hcd, hm⟩ := ksp_first hc
  have one := ksp_try X I hs hf h
  obtain ⟨hh, g, d, tt, os⟩ := s
  have L1 : Looks (model prog w) hh (typeOf (.ref x)) (.ref C) := I.type
  have L2 : Looks (model prog w) hh (typeOf b) (.ref C) := hb
  have L3 : Looks (model prog w) hh (fillsNumberSlot (.ref C) nm) true := fills_K X hcd hm hs
  unfold binaryOp1
  refine wpAny_bind (L1.at (wpAny_bind (L2.at (wpAny_bind (L3.at ?_)))))
  simp only [beq_self_eq_true, if_true]
  ksp_lk
  refine wpAny_mono one (fun r s' hr' => ?_) fun _ _ e => e
  obtain ⟨v, rfl, hq⟩ := hr'
  ksp_lk
  exact ⟨v, rfl, hq⟩
/-- beside a value of a built-in type -/
theorem bin1_T {T : String} {b : Value} {fo ro rc : Option Value} {Q : Value → Shared → Prop} (X : K.In s.heap) (I : InstAt s.heap x ox C od) (hb : typeOf b = pure (.type T)) (hc : selfFirst K C = true)
    (hs : findIn K (.ref C) (PySem.dunder nm) = some (some (.ref f))) (hf : isFn K (.ref f) = true) (hr : findIn K (.ref C) (dunderR nm) = some rc) (hp : rc = none ∨ ∃ g : Addr, rc = some (.ref g))
    (h1 : findIn K (.type T) (PySem.dunder nm) = some fo) (h2 : findIn K (.type T) (dunderR nm) = some ro) (hsub : subIn K (.type T) (.ref C) = some false)
    (h : wpAny (model prog w) A (call (.ref f) [.ref x, b]) (PySem.W.CmpBack Q) E s) : wpAny (model prog w) A (binaryOp1 nm (.ref x) b) (fun r s' => ∃ v, r = some v ∧ Q v s') E s := by
  obtain ⟨cd, rest, hcd, hm⟩ := ksp_first hc
  have one := ksp_try X I hs hf h
  obtain ⟨hh, g, d, tt, os⟩ := s
  have L1 : Looks (model prog w) hh (typeOf (.ref x)) (.ref C) := I.type
  have L2 : Looks (model prog w) hh (typeOf b) (.type T) := Looks.of_pure hb
  have L3 : Looks (model prog w) hh (fillsNumberSlot (.ref C) nm) true := fills_K X hcd hm hs
  have L4 : Looks (model prog w) hh (fillsNumberSlot (.type T) nm) ((fo.isSome && !isSeqSlot fo) || (ro.isSome && !isSeqSlot ro)) := ksp_fillsT X h1 h2
  have L5 : Looks (model prog w) hh (isSubtype (.type T) (.ref C)) false := looks_subIn X hsub
  have L6 : Looks (model prog w) hh (numberSlotInPython (.ref C) nm) true := ksp_inPy X hs hr hp
  have L7 : Looks (model prog w) hh (numberSlotInPython (.type T) nm) false := Looks.of_pure rfl
  have L8 : Looks (model prog w) hh (typeLookup (.type T) (dunderR nm)) ro := looks_findIn X h2
  generalize ((fo.isSome && !isSeqSlot fo) || (ro.isSome && !isSeqSlot ro)) = right at L4
  have hne : (Value.ref C == Value.type T) = false := Bool.eq_false_iff.mpr fun q => by cases beq_iff_eq.mp q
  unfold binaryOp1
  refine wpAny_bind (L1.at (wpAny_bind (L2.at (wpAny_bind (L3.at ?_)))))
  simp only [hne, Bool.false_eq_true, if_false]
  cases right with
  | false =>
    ksp_lk
    refine wpAny_mono one (fun r s' hr' => ?_) fun _ _ e => e
    obtain ⟨v, rfl, hq⟩ := hr'
    ksp_lk
    exact ⟨v, rfl, hq⟩
  | true =>
    ksp_lk
    refine wpAny_mono one (fun r s' hr' => ?_) fun _ _ e => e
    obtain ⟨v, rfl, hq⟩ := hr'
    ksp_lk
    exact ⟨v, rfl, hq⟩
/-- the class has no slot in place -/
theorem noInplace {h : Heap} {cd : ClassData} {add : Bool} (X : K.In h) (hc : clsIn K C = some cd) (hm : cd.mro = [.ref C, .type "object"]) (h1 : findIn K (.ref C) (dunderI nm) = some none) (h2 : findIn K (.type "object") (dunderI nm) = some none) : Looks M h (fillsInplaceSlot (.ref C) nm add) false := by
  intro A Q E s k q
  have Lm : Looks M h (mroOf (.ref C)) cd.mro := (looks_clsIn X hc).andThen (f := fun cd => pure cd.mro) .now
  have Lm' := Lm.keeps k
  obtain ⟨hh, g, d, tt, os⟩ := s
  have X' : K.In hh := X.keeps k
  have L1 : Looks M hh (typeLookup (.ref C) (dunderI nm)) none := looks_findIn X' h1
  have L2 : Looks M hh (typeLookup (.type "object") (dunderI nm)) none := looks_findIn X' h2
  unfold fillsInplaceSlot
  refine wpAny_bind (Lm'.at ?_)
  rw [hm, List.anyM_cons]
  refine wpAny_bind ?_
  repeat lk
  exact q
theorem inpl_K {op : Operator} {b : Value} {Q : Value → Shared → Prop} {cd : ClassData} (X : K.In s.heap) (I : InstAt s.heap x ox C od) (hc : clsIn K C = some cd) (hm : cd.mro = [.ref C, .type "object"]) (h1 : findIn K (.ref C) (dunderI op.info.2) = some none) (h2 : findIn K (.type "object") (dunderI op.info.2) = some none)
    (h : wpAny (model prog w) A (binaryOp1 op.info.2 (.ref x) b) (fun r s' => ∃ v, r = some v ∧ Q v s') E s) : wpAny (model prog w) A (inplaceOp op (.ref x) b) Q E s := by
  have L2 : Looks (model prog w) s.heap (fillsInplaceSlot (.ref C) op.info.2 (op == .Add)) false := noInplace X hc hm h1 h2
  unfold inplaceOp
  refine wpAny_holding ?_
  dsimp only
  refine wpAny_bind (I.type.here (wpAny_bind (L2.here ?_)))
  simp only [Bool.false_eq_true, if_false]
  refine wpAny_bind (wpAny_mono h (fun r s' z => ?_) fun _ _ e => e)
  obtain ⟨v, rfl, hq⟩ := z
  exact wpAny_pure hq
end
/-- the class has no slot in place -/
structure InpF (K : PySem.W.Frag) (C : Addr) (nm : String) : Prop where
  mro : ∃ cd, PySem.W.clsIn K C = some cd ∧ cd.mro = [.ref C, .type "object"]
  no1 : PySem.W.findIn K (.ref C) (dunderI nm) = some none
  no2 : PySem.W.findIn K (.type "object") (dunderI nm) = some none
section
variable {X : Cx} {CX : CXT} {k : Nat} {ps ks : List Str} {sp : Sp} {E : XK} {C : Addr} {m : Str}
theorem iop_O {op : Operator} (M : CmpAt X.prog X.w X.K X.mg X.base CX k C m ps sp) (B : BinF X.K C op.info.2) (N : InpF X.K C op.info.2) (hr : Room k X.A) (hx : Passes CX X E) (hm : PySem.dunder op.info.2 = m := by rfl) : OpR X (inplaceOp op) (rBinO C sp E) := by
  intro pins s σ H x y v u Q I rx ry h
  obtain ⟨f, fd, hs, hf, F, hb⟩ := M.ex
  obtain ⟨a, dx, fs, rfl, ha, oi, hsp⟩ := h
  obtain rfl : v = Value.ref a := rx
  obtain ⟨ox, od, J, _⟩ := ins_plain I ha
  obtain ⟨cd, c1, c2⟩ := N.mro
  subst hm
  have go : wpAny (model X.prog X.w) X.A (call (.ref f) [.ref a, u]) (PySem.W.CmpBack (EP X pins σ Q)) X.xe s := wpAny_mono (run_at (vs := [.ref a, y]) F hb hx (Und.here hr) I (.cons rfl (.cons ry .nil)) hsp) (fun _ _ z => ep_back z) fun _ _ z => z
  refine inpl_K I.kIn J c1 c2 N.no1 N.no2 ?_
  rcases oi with ⟨b, dy, gs, rfl, hb'⟩ | ⟨j, rfl⟩
  · obtain rfl : u = Value.ref b := ry
    obtain ⟨oy, od', J', _⟩ := ins_plain I hb'
    exact bin1_S I.kIn J J'.type B.sf hs hf go
  · obtain ⟨t, rfl⟩ := ry
    obtain ⟨rc, r1, r2⟩ := B.rc
    obtain ⟨fo, i1⟩ := B.i1
    obtain ⟨ro, i2⟩ := B.i2
    exact bin1_T I.kIn J rfl B.sf hs hf r1 r2 i1 i2 B.su go
/-! ### an instance called -/
/-- f(e, ..), told without the context -/
def tCallI (C : Addr) (sp : Sp) (E : XK) (tf : TE) (t : TA) : TE := fun σ H Q => tf σ H fun y H1 => ∃ a, y = V.ref a ∧ t σ H1 fun vs H2 => (∃ dx fs, H2 a = some (.ins C dx fs)) ∧ sp (V.ref a :: vs) H2 Q E
theorem pe_clI {fe e : Expr} {es : List Expr} {tf : TE} {t : TA} {pos : Pos} (M : CallAt X.prog X.w X.K X.mg X.base CX k C ps sp) (hr : Room k X.A) (hx : Passes CX X E) (hf : PE X fe tf) (ha : PA X (e :: es) t)
    (ht : eval (.Call fe (e :: es) [] pos) X.env = (do callWith pos (← eval fe X.env) [] (backTo pos (starEach (e :: es) X.env)) (backToKw pos (keywordEach [] X.env))) := by rfl)
    (hs : starEach (e :: es) X.env = (false, eval e X.env) :: starEach es X.env := by rfl) (hpl : (backTo pos (starEach es X.env)).any (·.1) = false := by rfl) : PE X (.Call fe (e :: es) [] pos) (tCallI C sp E tf t) := by
  obtain ⟨f, fd, c, F, b⟩ := M.ex
  refine ⟨fun pins s σ H Q I h => ?_⟩
  refine Call_ (thn (hf.run pins s σ H _ I h) fun u s1 ⟨y, H1, I1, ry, a, ey, q⟩ => ?_) ht
  subst ey
  obtain rfl : u = Value.ref a := ry
  refine StX.callO_with (thn (ha.run pos pins s1 σ H1 _ I1 q) fun us s2 ⟨vs, H2, I2, r, ⟨dx, fs, hi⟩, q2⟩ => ?_) hs hpl
  obtain ⟨ox, od, J, hd⟩ := StX.insC_at (X := X) I2 (.inr ⟨dx, fs, hi⟩)
  refine ⟨⟨C, ox, od, J, hd⟩, ?_⟩
  have hl : (Value.ref a :: us ++ []).length = ps.length := by
    rw [List.append_nil, List.length_cons, ← r.length]
    exact F.len _ _ _ _ q2
  have bd := b s2 (.ref a :: us) I2.kIn hl
  rw [List.append_nil] at bd
  refine wpAny_call (PySem.W.kco_code I2.kIn J hd c.at_ c.fn c.fi (codeAny_mono (F.run X.A X.stack s2 H2 ⟨.ref a :: us, []⟩ (.ref a :: us) (.ref a :: vs) _ E hr I2.env0 bd (.cons rfl r) q2) fun r s' hq => ?_))
  match r, hq with
  | .error e, hq => exact hx pins σ H2 s2 e s' I2 hq
  | .ok (.ret z), hq => exact I2.after hq
  | .ok .next, hq => exact False.elim hq
  | .ok .brk, hq => exact False.elim hq
  | .ok .cont, hq => exact False.elim hq
structure CallK (P : Program) (w : World) (K : PySem.W.Frag) (mg : Str → Option Value) (base : Heap) (CX : CXT) (k : Nat) (C : Addr) (ps ks : List Str) (sp : Sp) (gV : List V → List V → List V) : Prop where
  ex : ∃ f fd g, StX.CallO K C f ∧ FnOk P w K mg base CX k f fd ps sp ∧ KBn K fd ps 1 ks g gV
def tCallK (C : Addr) (j : Nat) (sp : Sp) (gV : List V → List V → List V) (E : XK) (tf : TE) (tk : TA) : TE := fun σ H Q => tf σ H fun y H1 => ∃ a, y = V.ref a ∧ tk σ H1 fun zs H2 => zs.length = j ∧ (∃ dx fs, H2 a = some (.ins C dx fs)) ∧ sp (gV [.ref a] zs) H2 Q E
/-- the call's node where the callee is an instance, keywords alone -/
theorem callO_kw {M : Model} {A : Around} {Er : Value → Shared → Prop} {s : Shared} {a : Addr} {pos : Pos} {Q : Value → Shared → Prop} {args : List (Bool × Sem Value)} {kw : List (Option Str × Sem Value)} (hplain : (args.any (·.1) || kw.any (·.1.isNone)) = false)
    (h : wpAny M A (evalArgs (.ref a) true args kw) (fun z s₁ => (∃ C ox od, PySem.W.InstAt s₁.heap a ox C od ∧ ox.data = .plain) ∧ wpAny M A (call (.ref a) ([] ++ z.pos) z.kw) Q Er s₁) Er s) : wpAny M A (callWith pos (.ref a) [] args kw) Q Er s := by
  unfold callWith
  refine wpAny_bind (wpAny_holding (wpAny_mono h (fun z s₁ h₁ => wpAny_bind (wpAny_standAt ?_)) fun _ _ y => y))
  obtain ⟨⟨C, ox, od, J, hd⟩, h₁⟩ := h₁
  simp only [hplain]
  refine wpAny_bind ((PySem.W.kco_keeper (M := M) J hd).here ?_)
  refine wpAny_bind (wpAny_mono (wpAny_operateT h₁) (fun r s₂ hr => wpAny_bind (wpAny_holding (wpAny_point (wpAny_pure hr)))) fun _ _ y => y)
theorem pe_clK {fe : Expr} {kws : List Keyword} {tf : TE} {tk : TA} {pos : Pos} {gV : List V → List V → List V} (M : CallK X.prog X.w X.K X.mg X.base CX k C ps ks sp gV) (hr : Room k X.A) (hx : Passes CX X E) (hf : PE X fe tf) (hkw : PK X kws tk)
    (ht : eval (.Call fe [] kws pos) X.env = (do callWith pos (← eval fe X.env) [] (backTo pos (starEach [] X.env)) (backToKw pos (keywordEach kws X.env))) := by rfl)
    (hall : (backToKw pos (keywordEach kws X.env)).all (·.1.isSome) = true := by rfl) (hks : (backToKw pos (keywordEach kws X.env)).filterMap (·.1) = ks := by rfl)
    (hpl : ((backTo pos (starEach [] X.env)).any (·.1) || (backToKw pos (keywordEach kws X.env)).any (·.1.isNone)) = false := by rfl) : PE X (.Call fe [] kws pos) (tCallK C ks.length sp gV E tf tk) := by
  obtain ⟨f, fd, g, c, F, b⟩ := M.ex
  refine ⟨fun pins s σ H Q I h => ?_⟩
  rw [ht]
  refine wpAny_bind (thn (hf.run pins s σ H _ I h) fun u s1 ⟨y, H1, I1, ry, a, ey, q⟩ => ?_)
  subst ey
  obtain rfl : u = Value.ref a := ry
  refine callO_kw hpl (evalArgs_kw2_nil hall (thn (hkw.run pos pins s1 σ H1 _ I1 q) fun ws s2 ⟨zs, H2, I2, rz, l2, ⟨dx, fs, hi⟩, q2⟩ => ?_))
  obtain ⟨ox, od, J, hd⟩ := StX.insC_at (X := X) I2 (.inr ⟨dx, fs, hi⟩)
  refine ⟨⟨C, ox, od, J, hd⟩, ?_⟩
  rw [hks]
  have r2 := b.rel (vs := [V.ref a]) (us := [Value.ref a]) (.cons rfl .nil) rz
  refine wpAny_call (PySem.W.kco_code I2.kIn J hd c.at_ c.fn c.fi (codeAny_mono (F.run X.A X.stack s2 H2 ⟨[.ref a], ks.zip ws⟩ (g [.ref a] ws) (gV [.ref a] zs) _ E hr I2.env0 (b.to s2 [.ref a] ws I2.kIn rfl (rz.length.symm.trans l2)) r2 q2) fun r s' hq => ?_))
  match r, hq with
  | .error e, hq => exact hx pins σ H2 s2 e s' I2 hq
  | .ok (.ret z), hq => exact I2.after hq
  | .ok .next, hq => exact False.elim hq
  | .ok .brk, hq => exact False.elim hq
  | .ok .cont, hq => exact False.elim hq
/-- a class of the module made by keywords alone -/
structure MakeK (P : Program) (w : World) (K : PySem.W.Frag) (mg : Str → Option Value) (base : Heap) (CX : CXT) (k : Nat) (x : Str) (C : Addr) (ps ks : List Str) (sp : Sp) (gV : List V → List V → List V) : Prop where
  ex : ∃ f fd g, Mk K C f ∧ FnOk P w K mg base CX k f fd ps sp ∧ mg x = some (.ref C) ∧ KBn K fd ps 1 ks g gV
theorem pe_mkK {x : Str} {p pos : Pos} {kws : List Keyword} {tk : TA} {gV : List V → List V → List V} (M : MakeK X.prog X.w X.K X.mg X.base CX k x C ps ks sp gV) (hr : Room (k + 1) X.A) (hg : Gl X x) (hx : Passes CX X E) (hkw : PK X kws tk)
    (hall : (backToKw pos (keywordEach kws X.env)).all (·.1.isSome) = true := by rfl) (hks : (backToKw pos (keywordEach kws X.env)).filterMap (·.1) = ks := by rfl) (hdb : (x == ("__debug__" : Str)) = false := by decide)
    (hpl : ((backTo pos (starEach [] X.env)).any (·.1) || (backToKw pos (keywordEach kws X.env)).any (·.1.isNone)) = false := by rfl) : PE X (.Call (.Name x p) [] kws pos) (tMakeK C 0 ks.length sp gV E tNil tk) := by
  obtain ⟨f, fd, g, mk, F, hm, b⟩ := M.ex
  exact pe_makeK0 mk F hr hg hm b hx hkw hall hks hdb hpl
end
end My
/-! For the end: static methods, makers with defaults, calls by keywords. -/
namespace My
open PySem PySem.Spec PyProof.Rows L2
def gApp (vs zs : List V) : List V := vs ++ zs
def gSw (vs zs : List V) : List V := vs ++ zs.reverse
theorem nm_part : Sup.Nm "part" := ⟨by decide, by decide, by decide, by decide, fun _ _ _ _ _ _ _ _ _ _ _ _ => rfl⟩
theorem app_rel {vs : List V} {us : List Value} {zs : List V} {ws : List Value} (h1 : Vals vs us) (h2 : Vals zs ws) : Vals (gApp vs zs) (us ++ ws) := h1.append h2
/-- the class has the static method -/
structure HasS (K : PySem.W.Frag) (C : Addr) (m qual : Str) (st : Stmt) : Prop where
  ex : ∃ f fd, Stat K C m f ∧ Fun K m qual st f fd
section
variable {P : Program} {w : World} {K : PySem.W.Frag} {mg : Str → Option Value} {base : Heap} {CX : CXT} {k : Nat} {m qual : Str} {st : Stmt} {ps ks : List Str} {sp : Sp} {C : Addr}
theorem stat_at (A : HasS K C m qual st) (ok : ∀ f fd, Fun K m qual st f fd → FnOk P w K mg base CX k f fd ps sp) (b : BindW m qual st ps) : StatAt P w K mg base CX k C m ps sp := by
  obtain ⟨f, fd, h1, F⟩ := A.ex
  exact ⟨f, fd, h1, ok f fd F, F.binds b⟩
theorem statK_at {gV : List V → List V → List V} {g : List Value → List Value → List Value} (A : HasS K C m qual st) (ok : ∀ f fd, Fun K m qual st f fd → FnOk P w K mg base CX k f fd ps sp)
    (b : ∀ (kV doc pm : Value) (an : Option Addr) (cdv ct : Value) (us ws : List Value), us.length = 0 → ws.length = ks.length → bindArgs (PySem.W.fnOf m qual (defArgs st) (defBody st) (defScope st) .none kV doc pm an cdv ct) ⟨us, ks.zip ws⟩ = pure (ps.zip (g us ws)))
    (r : ∀ {vs : List V} {us : List Value} {zs : List V} {ws : List Value}, Vals vs us → Vals zs ws → Vals (gV vs zs) (g us ws)) : StatK P w K mg base CX k C m ps ks sp gV := by
  obtain ⟨f, fd, h1, F⟩ := A.ex
  obtain ⟨oc, od, kV, doc, pm, an, cdv, ct, osl, rfl, _⟩ := id F.ex
  exact ⟨f, _, g, h1, ok f _ F, ⟨fun s us ws _ l1 l2 => .of_eq (b kV doc pm an cdv ct us ws l1 l2), r⟩⟩
end
theorem sw_rel {vs : List V} {us : List Value} {zs : List V} {ws : List Value} (h1 : Vals vs us) (h2 : Vals zs ws) : Vals (gSw vs zs) (us ++ ws.reverse) := h1.append h2.reverse
theorem kinds7 {K : PySem.W.Frag} {C : Addr} (a0 : PySem.W.kitOne K (.type "int") (.ref C) = some false) (b0 : PySem.W.notFirst K C (.type "int") = true) (a1 : PySem.W.kitOne K (.type "tuple") (.ref C) = some false) (b1 : PySem.W.notFirst K C (.type "tuple") = true) (a2 : PySem.W.kitOne K (.type "NoneType") (.ref C) = some false) (b2 : PySem.W.notFirst K C (.type "NoneType") = true) (a3 : PySem.W.kitOne K (.type "str") (.ref C) = some false) (b3 : PySem.W.notFirst K C (.type "str") = true) (a4 : PySem.W.kitOne K (.type "list") (.ref C) = some false) (b4 : PySem.W.notFirst K C (.type "list") = true) (a5 : PySem.W.kitOne K (.type "bool") (.ref C) = some false) (b5 : PySem.W.notFirst K C (.type "bool") = true) (a6 : PySem.W.kitOne K (.type "dict") (.ref C) = some false) (b6 : PySem.W.notFirst K C (.type "dict") = true) : ∀ t ∈ ["int", "tuple", "NoneType", "str", "list", "bool", "dict"], PySem.W.kitOne K (.type t) (.ref C) = some false ∧ PySem.W.notFirst K C (.type t) = true := fun t ht => by
  simp only [List.mem_cons, List.mem_nil_iff, or_false] at ht
  rcases ht with rfl | rfl | rfl | rfl | rfl | rfl | rfl
  · exact ⟨a0, b0⟩
  · exact ⟨a1, b1⟩
  · exact ⟨a2, b2⟩
  · exact ⟨a3, b3⟩
  · exact ⟨a4, b4⟩
  · exact ⟨a5, b5⟩
  · exact ⟨a6, b6⟩
section
variable {P : Program} {w : World} {K : PySem.W.Frag} {mg : Str → Option Value} {base : Heap} {CX : CXT} {k : Nat} {x qual : Str} {st : Stmt} {ps ks : List Str} {sp : Sp} {C : Addr} {dvs : List V}
/-- the class is made with its defaults left out -/
theorem make_dfl {n : Nat} (A : HasD K C "__init__" qual st dvs []) (hx : mg x = some (.ref C)) (mk : PySem.W.makesIn K C = true) (kp : PySem.W.keepIn K (.ref C) = true) (ok : ∀ f fd, FunD K "__init__" qual (defArgs st) (defBody st) (defScope st) dvs [] f fd → FnOk P w K mg base CX k f fd ps sp) (hd : dvs ≠ []) (hn : n + (dvs.length - 0) = ps.length)
    (b : ∀ (T : Addr) (kV doc pm : Value) (an : Option Addr) (cdv ct : Value) (us its : List Value), us.length = n → its.length = dvs.length →
      ∃ k, bindArgs (PySem.W.fnOf "__init__" qual (defArgs st) (defBody st) (defScope st) (.ref T) kV doc pm an cdv ct) ⟨us, []⟩ = seqItems? (.ref T) >>= k ∧ k (some its.toArray) = pure (ps.zip (us ++ its.drop 0))) : MakeAt P w K mg base CX k x C ps sp dvs := by
  obtain ⟨f, fd, h1, h2, F⟩ := A.ex
  obtain ⟨ds, r, bs⟩ := F.binds1 n 0 hd hn b
  rw [List.drop_zero] at r
  exact ⟨f, fd, ds, ⟨mk, h1, h2, kp⟩, ok f fd F, hx, bs, r⟩
theorem make_sw (A : HasD K C "__init__" qual st dvs []) (hx : mg x = some (.ref C)) (mk : PySem.W.makesIn K C = true) (kp : PySem.W.keepIn K (.ref C) = true) (ok : ∀ f fd, FunD K "__init__" qual (defArgs st) (defBody st) (defScope st) dvs [] f fd → FnOk P w K mg base CX k f fd ps sp) (hd : dvs ≠ [])
    (b : ∀ (T : Addr) (kV doc pm : Value) (an : Option Addr) (cdv ct : Value) (us its ws : List Value), us.length = 1 → its.length = dvs.length → ws.length = ks.length →
      ∃ k, bindArgs (PySem.W.fnOf "__init__" qual (defArgs st) (defBody st) (defScope st) (.ref T) kV doc pm an cdv ct) ⟨us, ks.zip ws⟩ = seqItems? (.ref T) >>= k ∧ k (some its.toArray) = pure (ps.zip (us ++ ws.reverse))) : MakeK P w K mg base CX k x C ps ks sp gSw := by
  obtain ⟨f, fd, h1, h2, F⟩ := A.ex
  obtain ⟨its, kb⟩ := F.kbindsD (ps := ps) 1 ks (fun us _ ws => us ++ ws.reverse) hd (fun h1 _ h3 => h1.append h3.reverse) b
  exact ⟨f, fd, _, ⟨mk, h1, h2, kp⟩, ok f fd F, hx, kb⟩
theorem callK_at {g : List Value → List Value → List Value} (A : HasM K C "__call__" qual st) (ok : ∀ f fd, Fun K "__call__" qual st f fd → FnOk P w K mg base CX k f fd ps sp)
    (b : ∀ (kV doc pm : Value) (an : Option Addr) (cdv ct : Value) (us ws : List Value), us.length = 1 → ws.length = ks.length → bindArgs (PySem.W.fnOf "__call__" qual (defArgs st) (defBody st) (defScope st) .none kV doc pm an cdv ct) ⟨us, ks.zip ws⟩ = pure (ps.zip (us ++ ws))) : CallK P w K mg base CX k C ps ks sp gApp := by
  obtain ⟨f, fd, h1, h2, F⟩ := A.ex
  obtain ⟨oc, od, kV, doc, pm, an, cdv, ct, osl, rfl, lk, _⟩ := id F.ex
  refine ⟨f, _, _, ⟨h1, h2, ?_⟩, ok f _ F, ⟨fun s us ws _ l1 l2 => .of_eq (b kV doc pm an cdv ct us ws l1 l2), app_rel⟩⟩
  unfold PySem.W.fnIn
  rw [lk]
end
end My
/-! int == an instance; bool(x), abs(x) of an instance; // and % of an int by an instance. -/
namespace My
open PySem PySem.Spec PySem.Calls PyProof.Rows L2
theorem is_fdv {K : PySem.W.Frag} : IntSlot K (Operator.info .FloorDiv).2 "int.__floordiv__" Builtin.«int.__floordiv__» := ⟨PySem.F.slot_int_floordiv, PySem.F.entry_int_floordiv, PySem.F.args_int_floordiv_2, dec_floordiv⟩
theorem is_mod {K : PySem.W.Frag} : IntSlot K (Operator.info .Mod).2 "int.__mod__" Builtin.«int.__mod__» := ⟨PySem.F.slot_int_mod, PySem.F.entry_int_mod, PySem.F.args_int_mod_2, dec_mod⟩
section
open PySem.W
variable {prog : Program} {w : World} {A : Around} {E : Value → Shared → Prop} {s : Shared} {K : Frag} {x C L f : Addr} {h₀ : Heap} {m : Str → Option Value} {ox : Obj} {od : Option Obj}
theorem bool_call {Q : Value → Shared → Prop} (F : Fr h₀ L s.heap m) (X₀ : K.In h₀) (I : InstAt s.heap x ox C od) (hs : findIn K (.ref C) "__bool__" = some (some (.ref f))) (hf : isFn K (.ref f) = true)
    (h : wpAny (model prog w) A.in1.in1 (call (.ref f) [.ref x]) (PySem.W.BoolBack fun b s' => Q (.bool b) s') E s) : wpAny (model prog w) A (call (.type "bool") [.ref x]) Q E s := by
  refine callType_codes (T := "bool") (Bi := Builtin.«object.__init__») (Q₁ := fun r s' => ∃ b, r = .bool b ∧ Q r s') PySem.F.called_bool (PySem.F.typeCall_bool_1 _) PySem.F.entry_object_init ?_ ?_
  · refine codeAny_of_tree ?_
    show wpAny _ A.in1.in1 (do checkBuiltinCall "bool.__new__" ⟨[.type "bool", .ref x], []⟩; again (.builtin "bool.__new__" ⟨[.type "bool", .ref x], []⟩)) _ _ s
    refine wpAny_bind (wpAny_of_eq (PySem.F.newCall_bool_1 _) (wpAny_pure ⟨plainId_quiet (by decide +kernel) _, codeAny_builtin PySem.F.entry_bool_new ?_⟩))
    rw [Around.under_plainId (by decide +kernel) _]
    unfold Builtin.«bool.__new__»
    have f1 := PySem.F.conv_sub_bool
    have go : wpAny (model prog w) A.in1.in1 (truthy (.ref x)) (fun b s' => Q (.bool b) s') E s := truthy_K F X₀ I hs hf h
    refine wpAny_bind (m := isType (.type "bool")) (wpAny_pure ?_)
    refine wpAny_bind (m := isSubtype (.type "bool") (.type "bool")) (wpAny_of_eq f1 ?_)
    refine wpAny_bind (wpAny_pure ?_)
    refine wpAny_bind (m := truthy (.ref x)) (wpAny_mono go (fun b s' hq => ?_) fun _ _ y => y)
    exact wpAny_pure ⟨b, rfl, hq⟩
  · rintro obj s' ⟨b, rfl, hq⟩
    exact ⟨PySem.typeIs_bool _ _, PySem.F.args_object_init_2 _ _, object_init_meets PySem.F.called_bool.init.lookup PySem.F.called_bool.made (by decide) prog w A.in1 _ s' ⟨PySem.typeIs_bool _ _, rfl, hq⟩⟩
theorem abs_call {Q : Value → Shared → Prop} (X : K.In s.heap) (I : InstAt s.heap x ox C od) (hs : findIn K (.ref C) "__abs__" = some (some (.ref f))) (hf : isFn K (.ref f) = true)
    (h : wpAny (model prog w) A.in1 (call (.ref f) [.ref x]) Q E s) : wpAny (model prog w) A (call (.builtin "abs") [.ref x]) Q E s := by
  refine call_function_entry kind_abs plain_abs entry_abs (args_abs _) ?_
  unfold Builtin.«abs»
  refine wpAny_bind (m := oneArg "abs" _) (wpAny_pure ?_)
  refine wpAny_bind (m := callSpecial? (.ref x) (Str.ofString "__abs__")) (special_fn X I hs (beq_iff_eq.mp hf) (wpAny_mono h (fun r s' hr => ?_) fun _ _ y => y))
  exact wpAny_pure ⟨_, rfl, hr⟩
end
section
variable {X : Cx} {CX : CXT} {k : Nat} {C : Addr} {ps : List Str} {sp : Sp} {E : XK}
theorem op_eqR (M : CmpAt X.prog X.w X.K X.mg X.base CX k C "__eq__" ps sp) (su : PySem.W.subIn X.K (.ref C) (.type "int") = some false) (hr : Room k X.A) (hx : Passes CX X E) : OpR X (compareOp .Eq) (rCmpR C sp E) := op_cmpRv M su hr hx rfl (fun _ _ => rfl) (fun _ _ _ => rfl) PySem.F.slot_int_eq PySem.F.entry_int_eq PySem.F.args_int_eq_2 dec_eq
/-- bool(x) of an instance with its own __bool__ -/
def rBoolO (C : Addr) (sp : Sp) (E : XK) : List V → Hp → VK → Prop := fun xs H Q => ∃ a dx fs, xs = [.ref a] ∧ H a = some (.ins C dx fs) ∧ sp [.ref a] H (fun v H' => ∃ b, v = .bl b ∧ Q v H') E
theorem call_boolO (M : CmpAt X.prog X.w X.K X.mg X.base CX k C "__bool__" ps sp) (hr : Room (k + 2) X.A) (hx : Passes CX X E) : CallR X (.type "bool") (rBoolO C sp E) := by
  intro pins s σ H xs us Q I r h
  obtain ⟨f, fd, hs, hf, F, hb⟩ := M.ex
  obtain ⟨a, dx, fs, rfl, ha, hsp⟩ := h
  obtain ⟨u, rfl, r1⟩ := vals1 r
  obtain rfl : u = Value.ref a := r1
  obtain ⟨ox, od, J, _⟩ := ins_plain I ha
  obtain ⟨m', hF⟩ := I.fr
  have U : Und X k X.A.in1.in1 := (Und.here hr).in1.in1
  refine bool_call hF I.ok.mod.kin J hs hf (wpAny_mono (run_at (vs := [.ref a]) F hb hx U I (.cons rfl .nil) hsp) (fun v s' z => ?_) fun _ _ z => z)
  obtain ⟨z, H', I', rz, b, rfl, q⟩ := z
  cases (show v = Value.bool b from rz)
  exact ⟨.bl b, H', I', rfl, q⟩
/-- abs(x) of an instance with its own __abs__ -/
def rAbsO (C : Addr) (sp : Sp) (E : XK) : List V → Hp → VK → Prop := fun xs H Q => ∃ a dx fs, xs = [.ref a] ∧ H a = some (.ins C dx fs) ∧ sp [.ref a] H Q E
theorem call_absO (M : CmpAt X.prog X.w X.K X.mg X.base CX k C "__abs__" ps sp) (hr : Room (k + 1) X.A) (hx : Passes CX X E) : CallR X (.builtin "abs") (rAbsO C sp E) := by
  intro pins s σ H xs us Q I r h
  obtain ⟨f, fd, hs, hf, F, hb⟩ := M.ex
  obtain ⟨a, dx, fs, rfl, ha, hsp⟩ := h
  obtain ⟨u, rfl, r1⟩ := vals1 r
  obtain rfl : u = Value.ref a := r1
  obtain ⟨ox, od, J, _⟩ := ins_plain I ha
  have U : Und X k X.A.in1 := (Und.here hr).in1
  exact abs_call I.kIn J hs hf (run_at (vs := [.ref a]) F hb hx U I (.cons rfl .nil) hsp)
end
end My
/-! enumerate of a tuple; a class made by a star; a tuple turned about. -/
namespace My
open PySem PySem.Spec PySem.Calls PyProof.Rows L2
/-! ### enumerate(tuple) -/
theorem enum1_meets {v : Value} {o : Obj} {H : Heap → Prop} (B : Begins v o H) :
    Meets (Builtin.«enumerate.__new__» ⟨[.type "enumerate", v], []⟩) (fun _ R s => H s.heap ∧
      R (.ok (.ret (.ref (s.heap.push o).objs.size))) { s with heap := (s.heap.push o).push { cls := .type "enumerate", data := .fields #[.none, .bool false, .ref s.heap.objs.size, rawInt 0, .none, .none] } }) :=
  .of_wp fun prog w A R s h => by
    obtain ⟨hp, g, d, tk, os⟩ := s
    obtain ⟨h1, h⟩ := h
    have hsub := sub_enumerate
    have q1 : ∀ {A' : Around} {E : Value → Shared → Prop} {Q : Value → Shared → Prop}, Q (.ref hp.objs.size) ⟨hp.push o, g, d, tk, os⟩ → wpAny (model prog w) A' (pyIter v) Q E ⟨hp, g, d, tk, os⟩ :=
      fun q => B.iter prog w _ _ ⟨hp, g, d, tk, os⟩ _ h1 q
    wp_walk using q1
    refine wpAny_stack_any fun st => wpAny_pure ?_
    split
    · rename_i c _ _ _ _ _
      cases (c == Value.type "enumerate")
      · wp_walk using q1
        exact ⟨_, rfl, h⟩
      · wp_walk using q1
        exact ⟨_, rfl, h⟩
    · wp_walk using q1
      exact ⟨_, rfl, h⟩
section
variable {prog : Program} {w : World} {A : Around} {E : Value → Shared → Prop} {s : Shared}
theorem enum1_begins {v : Value} {o : Obj} {H : Heap → Prop} {Q : Value → Shared → Prop} (B : Begins v o H) (h1 : H s.heap)
    (h : ∀ h', IsEnum h' (s.heap.objs.size + 1) s.heap.objs.size 0 .none → h'.get? s.heap.objs.size = some o → h'.objs.size = s.heap.objs.size + 2 →
      (∀ b o, s.heap.get? b = some o → h'.get? b = some o) → Q (.ref (s.heap.objs.size + 1)) { s with heap := h' }) :
    wpAny (model prog w) A (call (.type "enumerate") [v]) Q E s := by
  refine callType_new F.called_enumerate (by decide) (F.typeCall_enumerate_1 _) (F.newCall_enumerate_1 _) (fun obj => F.args_object_init_2 obj _) F.entry_enumerate_new (enum1_meets B) ⟨h1, ?_⟩
  have hz : (s.heap.push o).objs.size = s.heap.objs.size + 1 := Heap.size_push ..
  show _ ∧ _
  rw [hz]
  have he : IsEnum ((s.heap.push o).push { cls := .type "enumerate", data := .fields #[.none, .bool false, .ref s.heap.objs.size, rawInt 0, .none, .none] }) (s.heap.objs.size + 1) s.heap.objs.size 0 .none := by
    have z := Heap.get?_push_size (s.heap.push o) (o := { cls := .type "enumerate", data := .fields #[.none, .bool false, .ref s.heap.objs.size, rawInt 0, .none, .none] }) rfl
    rw [hz] at z
    exact z
  exact ⟨⟨_, he, rfl⟩, h _ he (Heap.get?_push_of_some _ (Heap.get?_push_size _ B.free)) (by rw [Heap.size_push, hz]) fun b o x => Heap.get?_push_of_some _ (Heap.get?_push_of_some _ x)⟩
end
/-- the tuple at a, each item in a new pair -/
def IteT (K : PySem.W.Frag) (a : Addr) : It :=
  ⟨fun i H => ∃ (xs : List V) (x : V), SqT K H a xs ∧ xs[i]? = some x, fun i H v H' => ∃ T x, v = .ref T ∧ H T = none ∧ H' = upd H T (.tup [.int (i : Nat), x]) ∧ ∀ xs, SqT K H a xs → xs[i]? = some x, fun i H => ∃ xs : List V, SqT K H a xs ∧ xs.length = i⟩
theorem turn_enumT {P : Program} {w : World} {K : PySem.W.Frag} {elts : List Expr} {kk : Nat} {tpos : Pos} (a e it : Addr) :
    Turn P w K (.Tuple elts kk tpos) (IteT K a) [e, it] e (fun i h => (∃ old, IsEnum h e it ((i : Nat) : Int) old) ∧ h.IsTupleIter it a i ∧ e ≠ it) where
  mem := by simp
  obj := fun i h st b hb => by
    obtain ⟨⟨old, he⟩, ⟨o, ho, hc, hd⟩, _⟩ := st
    rcases (show b = e ∨ b = it by simpa using hb) with rfl | rfl
    · exact ⟨_, he, fun v q => nomatch q⟩
    · exact ⟨o, ho, fun v q => by rw [hd] at q; cases q⟩
  keep := fun i h h' st k => let ⟨⟨old, he⟩, hi, hne⟩ := st; ⟨⟨old, k e (by simp) _ he⟩, hi.at fun o q => k it (by simp) o q, hne⟩
  item := by
    intro X hP hw hK hc i pins s σ H E I hf st hg
    subst hP hw hK
    obtain ⟨⟨old, he⟩, hit, hne⟩ := st
    obtain ⟨xs, x, hq, hx⟩ := hg
    obtain ⟨its, rv, p, hz⟩ := I.tuple hq
    obtain ⟨u, hu, ru⟩ := rv.get hx
    have hel : e < s.heap.objs.size := Heap.lt_size he
    have hil : it < s.heap.objs.size := by obtain ⟨_, q, _⟩ := hit; exact Heap.lt_size q
    have hat : a ≠ it := fun z => by
      obtain ⟨o1, e1, c1, _⟩ := p
      obtain ⟨o2, e2, c2, _⟩ := hit
      rw [z, e2] at e1
      cases e1
      rw [c2] at c1
      exact absurd c1 (by decide)
    have hae : a ≠ e := fun z => by
      obtain ⟨o1, e1, c1, _⟩ := p
      rw [z, show s.heap.get? e = _ from he] at e1
      cases e1
      exact absurd (show Value.type "enumerate" = Value.type "tuple" from c1) (by decide)
    have D := Draws.tuple (prog := X.prog) (w := X.w) (A := X.A.in1) (I.ok.hd hc) it a hat its.toArray
    have hlt : i < its.toArray.size := by
      have := (List.getElem?_eq_some_iff.mp hu).1
      simpa using this
    refine wpAny_pyNext_enum_itemC (n := its.toArray.size) D he ⟨hit, p⟩ hlt hne (by simp; exact ⟨hne, Ne.symm hae⟩) fun x' h' tk hPx ho hst' hT hsz hk => ?_
    have ex : x' = u := by
      have h1 : its.toArray[i]? = some x' := hPx
      rw [List.getElem?_toArray, hu] at h1
      exact (Option.some.inj h1).symm
    subst ex
    refine ⟨_, rfl, wpAny_letOwnedTupleGo_enum (s := { s with heap := h', toks := tk + 1 }) ho fun h'' he' sb => ?_⟩
    have hT2 : h''.get? s.heap.objs.size = some { cls := .type "tuple", data := .seq #[.int i tk, x'] } := (sb.2 _ (Nat.ne_of_gt hel)).trans hT
    have new : ObjOk X.prog X.w (upd H s.heap.objs.size (.tup [.int (i : Nat), x])) h'' s.heap.objs.size (.tup [.int (i : Nat), x]) :=
      ⟨by show 2 ≤ sizeLine; decide, [.int i tk, x'], .cons ⟨_, rfl⟩ (.cons ru .nil), ⟨_, hT2, rfl, _, rfl⟩⟩
    have I1 : Inv X pins σ (upd H s.heap.objs.size (.tup [.int (i : Nat), x])) { s with heap := h'', toks := tk + 1 } :=
      I.turnedNew (ch := [e, it]) (fun b ob hb q => (sb.2 b (fun z => hb (by simp [z]))).trans (hk b ob (fun z => hb (by simp [z])) (fun z => hb (by simp [z])) q)) hf (Nat.le_refl _) new
    refine ⟨.ref s.heap.objs.size, _, I1, rfl, ⟨_, x, rfl, I.hok.fresh (Nat.le_refl _), rfl, fun ys hy => by rw [I.tuple_inj hy hq]; exact hx⟩, ⟨⟨x', ?_⟩, hst'.1.at fun o q => (sb.2 it (Ne.symm hne)).trans q, hne⟩, fun b hb => ?_⟩
    · have e1 : ((i + 1 : Nat) : Int) = (i : Int) + 1 := by omega
      rw [e1]
      exact he'
    · have hb' : b < s.heap.objs.size := by
        rcases (show b = e ∨ b = it by simpa using hb) with rfl | rfl
        · exact hel
        · exact hil
      rw [upd_ne (Nat.ne_of_lt hb')]
      exact (hf b hb).1
  done := by
    intro X hP hw hK hc i pins s σ H E I hf st hg
    subst hP hw hK
    obtain ⟨⟨old, he⟩, hit, hne⟩ := st
    obtain ⟨xs, hq, hx⟩ := hg
    obtain ⟨its, rv, p, hz⟩ := I.tuple hq
    obtain ⟨f0, f1, f2, f3, f4, f5⟩ := hf it (by simp)
    have hl := rv.length
    have hat : a ≠ it := fun z => by
      obtain ⟨o1, e1, c1, _⟩ := p
      obtain ⟨o2, e2, c2, _⟩ := hit
      rw [z, e2] at e1
      cases e1
      rw [c2] at c1
      exact absurd c1 (by decide)
    have D := Draws.tuple (prog := X.prog) (w := X.w) (A := X.A.in1) (I.ok.hd hc) it a hat its.toArray
    have ei : i = its.toArray.size := by
      rw [List.size_toArray]
      omega
    subst ei
    exact wpAny_pyNext_enum_endD D he ⟨hit, p⟩ fun h' eb => ⟨rfl, I.turned (t' := s.toks) (fun b o hb q => eb b o hb q) f0 f1 f3 f4 f5⟩
  self := fun A i s Q E st h => let ⟨⟨_, he⟩, _⟩ := st; wpAny_pyIter_enum he h
def iEnumT (K : PySem.W.Frag) (ta : TA) : TI := fun σ H R => ta σ H fun vs H1 => ∃ a xs, vs = [.ref a] ∧ SqT K H1 a xs ∧ R (IteT K a) H1
theorem pi_enumT {X : Cx} {e : Expr} {ta : TA} {p pos tpos : Pos} {elts : List Expr} {kk : Nat} (hg : Gl X "enumerate") (hm : X.mg "enumerate" = none) (ha : PA X [e] ta) (hs : starEach [e] X.env = [(false, eval e X.env)] := by rfl) :
    PI X (.Tuple elts kk tpos) (.Call (.Name "enumerate" p) [e] [] pos) (iEnumT X.K ta) := by
  refine ⟨fun pins s σ H R I h => ?_⟩
  refine Call_ (ld_blt I hg hm boot_enumerate (PyProof.Rows.callWith_type1 (thn (ha.run pos pins s σ H _ I h) fun us s1 ⟨vs, H1, I1, r1, q1⟩ => ?_) hs rfl))
  obtain ⟨a, xs, ex, hq, q⟩ := q1
  subst ex
  cases r1 with
  | cons r rr =>
    cases rr
    cases r
    obtain ⟨its, rv, p', hz⟩ := I1.tuple hq
    refine enum1_begins (begins_tuple a its.toArray) p' fun h' he hit hsz hk => wpAny_pyIter_enum he ?_
    have I2 : Inv X pins σ H1 { s1 with heap := h' } := I1.kept (t' := s1.toks) hk
    refine ⟨s1.heap.objs.size + 1, [s1.heap.objs.size + 1, s1.heap.objs.size], _, _, H1, rfl, I2, turn_enumT a (s1.heap.objs.size + 1) s1.heap.objs.size, ⟨⟨.none, he⟩, ⟨_, hit, rfl, rfl⟩, Nat.succ_ne_self _⟩, fun b hb => ?_, q⟩
    have hle : s1.heap.objs.size ≤ b := by
      rcases (show b = s1.heap.objs.size + 1 ∨ b = s1.heap.objs.size by simpa using hb) with rfl | rfl
      · exact Nat.le_add_right _ _
      · exact Nat.le_refl _
    exact I1.fpOk hle (I1.hok.fresh hle)
/-! ### t[::-1] of a tuple -/
section
variable {prog : Program} {w : World} {A : Around} {E : Value → Shared → Prop} {s : Shared}
theorem places_rev (n : Nat) : Builtin.Slice.slicePlaces ((n : Int) - 1) (-1) (-1) = n := by
  unfold Builtin.Slice.slicePlaces
  rw [if_neg (by decide)]
  split
  · have e : ((n : Int) - 1 - -1 - 1) / (- -1) + 1 = n := by
      rw [show (- -1 : Int) = 1 by decide, Int.ediv_one]
      omega
    rw [e]
    omega
  · omega
theorem pick_rev (xs : Array Value) : ((List.range xs.size).filterMap fun (k : Nat) => xs[((xs.size : Int) - 1 + (k : Int) * (-1)).toNat]?).toArray = xs.toList.reverse.toArray := by
  have h := PySem.W.krv_pick xs
  rw [← h]
  unfold slicePick
  rw [PySem.W.krv_bounds]
  show _ = ((sliceRange ((xs.size : Int) - 1) (-1) (-1)).filterMap (xs[·]?)).toArray
  rw [PySem.W.krv_sliceRange, List.filterMap_map]
  congr 1
  have go : ∀ l : List Nat, (∀ k ∈ l, k < xs.size) → l.filterMap (fun (k : Nat) => xs[((xs.size : Int) - 1 + (k : Int) * (-1)).toNat]?) = l.filterMap ((fun x => xs[x]?) ∘ fun k => xs.size - 1 - k) := by
    intro l
    induction l with
    | nil => intro _; rfl
    | cons k l ih =>
      intro h
      have hk := h k List.mem_cons_self
      have e : ((xs.size : Int) - 1 + (k : Int) * (-1)).toNat = xs.size - 1 - k := by omega
      rw [List.filterMap_cons, List.filterMap_cons, e, ih fun x hx => h x (List.mem_cons_of_mem _ hx)]
      rfl
  exact go _ fun k hk => List.mem_range.mp hk
theorem getItem_rev {t sl : Addr} {items : Array Value} {vl vu vs : Value} {Q : Value → Shared → Prop} (ht : IsTup s.heap t items) (hs : s.heap.IsSliceOf sl vl vu vs) (pl : IsPart vl none) (pu : IsPart vu none) (ps : IsPart vs (some (-1)))
    (h : Q (.ref s.heap.objs.size) { s with heap := s.heap.push { cls := .type "tuple", data := .seq items.toList.reverse.toArray } }) (hsz : items.size ≤ sizeLine) : wpAny (model prog w) A (getItem (.ref t) (.ref sl)) Q E s := by
  have hok : sizeOk (.seq items.toList.reverse.toArray) := by
    show items.toList.reverse.toArray.size ≤ sizeLine
    rw [List.size_toArray, List.length_reverse, Array.length_toList]
    exact hsz
  obtain ⟨os, hos, hcs, hds⟩ := id hs
  have hTs : s.TypeIs (.ref sl) "slice" := ⟨os, hos, hcs⟩
  unfold getItem
  try with_reducible refine wpAny_holding ?_
  first | refine wpAny_bind (wpAny_pure ?_) | skip
  refine wpAny_bind (wpAny_sequenceKey ht.typeIs (by decide) ?_)
  refine wpAny_bind (wpAny_callSpecial?_slot (name := Str.ofString "__getitem__") ht.typeIs PyProof.Rows.slot_tuple_getitem
    (wpAny_call_entry PyProof.Rows.slot_tuple_getitem ht.typeIs entry_tuple_getitem ?_ (args_tuple_getitem _ _)))
  show wpAny _ _ (Builtin.Tuple.tupleItemsOf (.ref t) >>= _) _ _ s
  refine wpAny_bind (tupleItemsOf_ ht ?_)
  refine wpAny_bind (wpAny_typeOf hTs ?_)
  rw [if_pos (by decide)]
  have app : ∀ {Q : Int × Int × Nat → Shared → Prop}, Q ((items.size : Int) - 1, -1, items.size) s → wpAny (model prog w) A.in1 (Builtin.Slice.sliceApplied (.ref sl) (pure (items.size : Int))) Q E s := fun {Q} q => by
    unfold Builtin.Slice.sliceApplied Builtin.Slice.sliceFields
    refine wpAny_bind (wpAny_bind (wpAny_field hos hds (x := vl) rfl (wpAny_bind (wpAny_field hos hds (x := vu) rfl (wpAny_bind (wpAny_field hos hds (x := vs) rfl (wpAny_pure ?_)))))))
    refine wpAny_bind (HT.slicePart_ ps ?_)
    show wpAny _ _ (if ((-1 : Int) == 0) = true then _ else _) _ _ s
    rw [if_neg (by decide)]
    refine wpAny_bind (HT.slicePart_ pl (wpAny_bind (HT.slicePart_ pu (wpAny_bind (wpAny_pure ?_)))))
    have e : Builtin.Slice.slicePlaces ((items.size : Int) - 1) (-1) (-1) = items.size := places_rev _
    show wpAny _ _ (pure (((items.size : Int) - 1), (-1 : Int), Builtin.Slice.slicePlaces ((items.size : Int) - 1) (-1) (-1))) _ _ s
    rw [e]
    exact wpAny_pure q
  refine wpAny_bind (app ?_)
  have hno : ¬ ((((items.size : Int) - 1) == 0 && (-1 : Int) == 1 && items.size == items.size) = true) := by
    intro q
    rw [Bool.and_eq_true, Bool.and_eq_true] at q
    exact absurd q.1.2 (by decide)
  show wpAny _ _ (if (((items.size : Int) - 1) == 0 && (-1 : Int) == 1 && items.size == items.size) = true then _ else _) _ _ s
  rw [if_neg hno, pick_rev]
  first
    | exact wpAny_bind (m := Builtin.Tuple.tupleExact _) (wpAny_newObj_type (wpAny_pure ⟨_, rfl, wpAny_pure h⟩) hok)
    | exact wpAny_bind (m := Builtin.Tuple.tupleExact _) (wpAny_newObj_type (wpAny_bind (wpAny_pure (wpAny_pure ⟨_, rfl, wpAny_pure h⟩))) hok)
    | exact wpAny_bind (wpAny_bind (m := Builtin.Tuple.tupleExact _) (wpAny_newObj_type (wpAny_pure (wpAny_pure ⟨_, rfl, wpAny_pure h⟩)) hok))
    | exact wpAny_bind (wpAny_bind (m := Builtin.Tuple.tupleExact _) (wpAny_newObj_type (wpAny_pure ⟨_, rfl, wpAny_pure h⟩) hok))
end
end My
/-! A class made by a star, classmethods, x[k] by an own __getitem__, bool of a tuple, a tuple turned about, enumerate in a for. -/
namespace My
open PySem PySem.Spec PySem.Calls PyProof.Rows L2
/-! ### t[::-1] -/
def tRevT (K : PySem.W.Frag) (te : TE) : TE := fun σ H Q => te σ H fun x H1 => ∃ a xs, x = .ref a ∧ SqT K H1 a xs ∧ ∀ p, H1 p = none → Q (.ref p) (upd H1 p (.tup xs.reverse))
theorem pe_revT {X : Cx} {e : Expr} {te : TE} {k : Nat} {p1 p2 p3 pos : Pos} (he : PE X e te) : PE X (.Subscript e (.Slice none none (some (.UnaryOp .USub (.Constant (.int 1) k p1) p2)) p3) pos) (tRevT X.K te) := by
  refine ⟨fun pins s σ H Q I h => ?_⟩
  refine Subscript_ (thn (he.run pins s σ H _ I h) fun v t1 ⟨x, H1, I1, r1, a, xs, ex, hx, q⟩ => ?_)
  subst ex
  cases r1
  have step : PO X (some (.UnaryOp .USub (.Constant (.int 1) k p1) p2)) (tPart (tUn (rU fun i => .int (-i)) (tC (.int 1)))) := po_some (pe_un un_neg pe_int)
  refine wpAny_Slice (thn (po_none.run pins t1 σ H1 (fun o H2 => o = none ∧ H2 = H1) I1 ⟨rfl, rfl⟩) fun vl t2 ⟨l, H2, I2, pl, el, e2⟩ => ?_)
  subst el e2
  refine thn (po_none.run pins t2 σ H2 (fun o H3 => o = none ∧ H3 = H2) I2 ⟨rfl, rfl⟩) fun vu t3 ⟨u, H3, I3, pu, eu, e3⟩ => ?_
  subst eu e3
  refine thn (step.run pins t3 σ H3 (fun o H4 => o = some (-1) ∧ H4 = H3) I3 ⟨1, rfl, -1, rfl, rfl, rfl⟩) fun vs t4 ⟨o, H4, I4, ps, eo, e4⟩ => ?_
  subst eo e4
  have I5 : Inv X pins σ H4 { t4 with heap := t4.heap.push { cls := .type "slice", data := .fields #[vl, vu, vs] } } := I4.kept (t' := t4.toks) fun b ob q => Heap.get?_push_of_some _ q
  obtain ⟨its, r, ht, hz⟩ := I5.tuple hx
  have hlen := r.length
  show wpAny (model X.prog X.w) X.A (subscriptTail e (.Slice none none (some (.UnaryOp .USub (.Constant (.int 1) k p1) p2)) p3) (.ref a) (.ref t4.heap.objs.size)) (EP X pins σ Q) X.xe { t4 with heap := t4.heap.push { cls := .type "slice", data := .fields #[vl, vu, vs] } }
  refine tail_any (ops := [.ref a, .ref t4.heap.objs.size]) ht.typeIs (PyProof.Rows.slot_tuple_getitem.lookup) ?_ (by with_unfolding_all rfl)
  refine getItem_rev ht (Heap.IsSliceOf.new _ vl vu vs) pl pu ps ?_ (by rw [List.size_toArray]; omega)
  refine ⟨.ref _, _, I5.laid (t' := t4.toks) (o := .tup xs.reverse) (fun b ob q => Heap.get?_push_of_some _ q) (Nat.le_refl _) ?_, rfl, q _ (I5.hok.fresh (Nat.le_refl _))⟩
  exact ⟨by rw [List.length_reverse]; exact hz, _, r.reverse, ⟨_, Heap.get?_push_size _ rfl, rfl, _, rfl⟩⟩
/-! ### bool(t) -/
section
variable {prog : Program} {w : World} {A : Around} {E : Value → Shared → Prop} {s : Shared}
theorem bool_tup {t : Addr} {items : Array Value} {Q : Value → Shared → Prop} (hfit : (items.size : Int) < 2 ^ 63) (ht : IsTup s.heap t items) (h : ∀ tk, Q (.bool (!items.isEmpty)) { s with toks := tk }) : wpAny (model prog w) A (call (.type "bool") [.ref t]) Q E s := by
  refine callType_codes (T := "bool") (Bi := Builtin.«object.__init__») (Q₁ := fun r s' => ∃ b, r = .bool b ∧ Q r s') PySem.F.called_bool (PySem.F.typeCall_bool_1 _) PySem.F.entry_object_init ?_ ?_
  · refine codeAny_of_tree ?_
    show wpAny _ A.in1.in1 (do checkBuiltinCall "bool.__new__" ⟨[.type "bool", .ref t], []⟩; again (.builtin "bool.__new__" ⟨[.type "bool", .ref t], []⟩)) _ _ s
    refine wpAny_bind (wpAny_of_eq (PySem.F.newCall_bool_1 _) (wpAny_pure ⟨plainId_quiet (by decide +kernel) _, codeAny_builtin PySem.F.entry_bool_new ?_⟩))
    rw [Around.under_plainId (by decide +kernel) _]
    unfold Builtin.«bool.__new__»
    have f1 := PySem.F.conv_sub_bool
    have go : wpAny (model prog w) A.in1.in1 (truthy (.ref t)) (fun b s' => Q (.bool b) s') E s := truthy_tuple ht hfit (h _)
    refine wpAny_bind (m := isType (.type "bool")) (wpAny_pure ?_)
    refine wpAny_bind (m := isSubtype (.type "bool") (.type "bool")) (wpAny_of_eq f1 ?_)
    refine wpAny_bind (wpAny_pure ?_)
    refine wpAny_bind (m := truthy (.ref t)) (wpAny_mono go (fun b s' hq => ?_) fun _ _ y => y)
    exact wpAny_pure ⟨b, rfl, hq⟩
  · rintro obj s' ⟨b, rfl, hq⟩
    exact ⟨PySem.typeIs_bool _ _, PySem.F.args_object_init_2 _ _, object_init_meets PySem.F.called_bool.init.lookup PySem.F.called_bool.made (by decide) prog w A.in1 _ s' ⟨PySem.typeIs_bool _ _, rfl, hq⟩⟩
end
theorem call_boolT {X : Cx} : CallR X (.type "bool") (fun xs H Q => ∃ (a : Addr) (zs : List V), xs = [.ref a] ∧ SqT X.K H a zs ∧ Q (.bl (!zs.isEmpty)) H) := by
  intro pins s σ H xs us Q I r h
  obtain ⟨a, zs, rfl, hq, q⟩ := h
  obtain rfl := Vals.ref1 r
  obtain ⟨its, rv, pl, hz⟩ := I.tuple hq
  have hl := line63
  have hlen := rv.length
  refine bool_tup (by simp only [List.size_toArray]; omega) pl fun tk => ?_
  exact ⟨.bl (!zs.isEmpty), H, I.tok _, by rw [isEmpty_of rv]; rfl, q⟩
/-! ### a class whose __init__ takes a star -/
structure MakeR (P : Program) (w : World) (K : PySem.W.Frag) (mg : Str → Option Value) (base : Heap) (CX : CXT) (k : Nat) (x : Str) (C : Addr) (sp : Sp) : Prop where
  ex : ∃ f, Mk K C f ∧ FnR P w K mg base CX k f sp ∧ mg x = some (.ref C)
section
variable {X : Cx} {CX : CXT} {k : Nat} {C : Addr} {sp : Sp} {E : XK} {x : Str} {e : Expr} {es : List Expr} {te : TE} {t : TA} {p sp_ pos : Pos}
theorem pe_mkR (M : MakeR X.prog X.w X.K X.mg X.base CX k x C sp) (hr : Room (k + 1) X.A) (hg : Gl X x) (hx : Passes CX X E) (ha : PA X (e :: es) t) (hdb : (x == ("__debug__" : Str)) = false := by decide)
    (he : starEach (e :: es) X.env = (false, eval e X.env) :: starEach es X.env := by rfl) (hpl : (backTo pos (starEach es X.env)).any (·.1) = false := by rfl) : PE X (.Call (.Name x p) (e :: es) [] pos) (StX.tMakeR C sp E t) := by
  obtain ⟨f, mk, F, hm⟩ := M.ex
  exact StX.pe_makeR mk F hr hg hm hx ha hdb he hpl
/-- C() -/
theorem pe_mkR0 (M : MakeR X.prog X.w X.K X.mg X.base CX k x C sp) (hr : Room (k + 1) X.A) (hg : Gl X x) (hx : Passes CX X E) (hdb : (x == ("__debug__" : Str)) = false := by decide) : PE X (.Call (.Name x p) [] [] pos) (StX.tMakeR C sp E tNil) := by
  obtain ⟨f, mk, F, hm⟩ := M.ex
  refine ⟨fun pins s σ H Q I h => ?_⟩
  refine wpAny_Call_Name_kw (ld_glob I hg hm ?_ hdb)
  refine PySem.W.callWith_K0 (first := []) I.kIn mk.kp ?_
  exact StX.run_makeR mk F hr hx I .nil h
/-- C(*e) -/
def tMakeS (K : PySem.W.Frag) (C : Addr) (sp : Sp) (E : XK) (te : TE) : TE := fun σ H Q => te σ H fun y H1 => ∃ a xs, y = V.ref a ∧ (SqT K H1 a xs ∨ SqL K H1 a xs) ∧ ∀ x dx, H1 x = none → H1 dx = none → dx ≠ x →
  sp (V.ref x :: xs) (upd (upd H1 dx (.own x)) x (.ins C dx [])) (fun v H2 => v = .non ∧ Q (.ref x) H2) E
theorem pe_mkS (M : MakeR X.prog X.w X.K X.mg X.base CX k x C sp) (hr : Room (k + 1) X.A) (hg : Gl X x) (hx : Passes CX X E) (he : PE X e te) (hdb : (x == ("__debug__" : Str)) = false := by decide)
    (hst : starEach [.Starred e sp_] X.env = [(true, eval e X.env)] := by rfl) : PE X (.Call (.Name x p) [.Starred e sp_] [] pos) (tMakeS X.K C sp E te) := by
  obtain ⟨f, mk, F, hm⟩ := M.ex
  refine ⟨fun pins s σ H Q I h => ?_⟩
  refine wpAny_Call_Name_kw (ld_glob I hg hm ?_ hdb)
  refine PySem.W.callWith_S (h₀ := X.base) I.ok.mod.kin mk.kp (thn (he.run pins s σ H _ I h) fun v t1 ⟨y, H1, I1, ry, a, xs, ey, hxs, q⟩ => ?_) hst
  subst ey
  obtain rfl : v = Value.ref a := ry
  exact StX.star_any I1 hxs fun us t2 I2 rv => ⟨I2.kIn, StX.run_makeR mk F hr hx I2 rv q⟩
end
/-! ### classmethods -/
theorem fnR_of {P : Program} {w : World} {K : PySem.W.Frag} {mg : Str → Option Value} {base : Heap} {CX : CXT} {k : Nat} {f : Addr} {fd : FuncData} {ps : List Str} {sp : Sp} (F : FnOk P w K mg base CX k f fd ps sp) (b : L2.Binds K fd ps []) : FnR P w K mg base CX k f sp := by
  intro A outer s H us vs Q E hr e0 r hsp
  have hl : (us ++ []).length = ps.length := by
    rw [List.append_nil, ← r.length]
    exact F.len _ _ _ _ hsp
  have hb := b s us (e0.mod.kin.keeps fun b o e => (e0.bs b o e).1) hl
  rw [List.append_nil] at hb
  exact F.run A outer s H ⟨us, []⟩ us vs Q E hr e0 hb r hsp
structure ClsAt (P : Program) (w : World) (K : PySem.W.Frag) (mg : Str → Option Value) (base : Heap) (CX : CXT) (k : Nat) (C : Addr) (m : Str) (sp : Sp) : Prop where
  ex : ∃ mc p g, ClX.CRead K C mc ∧ ClX.CMet K C mc m p g ∧ FnR P w K mg base CX k g sp
theorem pe_cm {X : Cx} {CX : CXT} {k : Nat} {C : Addr} {sp : Sp} {E : XK} {o e : Expr} {es : List Expr} {m : Str} {pos apos : Pos} {ta : TE} {t : TA} {pl : Sem Bool} (M : ClsAt X.prog X.w X.K X.mg X.base CX k C m sp) (hr : Room k X.A) (hx : Passes CX X E) (he : PE X o ta) (ha : PA X (e :: es) t)
    (hst : starEach (e :: es) X.env = (false, eval e X.env) :: starEach es X.env := by rfl) (hpl : (backTo pos (starEach es X.env)).any (·.1) = false := by rfl)
    (ht : eval (.Call (.Attribute o m apos) (e :: es) [] pos) X.env = (do
      let ov ← eval o X.env
      standAt apos.atName
      let (f, first) ← holding [ov] (getMethod ov m pl)
      callWith pos f first (backTo pos (starEach (e :: es) X.env)) (backToKw pos (keywordEach [] X.env))) := by rfl) :
    PE X (.Call (.Attribute o m apos) (e :: es) [] pos) (ClX.tCMeth C sp E ta t) := by
  obtain ⟨mc, p, g, r, c, F⟩ := M.ex
  exact ClX.pe_cmeth he r c F hr hx ha hst hpl ht
/-! ### x[k] by an own __getitem__ -/
structure GetAt (P : Program) (w : World) (K : PySem.W.Frag) (mg : Str → Option Value) (base : Heap) (CX : CXT) (k : Nat) (C : Addr) (ps : List Str) (sp : Sp) : Prop where
  ex : ∃ f fd, PySem.W.findIn K (.ref C) "__getitem__" = some (some (.ref f)) ∧ PySem.W.isFn K (.ref f) = true ∧ PySem.W.fnIn K f = true ∧ FnOk P w K mg base CX k f fd ps sp ∧ L2.Binds K fd ps []
def tGet (C : Addr) (sp : Sp) (E : XK) (ta tb : TE) : TE := fun σ H Q => ta σ H fun x H1 => tb σ H1 fun y H2 => ∃ a dx fs, x = .ref a ∧ H2 a = some (.ins C dx fs) ∧ sp [x, y] H2 Q E
theorem pe_get {X : Cx} {CX : CXT} {k : Nat} {C : Addr} {ps : List Str} {sp : Sp} {E : XK} {a b : Expr} {ta tb : TE} {pos : Pos} (M : GetAt X.prog X.w X.K X.mg X.base CX k C ps sp) (hr : Room (k + 1) X.A) (hx : Passes CX X E) (ha : PE X a ta) (hb : PE X b tb)
    (hsl : ∀ (x : Addr) (i : Value), subscripted b true (.ref x) i = runValue (.builtin "lifetime.subscript" ⟨[.ref x, i], []⟩) := by intro _ _; with_unfolding_all rfl) : PE X (.Subscript a b pos) (tGet C sp E ta tb) := by
  obtain ⟨f, fd, hs, hf, hfn, F, hbd⟩ := M.ex
  refine ⟨fun pins s σ H Q I h => ?_⟩
  refine Subscript_ (binT ha hb I h fun v u s2 x y H2 I2 rx ry q => ?_)
  obtain ⟨p, dx, fs, rfl, hp, hsp⟩ := q
  obtain rfl : v = Value.ref p := rx
  obtain ⟨ox, od, J, _⟩ := ins_plain I2 hp
  obtain ⟨m', hF⟩ := I2.fr
  have U : Und X k X.A.in1 := (Und.here hr).in1
  exact PySem.W.sub_K hF I2.ok.mod.kin J hs hfn hf (run_at (vs := [.ref p, y]) F hbd hx U I2 (.cons rfl (.cons ry .nil)) hsp) (hsl _ _)
end My
/-! A class made by a star, a classmethod, an own __getitem__, from what the top finds. -/
namespace My
open PySem PySem.Spec PyProof.Rows L2
theorem nm_at : Sup.Nm "at" := ⟨by decide, by decide, by decide, by decide, fun _ _ _ _ _ _ _ _ _ _ _ _ => rfl⟩
theorem nm_value : Sup.Nm "value" := ⟨by decide, by decide, by decide, by decide, fun _ _ _ _ _ _ _ _ _ _ _ _ => rfl⟩
structure HasCM (K : PySem.W.Frag) (C : Addr) (m qual : Str) (st : Stmt) : Prop where
  ex : ∃ mc p g fd, ClX.CRead K C mc ∧ ClX.CMet K C mc m p g ∧ Fun K m qual st g fd
section
variable {P : Program} {w : World} {K : PySem.W.Frag} {mg : Str → Option Value} {base : Heap} {CX : CXT} {k : Nat} {x m qual : Str} {st : Stmt} {ps ks : List Str} {sp : Sp} {C : Addr}
theorem makeR_at (A : HasM K C "__init__" qual st) (hx : mg x = some (.ref C)) (mk : PySem.W.makesIn K C = true) (kp : PySem.W.keepIn K (.ref C) = true)
    (ok : ∀ (f : Addr) (oc : Value) (od : Option Addr) (kV doc pm : Value) (an : Option Addr) (cdv ct : Value) (osl : Array (Option Value)), K.lookup f = some ⟨oc, od, .func (PySem.W.fnOf "__init__" qual (defArgs st) (defBody st) (defScope st) .none kV doc pm an cdv ct), osl⟩ → PySem.W.codeIn K cdv qual = true → FnR P w K mg base CX k f sp) : MakeR P w K mg base CX k x C sp := by
  obtain ⟨f, fd, h1, h2, F⟩ := A.ex
  obtain ⟨oc, od, kV, doc, pm, an, cdv, ct, osl, rfl, lk, hcd⟩ := F.ex
  exact ⟨f, ⟨mk, h1, h2, kp⟩, ok f _ _ _ _ _ _ _ _ _ lk hcd, hx⟩
theorem cls_at (A : HasCM K C m qual st) (ok : ∀ f fd, Fun K m qual st f fd → FnOk P w K mg base CX k f fd ps sp) (b : BindW m qual st ps) : ClsAt P w K mg base CX k C m sp := by
  obtain ⟨mc, p, g, fd, h1, h2, F⟩ := A.ex
  exact ⟨mc, p, g, h1, h2, fnR_of (ok g fd F) (F.binds b)⟩
theorem get_at (A : HasM K C "__getitem__" qual st) (ok : ∀ f fd, Fun K "__getitem__" qual st f fd → FnOk P w K mg base CX k f fd ps sp) (b : BindW "__getitem__" qual st ps) : GetAt P w K mg base CX k C ps sp := by
  obtain ⟨f, fd, h1, h2, F⟩ := A.ex
  have F' := F
  obtain ⟨oc, od, kV, doc, pm, an, cdv, ct, osl, rfl, lk, _⟩ := id F.ex
  refine ⟨f, _, h1, h2, ?_, ok f _ F', F'.binds b⟩
  unfold PySem.W.fnIn
  rw [lk]
end
end My
/-! The head by one kernel run: what is looked at behind the top, and the end that goes with it. -/
namespace My
open PySem PySem.Spec PyProof.Rows L2 He
/-! ### what is looked at -/
/-- what is read off the heap, by names -/
inductive Sel where
  | fn (x : Str)
  | cls (x : Str)
  | meth (x m : Str)
  | rcd (x m : Str)
def nsG (g : Addr → Option Obj) (d : Addr) (x : Str) : Addr := match g d with
  | some ⟨_, _, .dict es _, _⟩ => (match es.toList.find? (·.key.isStr x) with
    | some e => (match e.val with
      | .ref a => a
      | _ => 0)
    | none => 0)
  | _ => 0
def clsNs (g : Addr → Option Obj) (C : Addr) : Addr := match g C with
  | some ⟨_, _, .cls cd, _⟩ => cd.ns
  | _ => 0
def mroG (g : Addr → Option Obj) (C : Addr) : List Addr := match g C with
  | some ⟨_, _, .cls cd, _⟩ => cd.mro.flatMap fun v => match v with
    | .ref D => [D, clsNs g D]
    | _ => []
  | _ => []
def fnRefs (g : Addr → Option Obj) (f : Addr) : List Addr := match g f with
  | some ⟨_, _, .func fd, _⟩ => f :: (refV fd.code ++ (refV fd.defaults ++ fd.closure.map (·.2)))
  | _ => []
def recRefs (g : Addr → Option Obj) (p : Addr) : List Addr := match g p with
  | some ⟨_, _, .fields vs, _⟩ => p :: (match vs.toList with
    | .ref f :: _ => fnRefs g f
    | _ => [])
  | _ => []
def Sel.adr (g : Addr → Option Obj) : Sel → List Addr
  | .fn x => fnRefs g (nsG g mainGlobals x)
  | .cls x => mroG g (nsG g mainGlobals x)
  | .meth x m => fnRefs g (nsG g (clsNs g (nsG g mainGlobals x)) m)
  | .rcd x m => recRefs g (nsG g (clsNs g (nsG g mainGlobals x)) m)
def asM (g : Addr → Option Obj) (sl : List Sel) : List Addr := mainGlobals :: cStatics :: sl.flatMap fun x => x.adr g
/-- one def: where it stands, its names, its statement, its defaults -/
structure FD where
  at_ : PySem.W.Frag → Addr
  nm : Str
  qual : Str
  st : Stmt
  dfl : List Dv := []
abbrev FV : Type := Option (Str × Str × Arguments × FuncBody × Scope)
def fv (K : PySem.W.Frag) (a : Addr) : FV := match K.lookup a with
  | some ⟨_, _, .func fd, _⟩ => some (fd.name, fd.qualname, fd.params, fd.body, fd.scope)
  | _ => none
def FD.val (d : FD) : FV := some (d.nm, d.qual, defArgs d.st, .stmts (defBody d.st), defScope d.st)
/-- a plain def -/
def fdB (K : PySem.W.Frag) (a : Addr) (qual : Str) (dvs : List V) : Bool := match K.lookup a with
  | some ⟨_, _, .func fd, _⟩ => decide (fd.globals = mainGlobals) && (decide (fd.builtins = builtinsNs) && (fd.closure.isEmpty && (PySem.W.codeIn K fd.code qual && (dflB K fd.defaults dvs && (decide (fd.kwdefaults = .none) && PySem.W.keepIn K (.ref a))))))
  | _ => false
/-- a def with its class in its closure -/
def fdC (K : PySem.W.Frag) (a : Addr) (qual : Str) (C : Addr) : Bool := match K.lookup a with
  | some ⟨_, _, .func fd, _⟩ => decide (fd.globals = mainGlobals) && (decide (fd.builtins = builtinsNs) && (PySem.W.codeIn K fd.code qual && (decide (fd.defaults = .none) && (decide (fd.kwdefaults = .none) && (match fd.closure with
    | [(x, cc)] => decide (x = ("__class__" : Str)) && (match K.lookup cc with
      | some ⟨_, _, .cell (some (.ref C')), _⟩ => decide (C' = C)
      | _ => false)
    | _ => false)))))
  | _ => false
theorem fdB_ok {K : PySem.W.Frag} {a : Addr} {nm qual : Str} {st : Stmt} {dvs : List V} (e : fv K a = some (nm, qual, defArgs st, .stmts (defBody st), defScope st)) (h : fdB K a qual dvs = true) : ∃ oc od dV doc pm an cdv ct osl,
    K.lookup a = some ⟨oc, od, .func (PySem.W.fnOf nm qual (defArgs st) (defBody st) (defScope st) dV .none doc pm an cdv ct), osl⟩ ∧ PySem.W.codeIn K cdv qual = true ∧ DflV K dV dvs ∧ PySem.W.keepIn K (.ref a) = true := by
  unfold fv at e
  unfold fdB at h
  cases q : K.lookup a with
  | none => rw [q] at h; cases h
  | some o =>
    obtain ⟨oc, od, dt, osl⟩ := o
    rw [q] at h e
    cases dt with
    | func fd =>
      obtain ⟨n1, n2, n3, n4, n5, n6, n7, n8, n9, n10, n11, n12, n13, n14, n15⟩ := fd
      have e2 : (some (n1, n2, n3, n4, n5) : FV) = some (nm, qual, defArgs st, .stmts (defBody st), defScope st) := e
      simp only [Option.some.injEq, Prod.mk.injEq] at e2
      obtain ⟨h1, h2, h3, h4, h5⟩ := e2
      subst h1 h2 h3 h4 h5
      obtain ⟨k1, h⟩ := ba h
      obtain ⟨k2, h⟩ := ba h
      obtain ⟨k3, h⟩ := ba h
      obtain ⟨k4, h⟩ := ba h
      obtain ⟨k5, h⟩ := ba h
      obtain ⟨k6, k7⟩ := ba h
      have l1 : n6 = mainGlobals := of_decide_eq_true k1
      have l2 : n15 = builtinsNs := of_decide_eq_true k2
      have l3 : n7 = [] := List.isEmpty_iff.mp k3
      have l6 : n9 = Value.none := of_decide_eq_true k6
      subst l1 l2 l3 l6
      exact ⟨oc, od, n8, n10, n11, n12, n13, n14, osl, rfl, k4, dflB_ok k5, k7⟩
    | _ => cases h
theorem fdC_ok {K : PySem.W.Frag} {a C : Addr} {nm qual : Str} {st : Stmt} (e : fv K a = some (nm, qual, defArgs st, .stmts (defBody st), defScope st)) (h : fdC K a qual C = true) : ∃ oc od doc pm an cda ct cc osl,
    K.lookup a = some ⟨oc, od, .func (PySem.W.ksFn nm qual (defArgs st) (defBody st) (defScope st) .none .none doc pm an (.ref cda) ct cc), osl⟩ ∧ PySem.W.codeIn K (.ref cda) qual = true ∧ ∃ cl cld csl, K.lookup cc = some ⟨cl, cld, .cell (some (.ref C)), csl⟩ := by
  unfold fv at e
  unfold fdC at h
  cases q : K.lookup a with
  | none => rw [q] at h; cases h
  | some o =>
    obtain ⟨oc, od, dt, osl⟩ := o
    rw [q] at h e
    cases dt with
    | func fd =>
      obtain ⟨n1, n2, n3, n4, n5, n6, n7, n8, n9, n10, n11, n12, n13, n14, n15⟩ := fd
      have e2 : (some (n1, n2, n3, n4, n5) : FV) = some (nm, qual, defArgs st, .stmts (defBody st), defScope st) := e
      simp only [Option.some.injEq, Prod.mk.injEq] at e2
      obtain ⟨h1, h2, h3, h4, h5⟩ := e2
      subst h1 h2 h3 h4 h5
      obtain ⟨k1, h⟩ := ba h
      obtain ⟨k2, h⟩ := ba h
      obtain ⟨k4, h⟩ := ba h
      obtain ⟨k5, h⟩ := ba h
      obtain ⟨k6, k7⟩ := ba h
      have l1 : n6 = mainGlobals := of_decide_eq_true k1
      have l2 : n15 = builtinsNs := of_decide_eq_true k2
      have l5 : n8 = Value.none := of_decide_eq_true k5
      have l6 : n9 = Value.none := of_decide_eq_true k6
      subst l1 l2 l5 l6
      obtain ⟨cda, l4⟩ := codeIn_ref k4
      have l4 : n13 = Value.ref cda := l4
      subst l4
      match n7, k7 with
      | [(x, cc)], k7 =>
        obtain ⟨m1, m2⟩ := ba k7
        have m1 : x = ("__class__" : Str) := of_decide_eq_true m1
        subst m1
        refine ⟨oc, od, n10, n11, n12, cda, n14, cc, osl, rfl, k4, ?_⟩
        cases q2 : K.lookup cc with
        | none => rw [q2] at m2; cases m2
        | some o2 =>
          obtain ⟨cl, cld, cdt, csl⟩ := o2
          rw [q2] at m2
          cases cdt with
          | cell v =>
            match v, m2 with
            | some (.ref C'), m2 =>
              have m3 : C' = C := of_decide_eq_true m2
              subst m3
              exact ⟨cl, cld, csl, rfl⟩
          | _ => cases m2
    | _ => cases h
/-! ### where things stand -/
def refB : Option (List Value) → Bool
  | some (.ref _ :: _) => true
  | _ => false
def refA : Option (List Value) → Addr
  | some (.ref f :: _) => f
  | _ => 0
theorem refB_ok : ∀ {l : Option (List Value)}, refB l = true → ∃ rest, l = some (.ref (refA l) :: rest)
  | none, h => by cases h
  | some [], h => by cases h
  | some (v :: r), h => by
    cases v with
    | ref f => exact ⟨r, rfl⟩
    | _ => cases h
def strQ : Option Value → Str → Bool
  | some (.str file _), f => f == file
  | _, _ => false
theorem strQ_ok : ∀ {o : Option Value} {f : Str}, strQ o f = true → ∃ file tf, o = some (.str file tf) ∧ (f == file) = true
  | none, _, h => by cases h
  | some v, f, h => by
    cases v with
    | str file tf => exact ⟨file, tf, rfl, h⟩
    | _ => cases h
def sAt (t : String) (K : PySem.W.Frag) (C : Addr) (m : Str) : Addr := match PySem.W.findCls K (.ref C) (.type "type") m with
  | some (.get _ (.ref p) _ _) => refA (PySem.W.recIn K p t)
  | _ => 0
def pAt (K : PySem.W.Frag) (C : Addr) (m : Str) : Addr := match PySem.W.findIn K (.ref C) m with
  | some (some (.ref p)) => refA (PySem.W.recIn K p "property")
  | _ => 0
def cAt (K : PySem.W.Frag) (f : Addr) : Addr := match K.lookup f with
  | some ⟨_, _, .func fd, _⟩ => (match fd.code with
    | .ref c => c
    | _ => 0)
  | _ => 0
theorem cAt_eq {K : PySem.W.Frag} {f : Addr} {oc : Value} {od : Option Addr} {osl : Array (Option Value)} {fd : FuncData} {c : Addr} (lk : K.lookup f = some ⟨oc, od, .func fd, osl⟩) (e : fd.code = .ref c) : cAt K f = c := by
  unfold cAt
  rw [lk]
  show (match fd.code with | .ref c => c | _ => 0) = c
  rw [e]
/-! ### the hook -/
abbrev AM : Type := Bool × List FV
def tabM (g : Addr → Option Obj) (tf : List (PySem.W.Frag → Addr)) (K : PySem.W.Frag) : Bool := tf.all fun f => PySem.W.codeHdIn K (cAt K (f K)) (tabOf K (cAt K (f K))) && (match g (tabOf K (cAt K (f K))) with
  | some o => emptyTab o
  | none => false)
def obsK (g : Addr → Option Obj) (fs : List (PySem.W.Frag → Bool)) (fn : List FD) (tf : List (PySem.W.Frag → Addr)) (K : PySem.W.Frag) : AM := ((fs.all fun f => f K) && tabM g tf K, fn.map fun d => fv K (d.at_ K))
def obsM (n : List Sel) (fs : List (PySem.W.Frag → Bool)) (fn : List FD) (tf : List (PySem.W.Frag → Addr)) (g : Addr → Option Obj) : AM := obsK g fs fn tf (frT g (asM g n))
def valM (fn : List FD) : AM := (true, fn.map FD.val)
structure SaysM (fs : List (PySem.W.Frag → Bool)) (fn : List FD) (tf : List (PySem.W.Frag → Addr)) (h : Heap) (K : PySem.W.Frag) : Prop where
  facts : ∀ (i : Nat) (f : PySem.W.Frag → Bool), fs[i]? = some f → f K = true
  defs : ∀ (i : Nat) (d : FD), fn[i]? = some d → fv K (d.at_ K) = d.val
  hd : ∀ (i : Nat) (f : PySem.W.Frag → Addr), tf[i]? = some f → PySem.W.codeHdIn K (cAt K (f K)) (tabOf K (cAt K (f K))) = true
  out : ∀ (i : Nat) (f : PySem.W.Frag → Addr), tf[i]? = some f → K.lookup (tabOf K (cAt K (f K))) = none
  empty : ∀ (i : Nat) (f : PySem.W.Frag → Addr), tf[i]? = some f → h.get? (tabOf K (cAt K (f K))) = some { cls := .none, data := .fields #[] }
theorem saysM_of {n : List Sel} {fs : List (PySem.W.Frag → Bool)} {fn : List FD} {tf : List (PySem.W.Frag → Addr)} {h : Heap} (e : obsM n fs fn tf h.get? = valM fn) : SaysM fs fn tf h (frT h.get? (asM h.get? n)) := by
  have e1 : ((fs.all fun f => f (frT h.get? (asM h.get? n))) && tabM h.get? tf (frT h.get? (asM h.get? n))) = true := congrArg (fun z : AM => z.1) e
  have e2 : (fn.map fun d => fv (frT h.get? (asM h.get? n)) (d.at_ (frT h.get? (asM h.get? n)))) = fn.map FD.val := congrArg (fun z : AM => z.2) e
  obtain ⟨h1, h2⟩ := ba e1
  have key : ∀ (i : Nat) (f : PySem.W.Frag → Addr), tf[i]? = some f → PySem.W.codeHdIn (frT h.get? (asM h.get? n)) (cAt (frT h.get? (asM h.get? n)) (f (frT h.get? (asM h.get? n)))) (tabOf (frT h.get? (asM h.get? n)) (cAt (frT h.get? (asM h.get? n)) (f (frT h.get? (asM h.get? n))))) = true ∧
      ∃ o, h.get? (tabOf (frT h.get? (asM h.get? n)) (cAt (frT h.get? (asM h.get? n)) (f (frT h.get? (asM h.get? n))))) = some o ∧ emptyTab o = true := fun i f hi => by
    obtain ⟨h3, h4⟩ := ba (List.all_eq_true.mp h2 f (List.mem_of_getElem? hi))
    refine ⟨h3, ?_⟩
    cases q : h.get? (tabOf (frT h.get? (asM h.get? n)) (cAt (frT h.get? (asM h.get? n)) (f (frT h.get? (asM h.get? n))))) with
    | none =>
      rw [q] at h4
      cases h4
    | some o =>
      rw [q] at h4
      exact ⟨o, rfl, h4⟩
  refine ⟨fun i f hi => List.all_eq_true.mp h1 f (List.mem_of_getElem? hi), fun i d hi => ?_, fun i f hi => (key i f hi).1, fun i f hi => ?_, fun i f hi => ?_⟩
  · have e3 : (fn.map fun d => fv (frT h.get? (asM h.get? n)) (d.at_ (frT h.get? (asM h.get? n))))[i]? = (fn.map FD.val)[i]? := by rw [e2]
    rw [List.getElem?_map, List.getElem?_map, hi] at e3
    exact Option.some.inj e3
  · obtain ⟨_, o, q, z⟩ := key i f hi
    exact frT_none q z
  · obtain ⟨_, o, q, z⟩ := key i f hi
    rw [q, emptyTab_eq z]
def hookM (n : List Sel) (fs : List (PySem.W.Frag → Bool)) (fn : List FD) (tf : List (PySem.W.Frag → Addr)) : PySem.W.Hook where
  α := AM
  obs := fun s => obsM n fs fn tf s.heap.get?
  val := fun _ => valM fn
  says := fun _ h => ∃ K : PySem.W.Frag, K.In h ∧ SaysM fs fn tf h K
  of := fun _ _ e => ⟨_, frT_in, saysM_of e⟩
  keeps := fun _ _ _ ⟨K, hK, c⟩ k => ⟨K, PySem.W.Frag.In.keeps hK k, ⟨c.facts, c.defs, c.hd, c.out, fun i f hi => k _ _ (c.empty i f hi)⟩⟩
theorem obsM_eq {n : List Sel} {fs : List (PySem.W.Frag → Bool)} {fn : List FD} {tf : List (PySem.W.Frag → Addr)} {g : Addr → Option Obj} {s : Shared} (h : ∀ a, g a = s.heap.get? a) : obsM n fs fn tf g = (hookM n fs fn tf).obs s := by
  have e : g = s.heap.get? := funext h
  rw [e] <;> rfl
/-! ### the end -/
theorem walk_GE {l : PySem.W.OpenLaw} {n k : Nat} {q : Program} {loose : List Str} {XP : (Str → Option Value) → Heap → Prop} {YP : World → Heap → Prop} {d : DefRec} {x : Str}
    (hn : l.most = some n) (hn2 : n ≤ sizeLine) (hdf : d.params.defaults = []) (hr : Room k callerA)
    (F : ∀ (w : World) (mg : Str → Option Value) (fa : Addr) (h : Heap), YP w h → h.Ns mainGlobals mg → mg d.name = some (.ref fa) → ∃ K : PySem.W.Frag, K.In h ∧ LawG l w K k n x mg fa h) :
    PySem.W.WalkO q loose XP YP l.row.toRowW d [] (fun f vs => PySem.call f vs) := by
  refine Att.attach_callB hn hdf fun w s₀ s₁ mg mb fa o pm cd doc a vs ns G Y ho hd hcd hmg hobj hints hlen hbits hg => ?_
  obtain ⟨K, KX, fd, cs, sp, ts, hb, hsp, hF⟩ := F w mg fa _ Y G.T.g hmg
  obtain ⟨H, B⟩ := begins (P := l.prog) (w := w) KX ts hobj hints (Nat.le_trans hlen hn2)
  exact from_begin B KX G.T.g G.T.b G.T.builtins G.T.nolimit hg ts G.T.bmain hobj hr hF hb (hsp H a ns hlen hbits B.tbl B.seq)
/-! ### facts -/
section
variable {K : PySem.W.Frag} {h : Heap} {mg : Str → Option Value} {fs : List (PySem.W.Frag → Bool)} {fn : List FD} {tf : List (PySem.W.Frag → Addr)}
theorem gloM (X : K.In h) (G : h.Ns mainGlobals mg) {x : Str} (c : (Fa.glo x).ok K = true) : mg x = some (.ref (ga K x)) := glo_ok X G c
theorem freeM (X : K.In h) (G : h.Ns mainGlobals mg) {x : Str} (c : (Fa.free x).ok K = true) : mg x = none := free_ok X G c
/-- an attribute of a class that is an object -/
def attB (K : PySem.W.Frag) (C : Addr) (m : Str) : Bool := eqO (PySem.W.findIn K (.ref C) m) (some (some (.ref (ma K C m))))
def fnB (K : PySem.W.Frag) (C : Addr) (m : Str) : Bool := attB K C m && PySem.W.isFn K (.ref (ma K C m))
def statB (K : PySem.W.Frag) (C : Addr) (m : Str) : Bool := eqO (PySem.W.specialIn K (.ref C) "__getattribute__") (some (some (.builtin "type.__getattribute__"))) && (PySem.W.readsIn K C (.type "type") && (PySem.W.keepIn K (.ref (sAt "staticmethod" K C m)) && (match PySem.W.findCls K (.ref C) (.type "type") m with
  | some (.get g (.ref p) o t) => decide (g = .builtin "staticmethod.__get__") && (decide (o = .none) && (decide (t = .ref C) && refB (PySem.W.recIn K p "staticmethod")))
  | _ => false)))
theorem statB_ok {C : Addr} {m : Str} (h : statB K C m = true) : Stat K C m (sAt "staticmethod" K C m) := by
  unfold statB at h
  obtain ⟨h1, h⟩ := ba h
  obtain ⟨h2, h⟩ := ba h
  obtain ⟨h3, h⟩ := ba h
  refine ⟨eqO_ok h1, ⟨.type "type", ?_⟩, h3⟩
  unfold sAt at h3 ⊢
  cases q : PySem.W.findCls K (.ref C) (.type "type") m with
  | none => rw [q] at h; cases h
  | some r =>
    rw [q] at h
    cases r with
    | val v => cases h
    | get g a o t =>
      cases a with
      | ref p =>
        obtain ⟨k1, h5⟩ := ba h
        obtain ⟨k2, h6⟩ := ba h5
        obtain ⟨k3, h7⟩ := ba h6
        have k1 := of_decide_eq_true k1
        have k2 := of_decide_eq_true k2
        have k3 := of_decide_eq_true k3
        subst k1 k2 k3
        obtain ⟨rest, e⟩ := refB_ok h7
        exact ⟨p, rest, h2, rfl, e⟩
      | _ => cases h
def cmetB (K : PySem.W.Frag) (C : Addr) (m : Str) : Bool := PySem.W.fnIn K (sAt "classmethod" K C m) && (match PySem.W.findCls K (.ref C) (.type "type") m with
  | some (.get g (.ref p) o t) => decide (g = .builtin "classmethod.__get__") && (decide (o = .none) && (decide (t = .ref C) && refB (PySem.W.recIn K p "classmethod")))
  | _ => false)
theorem cmetB_ok {C : Addr} {m : Str} (h : cmetB K C m = true) : ∃ p, ClX.CMet K C (.type "type") m p (sAt "classmethod" K C m) := by
  unfold cmetB at h
  obtain ⟨h3, h⟩ := ba h
  unfold sAt at h3 ⊢
  cases q : PySem.W.findCls K (.ref C) (.type "type") m with
  | none => rw [q] at h; cases h
  | some r =>
    rw [q] at h h3
    cases r with
    | val v => cases h
    | get g a o t =>
      cases a with
      | ref p =>
        obtain ⟨k1, h5⟩ := ba h
        obtain ⟨k2, h6⟩ := ba h5
        obtain ⟨k3, h7⟩ := ba h6
        have k1 := of_decide_eq_true k1
        have k2 := of_decide_eq_true k2
        have k3 := of_decide_eq_true k3
        subst k1 k2 k3
        exact ⟨p, q, refB_ok h7, h3⟩
      | _ => cases h
def creadB (K : PySem.W.Frag) (C : Addr) : Bool := PySem.W.readsIn K C (.type "type") && eqO (PySem.W.specialIn K (.ref C) "__getattribute__") (some (some (.builtin "type.__getattribute__")))
theorem creadB_ok {C : Addr} (h : creadB K C = true) : ClX.CRead K C (.type "type") := by
  obtain ⟨h1, h2⟩ := ba h
  exact ⟨h1, eqO_ok h2⟩
def cvalB (K : PySem.W.Frag) (C : Addr) (f : Str) (v : Dv) : Bool := match PySem.W.findCls K (.ref C) (.type "type") f with
  | some (.val u) => relB (v.v K) u
  | _ => false
theorem cvalB_ok {C : Addr} {f : Str} {v : Dv} (h : cvalB K C f v = true) : ∃ u, ClX.CVal K C (.type "type") f (v.v K) u := by
  unfold cvalB at h
  cases q : PySem.W.findCls K (.ref C) (.type "type") f with
  | none => rw [q] at h; cases h
  | some r =>
    rw [q] at h
    cases r with
    | val u => exact ⟨u, q, relB_ok h⟩
    | get _ _ _ _ => cases h
def propB (K : PySem.W.Frag) (C : Addr) (f : Str) : Bool := attB K C f && (eqO (PySem.W.specialIn K (.ref (ma K C f)) "__get__") (some (some (.builtin "property.__get__"))) && (decide (PySem.W.takesIn K (.ref (ma K C f)) = some true) && refB (PySem.W.recIn K (ma K C f) "property")))
theorem propB_ok {C : Addr} {f : Str} (h : propB K C f = true) : PropOf K C f (ma K C f) (pAt K C f) := by
  obtain ⟨h1, h⟩ := ba h
  obtain ⟨h2, h⟩ := ba h
  obtain ⟨h3, h⟩ := ba h
  have h1 := eqO_ok h1
  refine ⟨h1, eqO_ok h2, of_decide_eq_true h3, ?_⟩
  unfold pAt
  rw [h1]
  exact refB_ok h
def excO (K : PySem.W.Frag) (C : Addr) : Bool := (match K.lookup C with
  | some ⟨.type "type", _, .cls cd, sl⟩ => (match cd.mro, sl.toList with
    | .ref C' :: bm, [_, _, _, _, some (.builtin n), _] => C' == C && (n == "ValueError.__new__" && (!cd.hasDel && (cd.hasDict && PySem.HandSPX.refsVE bm)))
    | _, _ => false)
  | _ => false) && (eqO (PySem.W.findIn K (.ref C) "__setattr__") (some (some (.builtin "object.__setattr__"))) && (decide (PySem.W.subIn K (.ref C) (.type "BaseException") = some true) && (decide (PySem.W.typeIn K (.ref C) = some (.type "type")) && PySem.W.keepIn K (.ref C))))
theorem excO_ok {C : Addr} (h : excO K C = true) : L2.OexC K C := by
  obtain ⟨h0, h⟩ := ba h
  obtain ⟨h1, h⟩ := ba h
  obtain ⟨h2, h⟩ := ba h
  obtain ⟨h3, h4⟩ := ba h
  refine ⟨?_, eqO_ok h1, of_decide_eq_true h2, of_decide_eq_true h3, h4⟩
  split at h0
  · rename_i dd cd sl ho
    split at h0
    · rename_i C' bm k0 k1 k2 k3 n k5 hm hs
      simp only [Bool.and_eq_true, beq_iff_eq, Bool.not_eq_true'] at h0
      obtain ⟨rfl, rfl, hdel, hdic, ht⟩ := h0
      obtain ⟨nm, bs, mro, ns, qn, hd, sn, sub, ab, col, del⟩ := cd
      dsimp only at hm hdel hdic
      subst hm hdel hdic
      have hsl : sl = #[k0, k1, k2, k3, some (.builtin "ValueError.__new__"), k5] := by
        obtain ⟨l⟩ := sl
        simp only at hs
        rw [hs]
      subst hsl
      exact ⟨nm, qn, ns, bs, bm, sn, sub, ab, col, dd, k0, k1, k2, k3, k5, ho, ht⟩
    · cases h0
  · cases h0
def fileB (P : Program) (K : PySem.W.Frag) (f : Addr) : Bool := match K.lookup (cAt K f) with
  | some ⟨_, _, .fields vs, _⟩ => strQ (vs[2]? : Option Value) P.main.file
  | _ => false
theorem fileB_ok {P : Program} {f : Addr} (h : fileB P K f = true) : ∃ ccl cdd vs ccs file tf, K.lookup (cAt K f) = some ⟨ccl, cdd, .fields vs, ccs⟩ ∧ vs[2]? = some (.str file tf) ∧ ((P.main.file : Str) == file) = true := by
  unfold fileB at h
  cases q : K.lookup (cAt K f) with
  | none => rw [q] at h; cases h
  | some o =>
    obtain ⟨ccl, cdd, dt, ccs⟩ := o
    rw [q] at h
    cases dt with
    | fields vs =>
      obtain ⟨file, tf, e1, e2⟩ := strQ_ok h
      exact ⟨ccl, cdd, vs, ccs, file, tf, rfl, e1, e2⟩
    | _ => cases h
/-- an error of one field -/
def err1B (P : Program) (K : PySem.W.Frag) (x f qual : Str) : Bool := (Fa.glo x).ok K && (excO K (ga K x) && (xfB K (ga K x) && (eqO (PySem.W.findIn K (.ref (ga K x)) f) (some none) && (attB K (ga K x) "__init__" && (decide (PySem.W.typeIn K (.ref (ma K (ga K x) "__init__")) = some (.type "function")) &&
  (fdC K (ma K (ga K x) "__init__") qual (ga K x) && (fileB P K (ma K (ga K x) "__init__") && (eqO (PySem.W.ks_superIn K (ga K x) (ga K x) "__init__") (some (some (.builtin "ValueError.__init__"))) && (decide (PySem.W.subIn K (.ref (ga K x)) (.type "ValueError") = some true) && (decide (PySem.W.mroIn K (ga K x) (.ref (ga K x)) = some true) &&
  ((Fa.free "super").ok K && eqO (PySem.W.nsIn K cStatics "thirdparty.any") (some none))))))))))))
theorem err1_ok {P : Program} (X : K.In h) (G : h.Ns mainGlobals mg) {x f qual : Str} {st : Stmt} (nm : Sup.Nm f) (c : err1B P K x f qual = true) (e : fv K (ma K (ga K x) "__init__") = (some (("__init__" : Str), qual, defArgs st, FuncBody.stmts (defBody st), defScope st) : FV))
    (ha : ∃ p1 p2, defArgs st = Sup.a1 f p1 p2) (hb : ∃ q1 q2 q3 q4 q5 q6 r1 r2 r3 r4, defBody st = Sup.b1 f q1 q2 q3 q4 q5 q6 r1 r2 r3 r4 ∧ (q3.endLine == q5.line) = true) (hs : defScope st = Sup.s1 f) (top : (P.main.scope.names.lookup ("super" : Str)).isSome = false) :
    Sup.Err1 P K mg x f (ga K x) (ma K (ga K x) "__init__") := by
  obtain ⟨c1, c⟩ := ba c
  obtain ⟨c2, c⟩ := ba c
  obtain ⟨c3, c⟩ := ba c
  obtain ⟨c4, c⟩ := ba c
  obtain ⟨c5, c⟩ := ba c
  obtain ⟨c6, c⟩ := ba c
  obtain ⟨c7, c⟩ := ba c
  obtain ⟨c8, c⟩ := ba c
  obtain ⟨c9, c⟩ := ba c
  obtain ⟨c10, c⟩ := ba c
  obtain ⟨c11, c⟩ := ba c
  obtain ⟨c12, c13⟩ := ba c
  obtain ⟨oc, od, doc, pm, an, cda, ct, cc, osl, lk, hcd, hcell⟩ := fdC_ok e c7
  obtain ⟨p1, p2, ha⟩ := ha
  obtain ⟨q1, q2, q3, q4, q5, q6, r1, r2, r3, r4, hb, hq⟩ := hb
  have hf := fileB_ok c8
  rw [cAt_eq lk rfl] at hf
  rw [ha, hb, hs] at lk
  obtain ⟨ccl, cdd, vs, ccs, file, tf, f1, f2, f3⟩ := hf
  exact ⟨glo_ok X G c1, excO_ok c2, xfB_ok c3, eqO_ok c4, nm, eqO_ok c5, of_decide_eq_true c6, ⟨qual, oc, od, doc, pm, an, cda, ct, cc, osl, p1, p2, q1, q2, q3, q4, q5, q6, r1, r2, r3, r4, lk, hcd, hcell, ccl, cdd, vs, ccs, file, tf, f1, f2, f3, hq⟩, eqO_ok c9, of_decide_eq_true c10, of_decide_eq_true c11, free_ok X G c12, eqO_ok c13, top⟩
def excKB (K : PySem.W.Frag) (C : Addr) : Bool := (PySem.W.clsIn K C).isSome && (eqO (PySem.W.findIn K (.ref C) "__getattribute__") (some (some (.builtin "BaseException.__getattribute__"))) && (eqO (PySem.W.findIn K (.ref C) "__getattr__") (some none) && (decide (PySem.W.subIn K (.ref C) (.type "BaseException") = some true) &&
  (eqO (PySem.W.findIn K (.ref C) "__class__") (some (some (.builtin "object.__class__"))) && (eqO (PySem.W.specialIn K (.builtin "object.__class__") "__get__") (some (some (.builtin "getset_descriptor.__get__"))) && (decide (PySem.W.takesIn K (.builtin "object.__class__") = some true) && decide (PySem.W.mroIn K C (.type "object") = some true)))))))
theorem excKB_ok {C : Addr} (c : excKB K C = true) : ExcK K C := by
  obtain ⟨c1, c⟩ := ba c
  obtain ⟨c2, c⟩ := ba c
  obtain ⟨c3, c⟩ := ba c
  obtain ⟨c4, c⟩ := ba c
  obtain ⟨c5, c⟩ := ba c
  obtain ⟨c6, c⟩ := ba c
  obtain ⟨c7, c8⟩ := ba c
  exact ⟨c1, eqO_ok c2, eqO_ok c3, of_decide_eq_true c4, eqO_ok c5, eqO_ok c6, of_decide_eq_true c7, of_decide_eq_true c8⟩
def clsB (K : PySem.W.Frag) (C : Addr) : Bool := PySem.W.plainGet K C Str.empty && (PySem.W.hasDictIn K C && (PySem.W.plainOver K C && eqO (PySem.W.findIn K (.ref C) "__setattr__") (some (some (.builtin "object.__setattr__")))))
theorem clsB_ok {C : Addr} (c : clsB K C = true) : Cls K C := by
  obtain ⟨c1, c⟩ := ba c
  obtain ⟨c2, c⟩ := ba c
  obtain ⟨c3, c4⟩ := ba c
  exact ⟨c1, c2, c3, eqO_ok c4⟩
def kitB (K : PySem.W.Frag) (v C : Value) (b : Bool) : Bool := decide (PySem.W.kitOne K v C = some b)
def kindsB (K : PySem.W.Frag) (C : Addr) : Bool := ["int", "tuple", "NoneType", "str", "list", "bool", "dict"].all fun t => kitB K (.type t) (.ref C) false && PySem.W.notFirst K C (.type t)
theorem kindsB_ok {C : Addr} (c : kindsB K C = true) : ∀ t ∈ ["int", "tuple", "NoneType", "str", "list", "bool", "dict"], PySem.W.kitOne K (.type t) (.ref C) = some false ∧ PySem.W.notFirst K C (.type t) = true := fun t ht => by
  obtain ⟨c1, c2⟩ := ba (List.all_eq_true.mp c t ht)
  exact ⟨of_decide_eq_true c1, c2⟩
def binB (K : PySem.W.Frag) (C : Addr) (nm : String) : Bool := PySem.W.selfFirst K C && ((match PySem.W.findIn K (.ref C) (dunderR nm) with
  | some none => true
  | some (some (.ref _)) => true
  | _ => false) && ((PySem.W.findIn K (.type "int") (PySem.dunder nm)).isSome && ((PySem.W.findIn K (.type "int") (dunderR nm)).isSome && decide (PySem.W.subIn K (.type "int") (.ref C) = some false))))
theorem binB_ok {C : Addr} {nm : String} (c : binB K C nm = true) : BinF K C nm := by
  obtain ⟨c1, c⟩ := ba c
  obtain ⟨c2, c⟩ := ba c
  obtain ⟨c3, c⟩ := ba c
  obtain ⟨c4, c5⟩ := ba c
  refine ⟨c1, ?_, Option.isSome_iff_exists.mp c3, Option.isSome_iff_exists.mp c4, of_decide_eq_true c5⟩
  match q : PySem.W.findIn K (.ref C) (dunderR nm), c2 with
  | some none, _ => exact ⟨_, rfl, .inl rfl⟩
  | some (some (.ref g)), _ => exact ⟨_, rfl, .inr ⟨g, rfl⟩⟩
/-! ### what the top has written -/
theorem funM {a : Addr} {nm qual : Str} {st : Stmt} (e : fv K a = some (nm, qual, defArgs st, .stmts (defBody st), defScope st)) (c : fdB K a qual [] = true) : ∃ fd, L2.Fun K nm qual st a fd := by
  obtain ⟨oc, od, dV, doc, pm, an, cdv, ct, osl, lk, hcd, hd, kp⟩ := fdB_ok e c
  rcases hd with ⟨_, hd⟩ | ⟨hd, _⟩
  · rw [hd] at lk
    exact ⟨_, L2.fun_mk lk hcd kp⟩
  · exact absurd rfl hd
theorem funDM {a : Addr} {nm qual : Str} {st : Stmt} {dvs : List V} (e : fv K a = some (nm, qual, defArgs st, .stmts (defBody st), defScope st)) (c : fdB K a qual dvs = true) : ∃ fd, FunD K nm qual (defArgs st) (defBody st) (defScope st) dvs [] a fd := by
  obtain ⟨oc, od, dV, doc, pm, an, cdv, ct, osl, lk, hcd, hd, kp⟩ := fdB_ok e c
  exact ⟨_, ⟨oc, od, dV, .none, doc, pm, an, cdv, ct, osl, rfl, lk, hcd, hd, .inl rfl⟩, kp⟩
theorem hasM0 (X : K.In h) (G : h.Ns mainGlobals mg) {x : Str} {st : Stmt} (e : fv K (ga K x) = some (x, x, defArgs st, .stmts (defBody st), defScope st)) (c : ((Fa.glo x).ok K && fdB K (ga K x) x []) = true) : Has K mg x st := by
  obtain ⟨c1, c2⟩ := ba c
  obtain ⟨fd, F⟩ := funM e c2
  exact ⟨_, fd, glo_ok X G c1, F⟩
theorem hasCM (X : K.In h) (G : h.Ns mainGlobals mg) {x : Str} {st : Stmt} (e : fv K (ga K x) = some (x, x, defArgs st, .stmts (defBody st), defScope st)) (c : ((Fa.glo x).ok K && fdB K (ga K x) x []) = true) : HasC K mg x st (cAt K (ga K x)) := by
  obtain ⟨c1, c2⟩ := ba c
  obtain ⟨oc, od, dV, doc, pm, an, cdv, ct, osl, lk, hcd, hd, kp⟩ := fdB_ok e c2
  obtain ⟨cda, l4⟩ := codeIn_ref hcd
  subst l4
  rcases hd with ⟨_, hd⟩ | ⟨hd, _⟩
  · rw [hd] at lk
    rw [cAt_eq lk rfl]
    exact ⟨_, oc, od, _, doc, pm, an, ct, osl, glo_ok X G c1, lk, hcd, kp⟩
  · exact absurd rfl hd
theorem hasMM {C : Addr} {m qual : Str} {st : Stmt} (e : fv K (ma K C m) = some (m, qual, defArgs st, .stmts (defBody st), defScope st)) (c : (fnB K C m && fdB K (ma K C m) qual []) = true) : HasM K C m qual st := by
  obtain ⟨c1, c2⟩ := ba c
  obtain ⟨c3, c4⟩ := ba c1
  obtain ⟨fd, F⟩ := funM e c2
  exact ⟨_, fd, eqO_ok c3, c4, F⟩
theorem hasDM {C : Addr} {m qual : Str} {st : Stmt} {dvs : List V} (e : fv K (ma K C m) = some (m, qual, defArgs st, .stmts (defBody st), defScope st)) (c : (fnB K C m && fdB K (ma K C m) qual dvs) = true) : HasD K C m qual st dvs [] := by
  obtain ⟨c1, c2⟩ := ba c
  obtain ⟨c3, c4⟩ := ba c1
  obtain ⟨fd, F⟩ := funDM e c2
  exact ⟨_, fd, eqO_ok c3, c4, F⟩
theorem hasSM {C : Addr} {m qual : Str} {st : Stmt} (e : fv K (sAt "staticmethod" K C m) = some (m, qual, defArgs st, .stmts (defBody st), defScope st)) (c : (statB K C m && fdB K (sAt "staticmethod" K C m) qual []) = true) : HasS K C m qual st := by
  obtain ⟨c1, c2⟩ := ba c
  obtain ⟨fd, F⟩ := funM e c2
  exact ⟨_, fd, statB_ok c1, F⟩
theorem hasCMM {C : Addr} {m qual : Str} {st : Stmt} (e : fv K (sAt "classmethod" K C m) = some (m, qual, defArgs st, .stmts (defBody st), defScope st)) (c : ((creadB K C && cmetB K C m) && fdB K (sAt "classmethod" K C m) qual []) = true) : HasCM K C m qual st := by
  obtain ⟨c1, c2⟩ := ba c
  obtain ⟨c3, c4⟩ := ba c1
  obtain ⟨fd, F⟩ := funM e c2
  obtain ⟨p, hp⟩ := cmetB_ok c4
  exact ⟨_, p, _, fd, creadB_ok c3, hp, F⟩
theorem tabFM {f : PySem.W.Frag → Addr} (X : K.In h) (c : SaysM fs fn tf h K) (i : Nat) (hi : tf[i]? = some f) : TabF K h (cAt K (f K), tabOf K (cAt K (f K))) := ⟨c.empty i f hi, c.out i f hi, PySem.W.codeHd_of_K X (c.hd i f hi)⟩
end
end My
/-! Values of other kinds, ints shown, what stays where the pen and the tables change. -/
namespace My
open PySem PySem.Spec PyProof.Rows L2
/-! ### values of other kinds -/
/-- the built-in kind of a value -/
inductive Ty0 (H : Hp) : V → String → Prop where
  | non : Ty0 H .non "NoneType"
  | bl (b : Bool) : Ty0 H (.bl b) "bool"
  | int (i : Int) : Ty0 H (.int i) "int"
  | str (x : Str) : Ty0 H (.str x) "str"
  | lst {a : Addr} {xs : List V} (e : H a = some (.lst xs)) : Ty0 H (.ref a) "list"
  | tup {a : Addr} {xs : List V} (e : H a = some (.tup xs)) : Ty0 H (.ref a) "tuple"
  | dK {a : Addr} {kvs : List (Key × V)} (e : H a = some (.dK kvs)) : Ty0 H (.ref a) "dict"
theorem Ty0.tyx {K : PySem.W.Frag} {H : Hp} {v : V} {t : String} (h : Ty0 H v t) : TyX K H v (.type t) := by
  cases h with
  | non => exact .base .non
  | bl b => exact .base (.bl b)
  | int i => exact .base (.int i)
  | str x => exact .base (.str x)
  | lst e => exact .base (.lst e)
  | tup e => exact .base (.tup e)
  | dK e => exact .base (.dK e)
def isI : V → Bool
  | .int _ => true
  | _ => false
theorem isI_int {v : V} (h : isI v = true) : ∃ i, v = .int i := by
  cases v with
  | int i => exact ⟨i, rfl⟩
  | _ => cases h
def isT (t : String) : Bool := t == "int"
theorem Ty0.isI {H : Hp} {v : V} {t : String} (h : Ty0 H v t) : My.isI v = isT t := by cases h <;> rfl
theorem Ty0.kint {K : PySem.W.Frag} {H : Hp} {v : V} {t : String} (h : Ty0 H v t) : ∃ b, PySem.W.kitOne K (.type t) (.type "int") = some b ∧ (b = true → ∃ c, PySem.W.kitOne K (.type t) (.type "bool") = some c ∧ My.isI v = !c) ∧ (b = false → My.isI v = false) := by
  cases h with
  | non => exact ⟨false, kit_ty (by decide +kernel), (fun z => Bool.noConfusion z), fun _ => rfl⟩
  | bl b => exact ⟨true, kit_ty (by decide +kernel), fun _ => ⟨true, kit_ty (by decide +kernel), rfl⟩, (fun z => Bool.noConfusion z)⟩
  | int i => exact ⟨true, kit_ty (by decide +kernel), fun _ => ⟨false, kit_ty (by decide +kernel), rfl⟩, (fun z => Bool.noConfusion z)⟩
  | str x => exact ⟨false, kit_ty (by decide +kernel), (fun z => Bool.noConfusion z), fun _ => rfl⟩
  | lst e => exact ⟨false, kit_ty (by decide +kernel), (fun z => Bool.noConfusion z), fun _ => rfl⟩
  | tup e => exact ⟨false, kit_ty (by decide +kernel), (fun z => Bool.noConfusion z), fun _ => rfl⟩
  | dK e => exact ⟨false, kit_ty (by decide +kernel), (fun z => Bool.noConfusion z), fun _ => rfl⟩
theorem Ty0.keep {H H' : Hp} {v : V} {t : String} (h : Ty0 H v t) (k : ∀ b o, H b = some o → (∀ p, v = .ref p → p = b → H' b = some o)) : Ty0 H' v t := by
  cases h with
  | non => exact .non
  | bl b => exact .bl b
  | int i => exact .int i
  | str x => exact .str x
  | lst e => exact .lst (k _ _ e _ rfl rfl)
  | tup e => exact .tup (k _ _ e _ rfl rfl)
  | dK e => exact .dK (k _ _ e _ rfl rfl)
theorem Ty0.same {H H' : Hp} {v : V} {t : String} (h : Ty0 H v t) (k : Same H H') : Ty0 H' v t := h.keep fun b o e _ _ _ => k b o e
theorem same_new {H : Hp} {p : Addr} {o : HO} (h : H p = none) : Same H (upd H p o) := fun b u e => by rw [upd_ne (ne_of_none e h)]; exact e
/-- a value of a built-in kind, or an instance of the class at C -/
def TyL (C : Addr) (H : Hp) (v : V) : Prop := (∃ t, Ty0 H v t) ∨ ∃ a dx fs, v = .ref a ∧ H a = some (.ins C dx fs)
theorem TyL.same {C : Addr} {H H' : Hp} {v : V} (h : TyL C H v) (k : Same H H') : TyL C H' v := by
  rcases h with ⟨t, h⟩ | ⟨a, dx, fs, e, h⟩
  · exact .inl ⟨t, h.same k⟩
  · exact .inr ⟨a, dx, fs, e, k _ _ h⟩
theorem TyL.int (C : Addr) (H : Hp) (i : Int) : TyL C H (.int i) := .inl ⟨_, .int i⟩
theorem pen_ne {H : Hp} {pn l : Addr} {n : Nat} (hp : PenAt H pn n) (hl : H l = none) : l ≠ pn := by
  obtain ⟨cl, ns, a, r, g1, _⟩ := hp
  exact (ne_of_none g1 hl).symm
theorem but_same {pn : Addr} {H H' : Hp} (s : Same H H') : But pn H H' := fun b o e _ => s b o e
theorem pen_same {pn : Addr} {H H' : Hp} {n : Nat} (hp : PenAt H pn n) (k : Same H H') : PenAt H' pn n := by
  obtain ⟨cl, ns, a, r, g1, g2, g3⟩ := hp
  exact ⟨cl, ns, a, r, k _ _ g1, k _ _ g2, g3⟩
theorem mem_ints {v : V} {zs : List Int} (h : v ∈ zs.map V.int) : ∃ z, v = .int z ∧ z ∈ zs := by
  obtain ⟨z, hz, e⟩ := List.mem_map.mp h
  exact ⟨z, e.symm, hz⟩
theorem num_len {i : Int} (h : i.natAbs.log2 < 1920) : ((toString i : String) : Str).length ≤ 1921 := by
  have e := int_text_length_le (k := 1920) (by decide) h
  show (Str.ofString (toString i)).length ≤ 1921
  rw [PySem.ofString_length]
  exact e
theorem app_len (x y : Str) : (x ++ y).length = x.length + y.length := PySem.Str.length_append x y
/-- an int of less than 300 bits -/
def Sm (z : Int) : Prop := z.natAbs < 2 ^ 300
theorem Sm.mul {a b : Int} {i j : Nat} (ha : a.natAbs < 2 ^ i) (hb : b.natAbs < 2 ^ j) (h0 : 0 < i := by decide) (h1 : 0 < j := by decide) (h : i + j ≤ 1000000 := by decide) : CMulW a b := wide_mul ha hb h0 h1 h
theorem Sm.log {z : Int} (h : Sm z) : z.natAbs.log2 < 1920 := Nat.lt_of_lt_of_le (PySem.Flt.log2_lt_of (k := 300) (by decide) h) (by decide)
theorem shown_sum : ∀ (ns : List Int), (∀ z ∈ ns, z.natAbs.log2 < 1920) → ((PyData.shownAll (ns.map PyData.int)).map (·.length)).sum ≤ 1921 * ns.length ∧ (PyData.shownAll (ns.map PyData.int)).length = ns.length
  | [], _ => ⟨Nat.le_refl _, rfl⟩
  | n :: ns, h => by
    obtain ⟨h1, h2⟩ := shown_sum ns fun z hz => h z (List.mem_cons_of_mem _ hz)
    have e2 := num_len (h n List.mem_cons_self)
    refine ⟨?_, ?_⟩
    · show ((toString n : String) : Str).length + ((PyData.shownAll (ns.map PyData.int)).map (·.length)).sum ≤ 1921 * (ns.length + 1)
      omega
    · show (PyData.shownAll (ns.map PyData.int)).length + 1 = ns.length + 1
      omega
theorem showable_ints : ∀ (ns : List Int), (∀ z ∈ ns, z.natAbs.log2 < 1920) → PyData.showableAll (ns.map PyData.int) = true
  | [], _ => rfl
  | n :: ns, h => by
    show (decide (n.natAbs.log2 < 1920) && PyData.showableAll (ns.map PyData.int)) = true
    rw [showable_ints ns fun z hz => h z (List.mem_cons_of_mem _ hz), decide_eq_true (h n List.mem_cons_self)]
    rfl
/-- a list of ints shown -/
theorem ints_show {K : PySem.W.Frag} {H : Hp} {l : Addr} (ns : List Int) (hz : ∀ z ∈ ns, z.natAbs.log2 < 1920) (hl : ns.length ≤ 1000) (h : H l = some (.lst (ns.map V.int))) : Dr K H (.ref l) (.list (ns.map PyData.int)) ∧ (PyData.list (ns.map PyData.int)).showable = true ∧ (PyData.list (ns.map PyData.int)).depth ≤ 60 ∧ (PyData.list (ns.map PyData.int)).shown.length ≤ sizeLine := by
  refine ⟨.inl (.lst (SqL.of h) (dp_ints ns)), showable_ints ns hz, ?_, ?_⟩
  · show PyData.depthAll (ns.map PyData.int) + 1 ≤ 60
    rw [dep_ints]
    decide
  · have h1 := listText_len_le (PyData.shownAll (ns.map PyData.int))
    obtain ⟨h2, h3⟩ := shown_sum ns hz
    show (listText (PyData.shownAll (ns.map PyData.int))).length ≤ sizeLine
    rw [sizeLine_eq]
    omega
theorem yes_go {σ : L2.St} {H : Hp} {A B : Hp → Prop} (h : A H) : tYes σ H (fun b H3 => if b = true then A H3 else B H3) := by
  show (if true = true then A H else B H)
  rw [if_pos rfl]
  exact h
theorem take1 {α : Type} {ls : List α} {i : Nat} {y : α} (h : ls[i]? = some y) : ls.take (i + 1) = ls.take i ++ [y] := by rw [List.take_add_one, h]; rfl
theorem at_int {ls : List Int} {i : Nat} {v : V} (h : (ls.map V.int)[i]? = some v) : ∃ y, ls[i]? = some y ∧ v = .int y := by
  rw [List.getElem?_map] at h
  cases e : ls[i]? with
  | none => rw [e] at h; cases h
  | some y => rw [e] at h; cases h; exact ⟨y, rfl, rfl⟩
/-! ### tables of code objects, the pen, and all else -/
/-- all but the pen and the tables stays, the tables are tables -/
structure Kp (pn : Addr) (TS : List (Addr × Str)) (H H' : Hp) : Prop where
  keep : ∀ b o, H b = some o → b ≠ pn → (∀ ps, o ≠ .tbl ps) → H' b = some o
  tabs : LamX.Tabs TS H'
theorem Kp.trans {pn : Addr} {TS : List (Addr × Str)} {H H1 H2 : Hp} (a : Kp pn TS H H1) (b : Kp pn TS H1 H2) : Kp pn TS H H2 := ⟨fun c o h n m => b.keep c o (a.keep c o h n m) n m, b.tabs⟩
theorem tabs_but {pn : Addr} {TS : List (Addr × Str)} {H H' : Hp} {n : Nat} (t : LamX.Tabs TS H) (hp : PenAt H pn n) (k : But pn H H') : LamX.Tabs TS H' := fun p hp' => by
  obtain ⟨ps, h1, h2, h3⟩ := t p hp'
  obtain ⟨cl, ns, a, r, g1, _⟩ := hp
  refine ⟨ps, k _ _ h1 (ne_of h1 g1 (by intro z; cases z)), h2, fun pos cv hc => ?_⟩
  obtain ⟨c, e1, e2⟩ := h3 pos cv hc
  exact ⟨c, e1, k _ _ e2 (ne_of e2 g1 (by intro z; unfold LamX.CodeO at z; cases z))⟩
theorem Kp.but {pn : Addr} {TS : List (Addr × Str)} {H H' : Hp} {n : Nat} (t : LamX.Tabs TS H) (hp : PenAt H pn n) (k : But pn H H') : Kp pn TS H H' := ⟨fun b o h nb _ => k b o h nb, tabs_but t hp k⟩
theorem Kp.same {pn : Addr} {TS : List (Addr × Str)} {H H' : Hp} (t : LamX.Tabs TS H) (k : Same H H') : Kp pn TS H H' := ⟨fun b o h _ _ => k b o h, t.ext k⟩
theorem Kp.ext {pn : Addr} {TS : List (Addr × Str)} {H H' : Hp} (t : LamX.Tabs TS H') (k : LamX.ExtN H H') : Kp pn TS H H' := ⟨fun b o h _ m => k b o h m, t⟩
theorem pen_ext {pn : Addr} {H H' : Hp} {n : Nat} (hp : PenAt H pn n) (k : LamX.ExtN H H') : PenAt H' pn n := by
  obtain ⟨cl, ns, a, r, g1, g2, g3⟩ := hp
  exact ⟨cl, ns, a, r, k _ _ g1 (by intro ps z; cases z), k _ _ g2 (by intro ps z; cases z), g3⟩
/-- a def whose code object stands at c -/
structure FunC (K : PySem.W.Frag) (x qual : Str) (st : Stmt) (f : Addr) (fd : FuncData) (c : Addr) : Prop where
  ex : ∃ (oc : Value) (od : Option Addr) (kV doc pm : Value) (an : Option Addr) (ct : Value) (osl : Array (Option Value)),
    fd = PySem.W.fnOf x qual (defArgs st) (defBody st) (defScope st) .none kV doc pm an (.ref c) ct ∧ K.lookup f = some ⟨oc, od, .func fd, osl⟩ ∧ PySem.W.codeIn K (.ref c) qual = true
  kp : PySem.W.keepIn K (.ref f) = true
theorem okGc {P : Program} {w : World} {K : PySem.W.Frag} {mg : Str → Option Value} {base : Heap} {x qual : Str} {st : Stmt} {f c : Addr} {fd : FuncData} {N ps : List Str} {k : Nat} {sp : Sp} (F : FunC K x qual st f fd c) (S : FnScope N ps (defScope st)) (len : ∀ vs H Q E, sp vs H Q E → vs.length = ps.length)
    (hbody : ∀ (A : Around) (outer : List Env) (s : Shared) (H : Hp) (vs : List V) (Q : VK) (E : XK), A.guards = some [] → Room k (A.deeper (envOfC qual (defScope st) s.heap.objs.size f (.ref c))) → sp vs H Q E →
      ∃ t, PSs (cxOf CX0 P w K mg base N qual (defScope st) f (.ref c) A outer s H E).nox (defBody st) t ∧ t { nx := fun _ H' => Q .non H', rt := Q } (start N vs) H) : FnG P w K mg base CX0 (k + 1) f fd ps sp := by
  obtain ⟨oc, od, kV, doc, pm, an, ct, osl, rfl, lk, hcd⟩ := F.ex
  refine ⟨len, fun A outer s H args us vs Q E hg hr e0 hb r hsp => LamX.run_ofS lk hcd S hr e0 hb r (len _ _ _ _ hsp) fun hr' => ?_⟩
  obtain ⟨t, h, q⟩ := hbody A outer s H vs Q E hg hr' hsp
  exact ⟨t, h.nox, q⟩
theorem ty_ext {H H' : Hp} {v : V} {t : String} (h : Ty0 H v t) (k : LamX.ExtN H H') : Ty0 H' v t := by
  cases h with
  | non => exact .non
  | bl b => exact .bl b
  | int i => exact .int i
  | str x => exact .str x
  | lst e => exact .lst (k _ _ e (by intro ps z; cases z))
  | tup e => exact .tup (k _ _ e (by intro ps z; cases z))
  | dK e => exact .dK (k _ _ e (by intro ps z; cases z))
theorem ext_same {H H' : Hp} (s : Same H H') : LamX.ExtN H H' := fun b o h _ => s b o h
theorem ext_put {Ha Hx : Hp} {lh : Addr} {o : HO} (n : Ha lh = none) (x : LamX.ExtN Ha Hx) : LamX.ExtN Ha (upd Hx lh o) := fun b u e m => by
  rw [upd_ne (ne_of_none e n)]
  exact x b u e m
theorem tabs_put {TS : List (Addr × Str)} {H : Hp} {lh : Addr} {xs : List V} {o : HO} (t : LamX.Tabs TS H) (h : H lh = some (.lst xs)) : LamX.Tabs TS (upd H lh o) := fun p hp => by
  obtain ⟨ps, h1, h2, h3⟩ := t p hp
  refine ⟨ps, by rw [upd_ne (ne_of h1 h (by intro z; cases z))]; exact h1, h2, fun pos cv hc => ?_⟩
  obtain ⟨c, e1, e2⟩ := h3 pos cv hc
  exact ⟨c, e1, by rw [upd_ne (ne_of e2 h (by intro z; unfold LamX.CodeO at z; cases z))]; exact e2⟩
theorem TyL.ext {C : Addr} {H H' : Hp} {v : V} (h : TyL C H v) (k : LamX.ExtN H H') : TyL C H' v := by
  rcases h with ⟨t, h⟩ | ⟨a, dx, fs, e, h⟩
  · exact .inl ⟨t, ty_ext h k⟩
  · exact .inr ⟨a, dx, fs, e, k _ _ h (by intro ps z; cases z)⟩
end My
/-! raise C() of an own error class without own __init__. -/
namespace My
open PySem PySem.Spec PySem.Calls PyProof.Rows L2
section
variable {X : Cx} {C : Addr} {bmB : List Value} {B newId initId : String} {x : Str} {p pos : Pos}
theorem pmk_nil (F : ExcBaseFacts B newId initId bmB) (q : PySem.W.excIn X.K C bmB newId = true) (gC : X.mg x = some (.ref C)) (kC : PySem.W.keepIn X.K (.ref C) = true) (r : Raises X (.ref C)) (hg : Gl X x) (hdb : (x == ("__debug__" : Str)) = false := by decide) :
    PMk X (.Call (.Name x p) [] [] pos) (fun σ H Q => Q (.ref C) none H) := by
  intro pins s σ H Q I h
  refine wpAny_Call_Name_kw (ld_glob I hg gC ?_ hdb)
  refine PySem.W.callWith_K0 (first := []) I.kIn kC ?_
  show wpAny _ _ (call (.ref C) []) _ _ _
  obtain ⟨bm, N, nm, qn, bs, hdct, sn, sub, ab, col, dd, k0, k1, k2, k3, k5, mN, hC, hN, hni, T⟩ := exc_obj I.kIn q
  refine wpAny_call_exc_subT F T hC hN hni (fun h' e hm => ?_) (Nat.zero_le _)
  exact mk_of I hm r h (I.hok.gone hm.new)
end
end My
/-! Several own classes beside one another. -/
namespace My
open PySem PySem.Spec PyProof.Rows L2
/-- an own class whose instances are no ints -/
structure Own (K : PySem.W.Frag) (C : Addr) : Prop where
  cl : Cls K C
  ha : PySem.W.findIn K (.ref C) "__class__" = some (some (.builtin "object.__class__"))
  hn : PySem.W.specialIn K (.builtin "object.__class__") "__get__" = some (some (.builtin "getset_descriptor.__get__"))
  ht : PySem.W.takesIn K (.builtin "object.__class__") = some true
  hm : PySem.W.mroIn K C (.type "object") = some true
  me : PySem.W.kitOne K (.ref C) (.ref C) = some true
  noInt : PySem.W.kitOne K (.ref C) (.type "int") = some false
  kn : ∀ t ∈ ["int", "tuple", "NoneType", "str", "list", "bool", "dict"], PySem.W.kitOne K (.type t) (.ref C) = some false ∧ PySem.W.notFirst K C (.type t) = true
  sf : PySem.W.notFirst K C (.ref C) = true
/-- the family of the own classes -/
structure Fam (K : PySem.W.Frag) (Cs : List Addr) : Prop where
  own : ∀ C ∈ Cs, Own K C
  cross : ∀ C ∈ Cs, ∀ D ∈ Cs, C ≠ D → PySem.W.kitOne K (.ref C) (.ref D) = some false ∧ PySem.W.notFirst K D (.ref C) = true
/-- a value of a built-in kind, or an instance of the family -/
def AnyF (Cs : List Addr) (H : Hp) (v : V) : Prop := (∃ t, Ty0 H v t) ∨ ∃ C ∈ Cs, ∃ a dx fs, v = .ref a ∧ H a = some (.ins C dx fs)
theorem AnyF.same {Cs : List Addr} {H H' : Hp} {v : V} (h : AnyF Cs H v) (k : Same H H') : AnyF Cs H' v := by
  rcases h with ⟨t, h⟩ | ⟨C, hC, a, dx, fs, e, h⟩
  · exact .inl ⟨t, h.same k⟩
  · exact .inr ⟨C, hC, a, dx, fs, e, k _ _ h⟩
theorem AnyF.ext {Cs : List Addr} {H H' : Hp} {v : V} (h : AnyF Cs H v) (k : LamX.ExtN H H') : AnyF Cs H' v := by
  rcases h with ⟨t, h⟩ | ⟨C, hC, a, dx, fs, e, h⟩
  · exact .inl ⟨t, ty_ext h k⟩
  · exact .inr ⟨C, hC, a, dx, fs, e, k _ _ h (by intro ps z; cases z)⟩
theorem AnyF.int (Cs : List Addr) (H : Hp) (i : Int) : AnyF Cs H (.int i) := .inl ⟨_, .int i⟩
theorem Ty0.mem {H : Hp} {v : V} {t : String} (h : Ty0 H v t) : t ∈ ["int", "tuple", "NoneType", "str", "list", "bool", "dict"] := by cases h <;> decide
theorem Own.ty {K : PySem.W.Frag} {C : Addr} (h : Own K C) {H : Hp} {a dx : Addr} {fs : List (Str × V)} (e : H a = some (.ins C dx fs)) : TyX K H (.ref a) (.ref C) := .base (.ins e h.cl h.ha h.hn h.ht h.hm)
/-- isinstance(v, D) and how v stands beside a D -/
theorem Fam.isi {K : PySem.W.Frag} {Cs : List Addr} (F : Fam K Cs) {D : Addr} (hD : D ∈ Cs) {H : Hp} {v : V} (h : AnyF Cs H v) (no : ∀ a dx fs, v = .ref a → H a ≠ some (.ins D dx fs)) : ∃ t, TyX K H v t ∧ PySem.W.kitOne K t (.ref D) = some false ∧ PySem.W.notFirst K D t = true := by
  rcases h with ⟨t, h⟩ | ⟨C, hC, a, dx, fs, rfl, h⟩
  · exact ⟨_, h.tyx, ((F.own D hD).kn t h.mem).1, ((F.own D hD).kn t h.mem).2⟩
  · have ne : C ≠ D := fun z => no a dx fs rfl (by rw [← z]; exact h)
    exact ⟨_, (F.own C hC).ty h, (F.cross C hC D hD ne).1, (F.cross C hC D hD ne).2⟩
/-- isinstance(v, int), and of a bool -/
theorem Fam.kint {K : PySem.W.Frag} {Cs : List Addr} (F : Fam K Cs) {H : Hp} {v : V} (h : AnyF Cs H v) : ∃ t b, TyX K H v t ∧ PySem.W.kitOne K t (.type "int") = some b ∧ (b = true → ∃ c, PySem.W.kitOne K t (.type "bool") = some c ∧ My.isI v = !c) ∧ (b = false → My.isI v = false) := by
  rcases h with ⟨t, h⟩ | ⟨C, hC, a, dx, fs, rfl, h⟩
  · obtain ⟨b, e⟩ := h.kint (K := K)
    exact ⟨_, b, h.tyx, e⟩
  · exact ⟨_, false, (F.own C hC).ty h, (F.own C hC).noInt, (fun z => Bool.noConfusion z), fun _ => rfl⟩
/-- an error of the class C with the field f = v -/
def Errs (E : XK) (C : Addr) (f : Str) (v : V) (H : Hp) : Prop := ∀ (d : Addr) (H' : Hp), H d = none → H' d = some (.xd [(f, v)]) → Same H H' → E (.ref C) (some d) H'
theorem Errs.go {E : XK} {C : Addr} {f : Str} {v : V} {H : Hp} (h : Errs E C f v H) {d : Addr} (hd : H d = none) : E (.ref C) (some d) (upd H d (.xd [(f, v)])) := h d _ hd upd_same (same_new hd)
theorem Errs.up {E : XK} {C : Addr} {f : Str} {v : V} {H H1 : Hp} (h : Errs E C f v H) (s : Same H H1) : Errs E C f v H1 := fun d H' hd hx s' => h d H' (s.free hd) hx (s.trans s')
/-- is_whole(v) -/
def spWh (Cs : List Addr) : Sp := fun vs H Q _ => ∃ (v : V), vs = [v] ∧ AnyF Cs H v ∧ Q (.bl (isI v)) H
end My
namespace My
open PySem PySem.Spec PyProof.Rows L2
def topS (i : Nat) : Stmt := PySem.Challenge.pw_clipfades_k48_runs_and_points_made.main.body.getD i (.Pass ⟨0, 0, 0, 0⟩)
abbrev s_pen : Stmt := topS 69
abbrev s_draw : Stmt := topS 70
abbrev s_pick : Stmt := topS 71
theorem sc_pen : FnScope ["_law_script"] ["_law_script"] (defScope s_pen) := ⟨rfl, rfl, rfl, by decide +kernel, rfl, by decide +kernel, by decide +kernel⟩
theorem sc_draw : FnScope ["_law_pen_here", "_law_many", "_law_digit", "_law_at", "_law_cell", "_law_great", "_law_mixed"] ["_law_pen_here", "_law_many"] (defScope s_draw) := ⟨rfl, rfl, rfl, by decide +kernel, rfl, by decide +kernel, by decide +kernel⟩
theorem sc_pick : FnScope ["_law_pen_here", "_law_some"] ["_law_pen_here", "_law_some"] (defScope s_pick) := ⟨rfl, rfl, rfl, by decide +kernel, rfl, by decide +kernel, by decide +kernel⟩
/-- the pen, its cells at cl -/
def PenC (H : Hp) (pn cl : Addr) (n : Nat) : Prop := ∃ (ns : List Int) (at_ rest : Int), H pn = some (.lst [.ref cl, .int at_, .int rest]) ∧ H cl = some (.lst (ns.map V.int)) ∧ ns.length ≤ 63 ∧ 0 ≤ at_ ∧ at_ ≤ n
theorem PenC.pen {H : Hp} {pn cl : Addr} {n : Nat} (h : PenC H pn cl n) : PenAt H pn n := by
  obtain ⟨ns, a, r, h⟩ := h
  exact ⟨cl, ns, a, r, h⟩
theorem PenAt.cells {H : Hp} {pn : Addr} {n : Nat} (h : PenAt H pn n) : ∃ cl, PenC H pn cl n := by
  obtain ⟨cl, ns, a, r, h⟩ := h
  exact ⟨cl, ns, a, r, h⟩
theorem PenC.put {H : Hp} {pn cl p : Addr} {n : Nat} {o : HO} (h : PenC H pn cl n) (h1 : pn ≠ p) (h2 : cl ≠ p) : PenC (upd H p o) pn cl n := by
  obtain ⟨ns, a, r, e1, e2, h3⟩ := h
  exact ⟨ns, a, r, by rw [upd_ne h1]; exact e1, by rw [upd_ne h2]; exact e2, h3⟩
theorem PenC.same {H H' : Hp} {pn cl : Addr} {n : Nat} (h : PenC H pn cl n) (s : Same H H') : PenC H' pn cl n := by
  obtain ⟨ns, a, r, e1, e2, h3⟩ := h
  exact ⟨ns, a, r, s _ _ e1, s _ _ e2, h3⟩
def spDrawC : Sp := fun vs H Q _ => ∃ (pn cl : Addr) (m : Int) (n : Nat), vs = [.ref pn, .int m] ∧ 0 < m ∧ m.natAbs.log2 < 9000 ∧ PenC H pn cl n ∧ n < 100000 ∧
  ∀ (d : Int) (H' : Hp), 0 ≤ d → d < m → PenC H' pn cl (n + 1) → But pn H H' → Q (.int d) H'
section
variable {P : Program} {w : World} {K : PySem.W.Frag} {mg : Str → Option Value} {base : Heap}
theorem ok_pen {f : Addr} {fd : FuncData} (F : Fun K "_law_pen" "_law_pen" s_pen f fd) (T : BI mg) : FnOk P w K mg base CX0 1 f fd ["_law_script"] (spPen K) := by
  refine F.ok sc_pen (fun vs H Q E h => ?_) (fun cdv A outer s H vs Q E hr h => ?_)
  · obtain ⟨a, ns, rfl, _⟩ := h
    rfl
  · obtain ⟨a, ns, rfl, hS, k⟩ := h
    refine ⟨_, (pss_one (ps_ret (pe_lst (pa_cons (pe_callTy call_list_of (by rfl) T.z_list boot_list (pa_cons (pe_slice sl_list (pv 0) po_none (po_some pe_int)) pa_nil)) (pa_cons pe_int (pa_cons pe_int pa_nil)))))), ?_⟩
    refine ⟨_, rfl, 63, rfl, a, _, rfl, hS, fun p hp => ?_⟩
    refine ⟨p, _, rfl, .inl (SqL.of upd_same), fun l hl => ?_⟩
    refine ⟨(by show 3 ≤ sizeLine; decide), fun pn hpn => ?_⟩
    have npl : p ≠ l := ne_of_none upd_same hl
    have hlp : l ≠ pn := ne_of_none upd_same hpn
    have e1 : cutV (ns.map V.int) none (some 63) = (ns.take 63).map V.int := cut_ints ns 63
    have s0 : Same H (upd (upd (upd H p (.lst (cutV (ns.map V.int) none (some 63)))) l (.lst (cutV (ns.map V.int) none (some 63)))) pn (.lst [.ref l, .int 0, .int 0])) := fun b o z => by
      have z1 : (upd H p (.lst (cutV (ns.map V.int) none (some 63)))) b = some o := by rw [upd_ne (ne_of_none z hp)]; exact z
      have z2 : (upd (upd H p (.lst (cutV (ns.map V.int) none (some 63)))) l (.lst (cutV (ns.map V.int) none (some 63)))) b = some o := by rw [upd_ne (ne_of_none z1 hl)]; exact z1
      rw [upd_ne (ne_of_none z2 hpn)]
      exact z2
    have n1 : H pn = none := by
      cases z : H pn with
      | none => rfl
      | some o =>
        rw [upd_ne (Ne.symm hlp)] at hpn
        by_cases y : pn = p
        · rw [y, hp] at z
          cases z
        · rw [upd_ne y, z] at hpn
          cases hpn
    refine k pn _ n1 ⟨l, ns.take 63, 0, 0, upd_same, ?_, ?_, Int.le_refl _, Int.le_refl _⟩ s0
    · rw [upd_ne hlp, upd_same, e1]
    · rw [List.length_take]
      omega
theorem ok_drawC {f : Addr} {fd : FuncData} (F : Fun K "_law_draw" "_law_draw" s_draw f fd) (T : BI mg) : FnOk P w K mg base CX0 1 f fd ["_law_pen_here", "_law_many"] spDrawC := by
  refine F.ok sc_draw (fun vs H Q E h => ?_) (fun cdv A outer s H vs Q E hr h => ?_)
  · obtain ⟨pn, cl, m, n, rfl, _⟩ := h
    rfl
  · obtain ⟨pn, cl, m, n, rfl, hm, hml, ⟨ns, at_, rest, h1, h2, h3, h4, h5⟩, hn, k⟩ := h
    refine ⟨_, (pss_cons (ps_if (pt_cmpR op_gt (pe_ix ix_list (pv 0) pe_int (fun _ _ => rfl)) pe_int (nomark _)) (pss_cons (ps_set (i := 2) sc_draw.nd rfl (Or.inl rfl) (pe_op op_mod (pe_callTy call_int1 (by rfl) T.z_int boot_int (pa_cons (pe_ix ix_list (pv 0) pe_int (fun _ _ => rfl)) pa_nil)) (pv 1)))
      (pss_cons (ps_asg (pe_op op_fdivW (pe_callTy call_int1 (by rfl) T.z_int boot_int (pa_cons (pe_ix ix_list (pv 0) pe_int (fun _ _ => rfl)) pa_nil)) (pv 1)) (pg_sub (pv 0) pe_int set_list))
      (pss_one (ps_ret (pv 2))))) pss_nil)
      (pss_cons (ps_set (i := 3) sc_draw.nd rfl (Or.inl rfl) (pe_ix ix_list (pv 0) pe_int (fun _ _ => rfl)))
      (pss_cons (ps_asg (pe_op op_add (pv 3) pe_int) (pg_sub (pv 0) pe_int set_list))
      (pss_cons (ps_set (i := 4) sc_draw.nd rfl (Or.inl rfl) (pe_op op_add (pe_op op_mul pe_int (pv 3)) pe_int))
      (C8.pss_cut (ps_if (pt_cmpR (op_neD hr.units) (pe_ix ix_list (pv 0) pe_int (fun _ _ => rfl)) (pe_lst pa_nil) (nomark _)) (pss_one (ps_set (i := 4) sc_draw.nd rfl (Or.inl rfl) (pe_ix ix_list (pe_ix ix_list (pv 0) pe_int (fun _ _ => rfl)) (pe_op op_mod (pe_callTy call_int1 (by rfl) T.z_int boot_int (pa_cons (pv 3) pa_nil)) (pe_callB call_len (by rfl) T.z_len PySem.boot_len (pa_cons (pe_ix ix_list (pv 0) pe_int (fun _ _ => rfl)) pa_nil))) (fun _ _ => rfl)))) pss_nil)
      (C8.pss_cut (ps_if (PW.pt (pw_and (pt_cmpR op_lt (pv 3) (pe_callB call_len (by rfl) T.z_len PySem.boot_len (pa_cons (pe_ix ix_list (pv 0) pe_int (fun _ _ => rfl)) pa_nil)) (nomark _)) (pw_and1 (pt_cmpR op_ge (pe_callB call_abs (by rfl) T.z_abs boot_abs (pa_cons (pv 4) pa_nil)) (pe_op op_pow pe_int pe_int) (nomark _))))) (pss_cons (ps_set (i := 5) sc_draw.nd rfl (Or.inl rfl) (pe_op op_add (pe_op op_mul pe_int (pe_op op_sub (pe_callB call_abs (by rfl) T.z_abs boot_abs (pa_cons (pv 4) pa_nil)) (pe_op op_pow pe_int pe_int))) (pe_callTy call_int1 (by rfl) T.z_int boot_int (pa_cons (pe_cmpR op_lt (pv 4) pe_int (nomark _)) pa_nil))))
      (pss_cons (ps_asg (pe_op op_fdivW (pe_callTy call_int1 (by rfl) T.z_int boot_int (pa_cons (pv 5) pa_nil)) (pv 1)) (pg_sub (pv 0) pe_int set_list))
      (pss_one (ps_ret (pe_op op_mod (pe_callTy call_int1 (by rfl) T.z_int boot_int (pa_cons (pv 5) pa_nil)) (pv 1)))))) pss_nil)
      (pss_cons (ps_set (i := 6) sc_draw.nd rfl (Or.inl rfl) (pe_op op_mod (pe_callTy call_int1 (by rfl) T.z_int boot_int (pa_cons (pe_op op_pow (pe_op op_add (pe_op op_add (pe_op op_mod (pe_callTy call_int1 (by rfl) T.z_int boot_int (pa_cons (pv 4) pa_nil)) pe_int) (pe_op op_mul pe_int (pv 3))) pe_int) pe_int) pa_nil)) pe_int))
      (pss_cons (ps_set (i := 6) sc_draw.nd rfl (Or.inl rfl) (pe_op op_mod (pe_callTy call_int1 (by rfl) T.z_int boot_int (pa_cons (pe_op op_pow (pe_op op_add (pe_op op_add (pe_op op_mul (pv 6) (pe_op op_add (pe_op op_mul pe_int (pv 3)) pe_int)) (pe_op op_mul (pe_op op_mul pe_int (pv 3)) (pv 3))) pe_int) pe_int) pa_nil)) pe_int))
      (pss_one (ps_ret (pe_op op_mod (pe_callTy call_int1 (by rfl) T.z_int boot_int (pa_cons (pe_op op_fdivW (pv 6) pe_int) pa_nil)) (pv 1)))))))))))), ?_⟩
    have i2 : atI [V.ref cl, V.int at_, V.int rest] 2 = some (V.int rest) := rfl
    have i1 : atI [V.ref cl, V.int at_, V.int rest] 1 = some (V.int at_) := rfl
    have i0 : atI [V.ref cl, V.int at_, V.int rest] 0 = some (V.ref cl) := rfl
    refine ⟨_, rfl, pn, _, _, _, rfl, rfl, SqL.of h1, i2, _, _, rfl, rfl, _, rfl, ?_⟩
    have npc : cl ≠ pn := ne_of h2 h1 (by
      intro z
      injection z with z
      cases ns with
      | nil => cases z
      | cons a l => cases z)
    refine ite2 (fun c => ?_) (fun c => ?_)
    · refine ⟨_, rfl, pn, _, _, _, rfl, rfl, SqL.of h1, i2, .inl ⟨rest, rfl, _, rfl, _, _, rfl, rfl, hm, ?_⟩⟩
      first
        | refine ⟨_, rfl, pn, _, _, _, rfl, rfl, SqL.of h1, i2, .inl ⟨rest, rfl, _, rfl, _, _, rfl, rfl, ⟨hm, hml⟩, _, rfl, pn, _, _, 2, rfl, rfl, h1, rfl, ?_⟩⟩
        | refine ⟨_, rfl, pn, _, _, _, rfl, rfl, SqL.of h1, i2, _, rfl, _, _, rfl, rfl, ⟨hm, hml⟩, _, rfl, pn, _, _, 2, rfl, rfl, h1, rfl, ?_⟩
      refine ⟨_, rfl, k _ _ (Int.emod_nonneg _ (by omega)) (Int.emod_lt_of_pos _ hm) ?_ But.put⟩
      exact ⟨ns, at_, rest / m, upd_same, by rw [upd_ne npc]; exact h2, h3, h4, by omega⟩
    · refine ⟨_, rfl, pn, _, _, _, rfl, rfl, SqL.of h1, i1, ?_⟩
      refine ⟨_, rfl, _, _, rfl, rfl, _, rfl, pn, _, _, 1, rfl, rfl, h1, rfl, ?_⟩
      refine ⟨_, rfl, _, _, rfl, rfl, .inl ⟨by decide, by decide⟩, _, _, rfl, rfl, ?_⟩
      have i0' : atI [V.ref cl, V.int (at_ + 1), V.int rest] 0 = some (V.ref cl) := rfl
      refine ⟨fun σ H2 => ∃ (cell : Int) (v5 v6 : Option V), σ = [some (.ref pn), some (.int m), none, some (.int at_), some (.int cell), v5, v6] ∧ H2 pn = some (.lst [.ref cl, .int (at_ + 1), .int rest]) ∧ H2 cl = some (.lst (ns.map V.int)) ∧ But pn H H2, ?_, ?_⟩
      · refine ⟨_, rfl, pn, _, _, _, rfl, rfl, SqL.of upd_same, i0', (by show 0 ≤ sizeLine; decide), fun l hl => ?_⟩
        have nlp : pn ≠ l := ne_of_none (upd_same (H := H) (a := pn)) hl
        have nlc : cl ≠ l := ne_of_none (by rw [upd_ne npc]; exact h2) hl
        have w1 : (upd (upd H pn (.lst [.ref cl, .int (at_ + 1), .int rest])) l (.lst [])) pn = some (.lst [.ref cl, .int (at_ + 1), .int rest]) := by rw [upd_ne nlp, upd_same]
        have w2 : (upd (upd H pn (.lst [.ref cl, .int (at_ + 1), .int rest])) l (.lst [])) cl = some (.lst (ns.map V.int)) := by rw [upd_ne nlc, upd_ne npc]; exact h2
        have wb : But pn H (upd (upd H pn (.lst [.ref cl, .int (at_ + 1), .int rest])) l (.lst [])) := But.put.trans (But.new hl)
        refine ⟨.list (ns.map PyData.int), .list [], .lst (SqL.of w2) (dp_ints ns), .lst (SqL.of upd_same) .nil, shaped_ints ns, rfl, _, rfl, ?_⟩
        cases ns with
        | nil =>
          refine iteF ?_
          exact ⟨_, _, _, rfl, w1, w2, wb⟩
        | cons z zs =>
          refine iteT ?_
          have hl0 : (0 : Int) < (((z :: zs).map V.int).length : Int) := by
            rw [List.length_map, List.length_cons]
            omega
          obtain ⟨v, hv⟩ : ∃ v, ((z :: zs))[(at_ % (((z :: zs).map V.int).length : Int)).toNat]? = some v := by
            have g := Int.emod_lt_of_pos at_ hl0
            have g0 := Int.emod_nonneg at_ (show (((z :: zs).map V.int).length : Int) ≠ 0 by omega)
            refine ⟨_, List.getElem?_eq_getElem ?_⟩
            rw [List.length_map] at g g0 ⊢
            omega
          refine ⟨_, rfl, pn, _, _, _, rfl, rfl, SqL.of w1, i0', _, rfl, .inl ⟨at_, rfl, _, rfl, pn, _, _, _, rfl, rfl, SqL.of w1, i0', _, _, rfl, .inl ⟨_, SqL.of w2, rfl⟩, _, _, rfl, rfl, hl0, cl, _, _, .int v, rfl, rfl, SqL.of w2, ?_, ?_⟩⟩
          · have g0 := Int.emod_nonneg at_ (show (((z :: zs).map V.int).length : Int) ≠ 0 by omega)
            refine at_of (j := (at_ % (((z :: zs).map V.int).length : Int)).toNat) (by omega) ?_
            rw [List.getElem?_map, hv]
            rfl
          · exact ⟨_, _, _, rfl, w1, w2, wb⟩
      · rintro σ H2 ⟨cell, v5, v6, rfl, g1, g2, hb⟩
        have pen2 : ∀ r : Int, PenC (upd H2 pn (.lst [.ref cl, .int (at_ + 1), .int r])) pn cl (n + 1) := fun r =>
          ⟨ns, at_ + 1, r, upd_same, by rw [upd_ne npc]; exact g2, h3, by omega, by omega⟩
        refine ⟨fun σ H3 => ∃ (v5 v6 : Option V), σ = [some (.ref pn), some (.int m), none, some (.int at_), some (.int cell), v5, v6] ∧ H3 = H2, ?_, ?_⟩
        · refine ⟨_, rfl, _, rfl, pn, _, _, _, rfl, rfl, SqL.of g1, i0', _, _, rfl, .inl ⟨_, SqL.of g2, rfl⟩, _, _, rfl, rfl, _, rfl, ?_⟩
          refine ite2 (fun c1 => ?_) (fun c1 => iteF ⟨_, _, rfl, rfl⟩)
          refine ⟨_, rfl, _, rfl, _, _, rfl, rfl, ⟨by decide, by decide, by decide⟩, _, _, rfl, rfl, _, rfl, ?_⟩
          refine ite2 (fun c2 => ?_) (fun c2 => ⟨_, _, rfl, rfl⟩)
          refine ⟨_, rfl, _, rfl, _, _, rfl, rfl, ⟨by decide, by decide, by decide⟩, _, _, rfl, rfl, _, _, rfl, rfl, .inl ⟨by decide, by decide⟩, _, rfl, _, _, rfl, rfl, .inr ⟨_, rfl, _, _, rfl, rfl, ?_⟩⟩
          first
            | refine ⟨_, rfl, .inl ⟨_, rfl, _, rfl, _, _, rfl, rfl, ⟨hm, hml⟩, _, rfl, pn, _, _, 2, rfl, rfl, g1, rfl, ?_⟩⟩
            | refine ⟨_, rfl, _, rfl, _, _, rfl, rfl, ⟨hm, hml⟩, _, rfl, pn, _, _, 2, rfl, rfl, g1, rfl, ?_⟩
          refine ⟨_, rfl, .inl ⟨_, rfl, _, rfl, _, _, rfl, rfl, hm, ?_⟩⟩
          exact k _ _ (Int.emod_nonneg _ (by omega)) (Int.emod_lt_of_pos _ hm) (pen2 _) (hb.trans But.put)
        · rintro σ H3 ⟨v5, v6, rfl, rfl⟩
          have ea : at_ < 100000 := by omega
          refine ⟨_, rfl, .inl ⟨_, rfl, _, _, rfl, rfl, (by show (0 : Int) < _; decide), _, rfl, _, _, rfl, rfl, .inl ⟨by decide, by decide⟩, _, _, rfl, rfl, _, _, rfl, rfl, _, _, rfl, rfl, ⟨by decide, by decide, ?_⟩, .inl ⟨_, rfl, _, _, rfl, rfl, (by show (0 : Int) < _; decide), ?_⟩⟩⟩
          · have e1 := Int.emod_nonneg cell (show (2147483563 : Int) ≠ 0 by decide)
            have e2 := Int.emod_lt_of_pos cell (show (0 : Int) < 2147483563 by decide)
            refine pow_lt (by omega) (by omega)
          have x0 := Int.emod_nonneg ((cell % 2147483563 + 63068 * at_ + 397) ^ Int.toNat 5) (show (2147483629 : Int) ≠ 0 by decide)
          have x1 := Int.emod_lt_of_pos ((cell % 2147483563 + 63068 * at_ + 397) ^ Int.toNat 5) (show (0 : Int) < 2147483629 by decide)
          refine ⟨_, rfl, _, rfl, _, _, rfl, rfl, .inl ⟨by decide, by decide⟩, _, _, rfl, rfl, _, _, rfl, rfl, .inl ⟨Int.lt_of_lt_of_le (by decide) x0, Int.lt_trans x1 (by decide)⟩, _, rfl, _, _, rfl, rfl, .inl ⟨by decide, by decide⟩, _, rfl, _, _, rfl, rfl, .inr ⟨by omega, by omega⟩, _, _, rfl, rfl, _, _, rfl, rfl, _, _, rfl, rfl, ⟨by decide, by decide, ?_⟩, .inl ⟨_, rfl, _, _, rfl, rfl, (by show (0 : Int) < _; decide), ?_⟩⟩
          · exact mix_lt x0 (Int.lt_trans x1 (by decide)) h4 ea (by decide) (by decide) (by decide) (by decide) (by decide) (by decide)
          refine ⟨_, rfl, _, _, rfl, rfl, ⟨by decide, by decide⟩, .inl ⟨_, rfl, _, rfl, _, _, rfl, rfl, hm, ?_⟩⟩
          exact k _ _ (Int.emod_nonneg _ (by omega)) (Int.emod_lt_of_pos _ hm) ⟨ns, at_ + 1, rest, g1, g2, h3, by omega, by omega⟩ hb
theorem ok_draw {f : Addr} {fd : FuncData} (F : Fun K "_law_draw" "_law_draw" s_draw f fd) (T : BI mg) : FnOk P w K mg base CX0 1 f fd ["_law_pen_here", "_law_many"] spDraw := by
  have G := ok_drawC (P := P) (w := w) (base := base) F T
  have to : ∀ vs H Q E, spDraw vs H Q E → spDrawC vs H Q E := fun vs H Q E h => by
    obtain ⟨pn, m, n, e, hm, hml, hp, hn, k⟩ := h
    obtain ⟨cl, hc⟩ := hp.cells
    exact ⟨pn, cl, m, n, e, hm, hml, hc, hn, fun d H' a b c u => k d H' a b c.pen u⟩
  exact ⟨fun vs H Q E h => G.len vs H Q E (to _ _ _ _ h), fun A outer s H args us vs Q E hr e0 hb r h => G.run A outer s H args us vs Q E hr e0 hb r (to _ _ _ _ h)⟩
theorem ok_pick {f : Addr} {fd : FuncData} (F : Fun K "_law_pick" "_law_pick" s_pick f fd) (T : BI mg) (D_draw : DefAt P w K mg base CX0 1 "_law_draw" ["_law_pen_here", "_law_many"] spDraw) : FnOk P w K mg base CX0 2 f fd ["_law_pen_here", "_law_some"] spPick := by
  refine F.ok sc_pick (fun vs H Q E h => ?_) (fun cdv A outer s H vs Q E hr h => ?_)
  · obtain ⟨pn, l, n, xs, rfl, _⟩ := h
    rfl
  · obtain ⟨pn, l, n, xs, rfl, hl, nl, h0, h1, hp, hn, k⟩ := h
    refine ⟨_, (pss_one (ps_ret (pe_ix ix_list (pv 1) (My.pe_d D_draw (hr.mono (by decide)) (by rfl) pass0 (pa_cons (pv 0) (pa_cons (pe_callB call_len (by rfl) T.z_len PySem.boot_len (pa_cons (pv 1) pa_nil)) pa_nil))) (fun _ _ => rfl)))), ?_⟩
    refine ⟨_, rfl, _, rfl, _, rfl, _, _, rfl, .inl ⟨_, SqL.of hl, rfl⟩, pn, _, n, rfl, by omega, ?_, hp, hn, fun d H' d0 d1 hp' hb => ?_⟩
    · refine Nat.lt_of_lt_of_le (PySem.Flt.log2_lt_of (k := 10) (by decide) ?_) (by decide)
      show xs.length < 1024
      omega
    · obtain ⟨v, hv⟩ : ∃ v, xs[d.toNat]? = some v := ⟨_, List.getElem?_eq_getElem (by omega)⟩
      refine ⟨l, _, _, v, rfl, rfl, SqL.of (hb l _ hl nl), at_of (j := d.toNat) (by omega) hv, ?_⟩
      exact k v H' (List.mem_of_getElem? hv) hp' hb
end
end My
set_option pp.maxSteps 1500
set_option pp.deepTerms.threshold 8
/-! ### lines -/
namespace My
open PySem PySem.Spec PyProof.Rows L2
abbrev s_isintL : Stmt := topS 14
theorem sc_isintL : FnScope ["thing"] ["thing"] (defScope s_isintL) := ⟨rfl, rfl, rfl, by decide +kernel, rfl, by decide +kernel, by decide +kernel⟩
abbrev s_linit : Stmt := inClass (topS 19) 0
theorem sc_linit : FnScope ["self", "slope", "more", "part", "value"] ["self", "slope", "more"] (defScope s_linit) := ⟨rfl, rfl, rfl, by decide +kernel, rfl, by decide +kernel, by decide +kernel⟩
abbrev s_asline : Stmt := topS 22
theorem sc_asline : FnScope ["thing"] ["thing"] (defScope s_asline) := ⟨rfl, rfl, rfl, by decide +kernel, rfl, by decide +kernel, by decide +kernel⟩
abbrev s_lneg : Stmt := inClass (topS 19) 13
theorem sc_lneg : FnScope ["self"] ["self"] (defScope s_lneg) := ⟨rfl, rfl, rfl, by decide +kernel, rfl, by decide +kernel, by decide +kernel⟩
abbrev s_ladd : Stmt := inClass (topS 19) 7
theorem sc_ladd : FnScope ["self", "other", "more"] ["self", "other"] (defScope s_ladd) := ⟨rfl, rfl, rfl, by decide +kernel, rfl, by decide +kernel, by decide +kernel⟩
abbrev s_lsub : Stmt := inClass (topS 19) 9
theorem sc_lsub : FnScope ["self", "other"] ["self", "other"] (defScope s_lsub) := ⟨rfl, rfl, rfl, by decide +kernel, rfl, by decide +kernel, by decide +kernel⟩
abbrev s_lrank : Stmt := inClass (topS 19) 6
theorem sc_lrank : FnScope ["self"] ["self"] (defScope s_lrank) := ⟨rfl, rfl, rfl, by decide +kernel, rfl, by decide +kernel, by decide +kernel⟩
abbrev s_leq : Stmt := inClass (topS 19) 18
theorem sc_leq : FnScope ["self", "other"] ["self", "other"] (defScope s_leq) := ⟨rfl, rfl, rfl, by decide +kernel, rfl, by decide +kernel, by decide +kernel⟩
def lfs (a b : Int) : List (Str × V) := putF "more" (.int b) (putF "slope" (.int a) [])
theorem sm : ¬ (("slope" : Str) = "more") := by decide +kernel
theorem lfs_slope (a b : Int) : (lfs a b).lookup ("slope" : Str) = some (.int a) := by
  unfold lfs
  rw [lookup_putF, if_neg sm, lookup_putF, if_pos rfl]
theorem lfs_more (a b : Int) : (lfs a b).lookup ("more" : Str) = some (.int b) := by
  unfold lfs
  rw [lookup_putF, if_pos rfl]
theorem lfs_no (a b : Int) {m : Str} (h1 : ¬ m = "more") (h2 : ¬ m = "slope") : (lfs a b).lookup m = none := by
  unfold lfs
  rw [lookup_putF, if_neg h1, lookup_putF, if_neg h2]
  rfl
/-- at p: a Line with these parts -/
def LineAt (C : Addr) (H : Hp) (p : Addr) (a b : Int) : Prop := ∃ dx, H p = some (.ins C dx (lfs a b))
theorem LineAt.same {C : Addr} {H H' : Hp} {p : Addr} {a b : Int} (h : LineAt C H p a b) (k : Same H H') : LineAt C H' p a b := by
  obtain ⟨dx, e⟩ := h
  exact ⟨dx, k _ _ e⟩
theorem LineAt.ext {C : Addr} {H H' : Hp} {p : Addr} {a b : Int} (h : LineAt C H p a b) (k : LamX.ExtN H H') : LineAt C H' p a b := by
  obtain ⟨dx, e⟩ := h
  exact ⟨dx, k _ _ e (by intro ps z; cases z)⟩
/-- what the top has written of Line -/
structure LTx (K : PySem.W.Frag) (mg : Str → Option Value) (CL : Addr) : Prop extends BI mg where
  ow : Own K CL
  cl : Cls K CL
  nS : NoAttr K CL "slope"
  nM : NoAttr K CL "more"
  gL : mg "Line" = some (.ref CL)
  z_str : mg "str" = none
  z_tuple : mg "tuple" = none
def spIntL : Sp := fun vs H Q _ => ∃ i : Int, vs = [.int i] ∧ Q (.bl true) H
/-- Line.__init__ of ints -/
def spLinit (C : Addr) : Sp := fun vs H Q _ => ∃ (p dx : Addr) (a b : Int), vs = [.ref p, .int a, .int b] ∧ H p = some (.ins C dx []) ∧
  (∀ H', H' p = some (.ins C dx (lfs a b)) → (∀ c o, H c = some o → c ≠ p → H' c = some o) → Q .non H')
theorem linit_at {C : Addr} {H : Hp} {x dx : Addr} {a b : Int} {R : Hp → Prop} {E : XK} (hx : H x = none) (hd : H dx = none) (ne : dx ≠ x) (k : ∀ H', LineAt C H' x a b → Same H H' → R H') :
    spLinit C (.ref x :: ([.int a, .int b] ++ [])) (upd (upd H dx (.own x)) x (.ins C dx [])) (fun v H2 => v = .non ∧ R H2) E := by
  refine ⟨x, dx, a, b, rfl, upd_same, fun H' h1 h2 => ⟨rfl, k H' ⟨dx, h1⟩ fun c o e => h2 c o ?_ (ne_of_none e hx)⟩⟩
  rw [upd_ne (ne_of_none e hx), upd_ne (ne_of_none e hd)]
  exact e
/-- a line, or an int that stands for one -/
def LnAt (C : Addr) (H : Hp) (v : V) (c d : Int) : Prop := (∃ p, v = .ref p ∧ LineAt C H p c d) ∨ (c = 0 ∧ v = .int d)
theorem LnAt.same {C : Addr} {H H' : Hp} {v : V} {c d : Int} (h : LnAt C H v c d) (s : Same H H') : LnAt C H' v c d := by
  rcases h with ⟨p, e, l⟩ | h
  · exact .inl ⟨p, e, l.same s⟩
  · exact .inr h
theorem LnAt.orInt {C : Addr} {H : Hp} {v : V} {c d : Int} (h : LnAt C H v c d) : OrInt H C v := by
  rcases h with ⟨p, e, dx, l⟩ | ⟨_, h⟩
  · exact .inl ⟨p, dx, _, e, l⟩
  · exact .inr ⟨d, h⟩
def spAs (C : Addr) : Sp := fun vs H Q _ => ∃ (v : V) (c d : Int), vs = [v] ∧ LnAt C H v c d ∧ ∀ (q : Addr) (H' : Hp), LineAt C H' q c d → Same H H' → Q (.ref q) H'
def spLneg (C : Addr) : Sp := fun vs H Q _ => ∃ (p : Addr) (a b : Int), vs = [.ref p] ∧ LineAt C H p a b ∧ ∀ (q : Addr) (H' : Hp), LineAt C H' q (0 - a) (0 - b) → Same H H' → Q (.ref q) H'
def spLadd (C : Addr) : Sp := fun vs H Q _ => ∃ (p : Addr) (a b : Int) (v : V) (c d : Int), vs = [.ref p, v] ∧ LineAt C H p a b ∧ LnAt C H v c d ∧ ∀ (q : Addr) (H' : Hp), LineAt C H' q (a + c) (b + d) → Same H H' → Q (.ref q) H'
def spLsub (C : Addr) : Sp := fun vs H Q _ => ∃ (p : Addr) (a b : Int) (v : V) (c d : Int), vs = [.ref p, v] ∧ LineAt C H p a b ∧ LnAt C H v c d ∧ ∀ (q : Addr) (H' : Hp), LineAt C H' q (a - c) (b - d) → Same H H' → Q (.ref q) H'
def spRank (C : Addr) : Sp := fun vs H Q _ => ∃ (p : Addr) (a b : Int), vs = [.ref p] ∧ LineAt C H p a b ∧ ∀ t, H t = none → Q (.ref t) (upd H t (.tup [.int a, .int b]))
def spLeq (C : Addr) : Sp := fun vs H Q _ => ∃ (p q : Addr) (a b c d : Int), vs = [.ref p, .ref q] ∧ LineAt C H p a b ∧ LineAt C H q c d ∧ ∀ H', Same H H' → Q (.bl (decide (a = c ∧ b = d))) H'
section
variable {P : Program} {w : World} {K : PySem.W.Frag} {mg : Str → Option Value} {base : Heap} {CL : Addr}
theorem ok_isintL {f : Addr} {fd : FuncData} (F : Fun K "is_integer" "is_integer" s_isintL f fd) (T : BI mg) : FnOk P w K mg base CX0 1 f fd ["thing"] spIntL := by
  refine F.ok sc_isintL (fun vs H Q E h => ?_) (fun cdv A outer s H vs Q E hr h => ?_)
  · obtain ⟨i, rfl, _⟩ := h
    rfl
  · obtain ⟨i, rfl, q⟩ := h
    refine ⟨_, (pss_one (ps_ret (pe_and (pe_callB call_isi (by rfl) T.z_isinstance boot_isinstance (pa_cons (pv 0) (pa_cons (pe_bltn (v := .ty "int") (by rfl) T.z_int boot_int rfl) pa_nil))) (pe_one (pe_not (pe_callB call_isi (by rfl) T.z_isinstance boot_isinstance (pa_cons (pv 0) (pa_cons (pe_bltn (v := .ty "bool") (by rfl) T.z_bool boot_bool rfl) pa_nil)))))))), ?_⟩
    exact ⟨_, rfl, _, _, _, _, true, rfl, .ty _, (Ty0.int i).tyx, kit_ty (by decide +kernel), _, rfl, iteT ⟨_, rfl, _, _, _, _, false, rfl, .ty _, (Ty0.int i).tyx, kit_ty (by decide +kernel), _, rfl, q⟩⟩
theorem ok_linit {f : Addr} {fd : FuncData} (F : FunD K "__init__" "Line.__init__" (defArgs s_linit) (defBody s_linit) (defScope s_linit) [.int 0] [] f fd) (T : LTx K mg CL)
    (D_isintL : DefAt P w K mg base CX0 1 "is_integer_lines" ["thing"] spIntL) : FnOk P w K mg base (L2.CX P w) 3 f fd ["self", "slope", "more"] (spLinit CL) := by
  refine F.ok sc_linit (fun vs H Q E h => ?_) (fun cdv A outer s H vs Q E hr h => ?_)
  · obtain ⟨p, dx, a, b, rfl, _⟩ := h
    rfl
  · obtain ⟨p, dx, a, b, rfl, hp, kQ⟩ := h
    refine ⟨_, (pss_cons (ps_for (passes_of rfl) rfl (pi_tup (pe_tup (pa_cons (pe_tup (pa_cons pe_str (pa_cons (pv 1) pa_nil))) (pa_cons (pe_tup (pa_cons pe_str (pa_cons (pv 2) pa_nil))) pa_nil)))) (pg_tup rfl (pgs_cons (pg_name (i := 3) sc_linit.nd rfl (Or.inl rfl)) (pgs_cons (pg_name (i := 4) sc_linit.nd rfl (Or.inl rfl)) pgs_nil))) (pss_one (ps_if (pt_not (pt_val (My.pe_d D_isintL (hr.mono (by decide)) (by rfl) pass0 (pa_cons (pv 4) pa_nil)))) (pss_one ps_never) pss_nil)))
      (pss_cons (ps_fld (pv 0) (pv 1) rfl)
      (pss_one (ps_fld (pv 0) (pv 2) rfl)))), ?_⟩
    refine ⟨_, rfl, (by show 2 ≤ sizeLine; decide), fun t1 h1 => ⟨_, rfl, (by show 2 ≤ sizeLine; decide), fun t2 h2 => ⟨(by show 2 ≤ sizeLine; decide), fun t3 h3 => ?_⟩⟩⟩
    have s1 := same_new (o := .tup [.str "slope", .int a]) h1
    have s2 := same_new (o := .tup [.str "more", .int b]) h2
    have s3 := same_new (o := .tup [.ref t1, .ref t2]) h3
    have w1 := s3 _ _ (s2 _ _ (upd_same (H := H) (a := t1) (o := .tup [.str "slope", .int a])))
    have w2 := s3 _ _ (upd_same (H := upd H t1 (.tup [.str "slope", .int a])) (a := t2) (o := .tup [.str "more", .int b]))
    have w3 : (upd (upd (upd H t1 (.tup [.str "slope", .int a])) t2 (.tup [.str "more", .int b])) t3 (.tup [.ref t1, .ref t2])) t3 = some (.tup [.ref t1, .ref t2]) := upd_same
    have s3 := (s1.trans s2).trans s3
    generalize (upd (upd (upd H t1 (.tup [.str "slope", .int a])) t2 (.tup [.str "more", .int b])) t3 (.tup [.ref t1, .ref t2])) = H3 at w1 w2 w3 s3
    refine ⟨t3, rfl, ⟨_, SqT.of w3⟩, for_tup (K := K) (a := t3) (xs := [.ref t1, .ref t2]) (fun i σ H' => ∃ v3 v4, σ = [some (.ref p), some (.int a), some (.int b), v3, v4] ∧ H' = H3)
      ⟨none, none, rfl, rfl⟩ (fun i σ H' _ ⟨_, _, _, e⟩ => by rw [e]; exact SqT.of w3) ?_ ?_⟩
    · rintro i x σ H' hi ⟨v3, v4, rfl, rfl⟩
      rcases i with _ | _ | i
      · obtain rfl : V.ref t1 = x := Option.some.inj hi
        exact ⟨t1, _, rfl, SqT.of w1, rfl, _, _, rfl, _, _, rfl, rfl, _, rfl, a, rfl, _, rfl, iteF ⟨_, _, rfl, rfl⟩⟩
      · obtain rfl : V.ref t2 = x := Option.some.inj hi
        exact ⟨t2, _, rfl, SqT.of w2, rfl, _, _, rfl, _, _, rfl, rfl, _, rfl, b, rfl, _, rfl, iteF ⟨_, _, rfl, rfl⟩⟩
      · cases hi
    · rintro σ H' ⟨v3, v4, rfl, rfl⟩
      refine ⟨_, rfl, _, rfl, p, CL, dx, _, rfl, s3 _ _ hp, T.cl, T.nS, (by show 0 < 1000; decide), ?_⟩
      refine ⟨_, rfl, _, rfl, p, CL, dx, _, rfl, upd_same, T.cl, T.nM, (by show 1 < 1000; decide), ?_⟩
      refine kQ _ upd_same fun c o z nc => ?_
      rw [upd_ne nc, upd_ne nc]
      exact s3 c o z
theorem ok_asline {f : Addr} {fd : FuncData} (F : Fun K "as_line" "as_line" s_asline f fd) (T : LTx K mg CL)
    (M_Line : MakeAt P w K mg base (L2.CX P w) 3 "Line" CL ["self", "slope", "more"] (spLinit CL) []) : FnOk P w K mg base CX0 5 f fd ["thing"] (spAs CL) := by
  refine F.ok sc_asline (fun vs H Q E h => ?_) (fun cdv A outer s H vs Q E hr h => ?_)
  · obtain ⟨v, c, d, rfl, _⟩ := h
    rfl
  · obtain ⟨v, c, d, rfl, hn, k⟩ := h
    refine ⟨_, (pss_one (ps_ret (pe_ifExp (pt_val (pe_callB call_isi (by rfl) T.z_isinstance boot_isinstance (pa_cons (pv 0) (pa_cons (pe_glob (v := .ref CL) (by rfl) T.gL rfl) pa_nil)))) (pv 0) (My.pe_mk M_Line (hr.mono (by decide)) (by rfl) passL (pa_cons pe_int (pa_cons (pv 0) pa_nil)))))), ?_⟩
    rcases hn with ⟨p, rfl, hl⟩ | ⟨rfl, rfl⟩
    · obtain ⟨dx, e⟩ := id hl
      refine ⟨_, rfl, _, _, _, _, true, rfl, .own _, T.ow.ty e, T.ow.me, _, rfl, iteT ?_⟩
      exact ⟨_, rfl, k p _ hl fun _ _ z => z⟩
    · refine ⟨_, rfl, _, _, _, _, false, rfl, .own _, (Ty0.int d).tyx, (T.ow.kn _ (.head _)).1, _, rfl, iteF ?_⟩
      exact ⟨_, rfl, fun x dx hx hd ne => linit_at hx hd ne fun H' l s => k x H' l s⟩
theorem ok_lrank {f : Addr} {fd : FuncData} (F : Fun K "rank" "Line.rank" s_lrank f fd) (T : LTx K mg CL) : FnOk P w K mg base CX0 1 f fd ["self"] (spRank CL) := by
  refine F.ok sc_lrank (fun vs H Q E h => ?_) (fun cdv A outer s H vs Q E hr h => ?_)
  · obtain ⟨p, a, b, rfl, _⟩ := h
    rfl
  · obtain ⟨p, a, b, rfl, ⟨dx, hp⟩, k⟩ := h
    refine ⟨_, (pss_one (ps_ret (pe_tup (pa_cons (pe_fld (pv 0) rfl) (pa_cons (pe_fld (pv 0) rfl) pa_nil))))), ?_⟩
    exact ⟨_, rfl, p, CL, dx, _, _, rfl, hp, T.cl, T.nS, lfs_slope _ _, _, rfl, p, CL, dx, _, _, rfl, hp, T.cl, T.nM, lfs_more _ _, (by show 2 ≤ sizeLine; decide), k⟩
theorem ok_leq {f : Addr} {fd : FuncData} (F : Fun K "__eq__" "Line.__eq__" s_leq f fd) (T : LTx K mg CL)
    (X_lrank : MethAt P w K mg base CX0 1 CL "rank" ["self"] (spRank CL)) : FnOk P w K mg base CX0 2 f fd ["self", "other"] (spLeq CL) := by
  refine F.ok sc_leq (fun vs H Q E h => ?_) (fun cdv A outer s H vs Q E hr h => ?_)
  · obtain ⟨p, q, a, b, c, d, rfl, _⟩ := h
    rfl
  · obtain ⟨p, q, a, b, c, d, rfl, ⟨dx, hp⟩, ⟨dy, hq⟩, k⟩ := h
    refine ⟨_, (pss_one (ps_ret (pe_and (pe_callB call_isi (by rfl) T.z_isinstance boot_isinstance (pa_cons (pv 1) (pa_cons (pe_glob (v := .ref CL) (by rfl) T.gL rfl) pa_nil))) (pe_one (pe_cmpR (op_eqD hr.units) (My.pe_mt0 T.cl X_lrank (hr.mono (by decide)) pass0 (pv 0)) (My.pe_mt0 T.cl X_lrank (hr.mono (by decide)) pass0 (pv 1)) (nomark _)))))), ?_⟩
    refine ⟨_, rfl, _, _, _, _, true, rfl, .own _, T.ow.ty hq, T.ow.me, _, rfl, iteT ?_⟩
    refine ⟨_, rfl, p, dx, _, rfl, hp, lfs_no _ _ (by decide +kernel) (by decide +kernel), p, a, b, rfl, ⟨dx, hp⟩, fun t1 h1 => ?_⟩
    have hq1 := same_new (o := .tup [.int a, .int b]) h1 _ _ hq
    refine ⟨_, rfl, q, dy, _, rfl, hq1, lfs_no _ _ (by decide +kernel) (by decide +kernel), q, c, d, rfl, ⟨dy, hq1⟩, fun t2 h2 => ?_⟩
    have w1 := same_new (o := .tup [.int c, .int d]) h2 _ _ (upd_same (H := H) (a := t1) (o := .tup [.int a, .int b]))
    refine ⟨.tuple [.int a, .int b], .tuple [.int c, .int d], .tup (SqT.of w1) (.cons (.int a) (.cons (.int b) .nil)), .tup (SqT.of upd_same) (.cons (.int c) (.cons (.int d) .nil)), rfl, rfl, ?_⟩
    have e : PyData.eqv (.tuple [.int a, .int b]) (.tuple [.int c, .int d]) = decide (a = c ∧ b = d) := by
      show (a == c && (b == d && true)) = decide (a = c ∧ b = d)
      rw [Bool.and_true, Bool.decide_and]
      rfl
    rw [e]
    exact k _ ((same_new h1).trans (same_new h2))
theorem ok_lneg {f : Addr} {fd : FuncData} (F : Fun K "__neg__" "Line.__neg__" s_lneg f fd) (T : LTx K mg CL)
    (M_Line : MakeAt P w K mg base (L2.CX P w) 3 "Line" CL ["self", "slope", "more"] (spLinit CL) []) : FnOk P w K mg base CX0 5 f fd ["self"] (spLneg CL) := by
  refine F.ok sc_lneg (fun vs H Q E h => ?_) (fun cdv A outer s H vs Q E hr h => ?_)
  · obtain ⟨p, a, b, rfl, _⟩ := h
    rfl
  · obtain ⟨p, a, b, rfl, ⟨dx, hp⟩, k⟩ := h
    refine ⟨_, (pss_one (ps_ret (My.pe_mk M_Line (hr.mono (by decide)) (by rfl) passL (pa_cons (pe_op op_sub pe_int (pe_fld (pv 0) rfl)) (pa_cons (pe_op op_sub pe_int (pe_fld (pv 0) rfl)) pa_nil))))), ?_⟩
    refine ⟨_, rfl, p, CL, dx, _, _, rfl, hp, T.cl, T.nS, lfs_slope _ _, _, _, rfl, rfl, _, rfl, p, CL, dx, _, _, rfl, hp, T.cl, T.nM, lfs_more _ _, _, _, rfl, rfl, fun x dx' hx hd ne => ?_⟩
    exact linit_at hx hd ne fun H' l s => k x H' l s
theorem ok_ladd {f : Addr} {fd : FuncData} (F : Fun K "__add__" "Line.__add__" s_ladd f fd) (T : LTx K mg CL) (D_asline : DefAt P w K mg base CX0 5 "as_line" ["thing"] (spAs CL))
    (M_Line : MakeAt P w K mg base (L2.CX P w) 3 "Line" CL ["self", "slope", "more"] (spLinit CL) []) : FnOk P w K mg base CX0 6 f fd ["self", "other"] (spLadd CL) := by
  refine F.ok sc_ladd (fun vs H Q E h => ?_) (fun cdv A outer s H vs Q E hr h => ?_)
  · obtain ⟨p, a, b, v, c, d, rfl, _⟩ := h
    rfl
  · obtain ⟨p, a, b, v, c, d, rfl, hl, hn, k⟩ := h
    refine ⟨_, (pss_cons (ps_set (i := 2) sc_ladd.nd rfl (Or.inl rfl) (My.pe_d D_asline (hr.mono (by decide)) (by rfl) pass0 (pa_cons (pv 1) pa_nil)))
      (pss_one (ps_ret (My.pe_mk M_Line (hr.mono (by decide)) (by rfl) passL (pa_cons (pe_op op_add (pe_fld (pv 0) rfl) (pe_fld (pv 2) rfl)) (pa_cons (pe_op op_add (pe_fld (pv 0) rfl) (pe_fld (pv 2) rfl)) pa_nil)))))), ?_⟩
    refine ⟨_, rfl, v, c, d, rfl, hn, fun q H1 l1 s1 => ?_⟩
    obtain ⟨dx, hp⟩ := hl.same s1
    obtain ⟨dy, hq⟩ := id l1
    refine ⟨_, rfl, p, CL, dx, _, _, rfl, hp, T.cl, T.nS, lfs_slope _ _, _, rfl, q, CL, dy, _, _, rfl, hq, T.cl, T.nS, lfs_slope _ _, _, _, rfl, rfl, _, rfl, p, CL, dx, _, _, rfl, hp, T.cl, T.nM, lfs_more _ _, _, rfl, q, CL, dy, _, _, rfl, hq, T.cl, T.nM, lfs_more _ _, _, _, rfl, rfl, fun x dx' hx hd ne => ?_⟩
    exact linit_at hx hd ne fun H' l s => k x H' l (s1.trans s)
theorem ok_lsub {f : Addr} {fd : FuncData} (F : Fun K "__sub__" "Line.__sub__" s_lsub f fd) (T : LTx K mg CL) (D_asline : DefAt P w K mg base CX0 5 "as_line" ["thing"] (spAs CL))
    (O_lneg : CmpAt P w K mg base CX0 5 CL "__neg__" ["self"] (spLneg CL)) (O_ladd : CmpAt P w K mg base CX0 6 CL "__add__" ["self", "other"] (spLadd CL)) (B_ladd : BinF K CL (Operator.info .Add).2) : FnOk P w K mg base CX0 7 f fd ["self", "other"] (spLsub CL) := by
  refine F.ok sc_lsub (fun vs H Q E h => ?_) (fun cdv A outer s H vs Q E hr h => ?_)
  · obtain ⟨p, a, b, v, c, d, rfl, _⟩ := h
    rfl
  · obtain ⟨p, a, b, v, c, d, rfl, hl, hn, k⟩ := h
    refine ⟨_, (pss_one (ps_ret (pe_op (My.op_binO O_ladd B_ladd (hr.mono (by decide)) pass0) (pv 0) (pe_un (My.un_negO O_lneg (hr.mono (by decide)) pass0) (My.pe_d D_asline (hr.mono (by decide)) (by rfl) pass0 (pa_cons (pv 1) pa_nil)))))), ?_⟩
    refine ⟨_, rfl, _, rfl, v, c, d, rfl, hn, fun q H1 l1 s1 => ?_⟩
    obtain ⟨dy, hq⟩ := id l1
    refine ⟨q, dy, _, rfl, hq, q, c, d, rfl, l1, fun u H2 l2 s2 => ?_⟩
    have l0 := (hl.same s1).same s2
    obtain ⟨dx, hp⟩ := id l0
    refine ⟨p, dx, _, rfl, hp, LnAt.orInt (.inl ⟨u, rfl, l2⟩), p, a, b, _, _, _, rfl, l0, .inl ⟨u, rfl, l2⟩, fun z H3 l3 s3 => ?_⟩
    have e1 : a + (0 - c) = a - c := by omega
    have e2 : b + (0 - d) = b - d := by omega
    rw [e1, e2] at l3
    exact k z H3 l3 ((s1.trans s2).trans s3)
end
end My
namespace My
/-! ### fractions in lowest terms -/
def sgcd (t b : Int) : Int := if b < 0 then -(Int.gcd t b : Int) else (Int.gcd t b : Int)
def lowT (t b : Int) : Int := t.fdiv (sgcd t b)
def lowB (t b : Int) : Int := b.fdiv (sgcd t b)
theorem gcd_posI {t b : Int} (h : b ≠ 0) : 0 < (Int.gcd t b : Int) := by
  have : 0 < Int.gcd t b := Int.gcd_pos_of_ne_zero_right t h
  omega
theorem sgcd_ne {t b : Int} (h : b ≠ 0) : sgcd t b ≠ 0 := by
  have := gcd_posI (t := t) h
  unfold sgcd
  split <;> omega
theorem sgcd_dvd_l (t b : Int) : sgcd t b ∣ t := by
  unfold sgcd
  split
  · exact Int.neg_dvd.mpr (Int.gcd_dvd_left ..)
  · exact Int.gcd_dvd_left ..
theorem sgcd_dvd_r (t b : Int) : sgcd t b ∣ b := by
  unfold sgcd
  split
  · exact Int.neg_dvd.mpr (Int.gcd_dvd_right ..)
  · exact Int.gcd_dvd_right ..
theorem fdiv_mul_of {a c : Int} (h : c ∣ a) : c * a.fdiv c = a := Int.mul_fdiv_cancel' h
theorem low_t (t b : Int) : sgcd t b * lowT t b = t := fdiv_mul_of (sgcd_dvd_l t b)
theorem low_b (t b : Int) : sgcd t b * lowB t b = b := fdiv_mul_of (sgcd_dvd_r t b)
theorem lowB_pos {t b : Int} (h : b ≠ 0) : 0 < lowB t b := by
  have e := low_b t b
  have g := gcd_posI (t := t) h
  by_cases hb : b < 0
  · have s : sgcd t b = -(Int.gcd t b : Int) := if_pos hb
    rw [s] at e
    rcases Int.lt_trichotomy (lowB t b) 0 with q | q | q
    · exfalso
      have := Int.mul_pos (a := (Int.gcd t b : Int)) (b := -lowB t b) g (by omega)
      rw [Int.mul_neg] at this
      rw [Int.neg_mul] at e
      omega
    · rw [q] at e; omega
    · exact q
  · have s : sgcd t b = (Int.gcd t b : Int) := if_neg hb
    rw [s] at e
    rcases Int.lt_trichotomy (lowB t b) 0 with q | q | q
    · exfalso
      have := Int.mul_pos (a := (Int.gcd t b : Int)) (b := -lowB t b) g (by omega)
      rw [Int.mul_neg] at this
      omega
    · rw [q] at e; omega
    · exact q
theorem sgcd_abs (t b : Int) : (sgcd t b).natAbs = Int.gcd t b := by
  unfold sgcd
  split <;> simp
theorem low_cop {t b : Int} (h : b ≠ 0) : Int.gcd (lowT t b) (lowB t b) = 1 := by
  have e1 := low_t t b
  have e2 := low_b t b
  have e3 : Int.gcd (sgcd t b * lowT t b) (sgcd t b * lowB t b) = (sgcd t b).natAbs * Int.gcd (lowT t b) (lowB t b) := Int.gcd_mul_left ..
  rw [e1, e2, sgcd_abs] at e3
  have g := gcd_posI (t := t) h
  have g' : 0 < Int.gcd t b := by omega
  exact Nat.eq_of_mul_eq_mul_left g' (by rw [Nat.mul_one]; exact e3.symm)
/-- the law's own way: by the sign and the divisor -/
theorem sgnT {t b : Int} (h : b ≠ 0) : ((if b > 0 then 1 else -1) * t).fdiv (Int.gcd t b : Int) = lowT t b := by
  have g := gcd_posI (t := t) h
  have e := low_t t b
  have key : ((if b > 0 then 1 else -1) * t) = (Int.gcd t b : Int) * lowT t b := by
    conv => lhs; rw [← e]
    unfold sgcd
    by_cases hb : b < 0
    · rw [if_pos hb, if_neg (show ¬ b > 0 by omega), Int.neg_mul, Int.neg_mul, Int.mul_neg, Int.neg_neg, Int.one_mul]
    · rw [if_neg hb, if_pos (show b > 0 by omega), Int.one_mul]
  rw [key, Int.mul_fdiv_cancel_left _ (by omega)]
theorem sgnB {t b : Int} (h : b ≠ 0) : ((if b > 0 then 1 else -1) * b).fdiv (Int.gcd t b : Int) = lowB t b := by
  have g := gcd_posI (t := t) h
  have e := low_b t b
  have key : ((if b > 0 then 1 else -1) * b) = (Int.gcd t b : Int) * lowB t b := by
    have e' : sgcd t b = (if b > 0 then 1 else -1) * (Int.gcd t b : Int) := by
      unfold sgcd
      by_cases hb : b < 0
      · rw [if_pos hb, if_neg (show ¬ b > 0 by omega), Int.neg_mul, Int.one_mul]
      · rw [if_neg hb, if_pos (show b > 0 by omega), Int.one_mul]
    rw [e'] at e
    by_cases hb : b < 0
    · rw [if_neg (show ¬ b > 0 by omega)] at e ⊢
      rw [Int.neg_mul, Int.one_mul] at e ⊢
      rw [Int.neg_mul] at e
      omega
    · rw [if_pos (show b > 0 by omega)] at e ⊢
      rw [Int.one_mul] at e ⊢
      omega
  rw [key, Int.mul_fdiv_cancel_left _ (by omega)]
theorem cop_dvd {n d m : Int} (h : Int.gcd n d = 1) (k : d ∣ n * m) : d ∣ m := by
  have h1 : d.natAbs ∣ n.natAbs * m.natAbs := by
    rw [← Int.natAbs_mul]
    exact Int.natAbs_dvd_natAbs.mpr k
  have h2 : Nat.Coprime d.natAbs n.natAbs := by
    show Nat.gcd _ _ = 1
    rw [Nat.gcd_comm]
    exact h
  exact Int.natAbs_dvd_natAbs.mp (h2.dvd_of_dvd_mul_left h1)
theorem low_only {n1 d1 n2 d2 : Int} (p1 : 0 < d1) (p2 : 0 < d2) (c1 : Int.gcd n1 d1 = 1) (c2 : Int.gcd n2 d2 = 1) (h : n1 * d2 = n2 * d1) : n1 = n2 ∧ d1 = d2 := by
  have e1 : d1 ∣ d2 := cop_dvd c1 (by rw [h]; exact Int.dvd_mul_left ..)
  have e2 : d2 ∣ d1 := cop_dvd c2 (by rw [← h]; exact Int.dvd_mul_left ..)
  have e : d1 = d2 := Int.le_antisymm (Int.le_of_dvd p2 e1) (Int.le_of_dvd p1 e2)
  subst e
  exact ⟨Int.eq_of_mul_eq_mul_right (by omega) h, rfl⟩
theorem low_cross {t b : Int} : lowT t b * b = lowB t b * t := by
  have e1 := low_t t b
  have e2 := low_b t b
  calc lowT t b * b = lowT t b * (sgcd t b * lowB t b) := by rw [e2]
    _ = lowB t b * (sgcd t b * lowT t b) := by simp only [Int.mul_comm, Int.mul_left_comm]
    _ = lowB t b * t := by rw [e1]
/-- equal fractions have the same lowest terms -/
theorem low_eq {t1 b1 t2 b2 : Int} (h1 : b1 ≠ 0) (h2 : b2 ≠ 0) (h : t1 * b2 = t2 * b1) : lowT t1 b1 = lowT t2 b2 ∧ lowB t1 b1 = lowB t2 b2 := by
  refine low_only (lowB_pos h1) (lowB_pos h2) (low_cop h1) (low_cop h2) ?_
  have s1 := sgcd_ne (t := t1) h1
  have s2 := sgcd_ne (t := t2) h2
  have a1 := low_t t1 b1
  have a2 := low_b t1 b1
  have a3 := low_t t2 b2
  have a4 := low_b t2 b2
  have q : (sgcd t1 b1 * sgcd t2 b2) * (lowT t1 b1 * lowB t2 b2) = (sgcd t1 b1 * sgcd t2 b2) * (lowT t2 b2 * lowB t1 b1) := by
    calc (sgcd t1 b1 * sgcd t2 b2) * (lowT t1 b1 * lowB t2 b2) = (sgcd t1 b1 * lowT t1 b1) * (sgcd t2 b2 * lowB t2 b2) := by grind
      _ = t1 * b2 := by rw [a1, a4]
      _ = t2 * b1 := h
      _ = (sgcd t2 b2 * lowT t2 b2) * (sgcd t1 b1 * lowB t1 b1) := by rw [a3, a2]
      _ = _ := by grind
  exact Int.eq_of_mul_eq_mul_left (Int.mul_ne_zero s1 s2) q
theorem low_self {n d : Int} (p : 0 < d) (c : Int.gcd n d = 1) : lowT n d = n ∧ lowB n d = d := by
  have h : d ≠ 0 := by omega
  exact low_only (lowB_pos h) p (low_cop h) c (by rw [low_cross, Int.mul_comm])
theorem lowT_abs {t b : Int} (h : b ≠ 0) : (lowT t b).natAbs ≤ t.natAbs := by
  have e := congrArg Int.natAbs (low_t t b)
  rw [Int.natAbs_mul] at e
  have s : 0 < (sgcd t b).natAbs := Int.natAbs_pos.mpr (sgcd_ne h)
  rw [← e]
  exact Nat.le_mul_of_pos_left _ s
theorem lowB_abs {t b : Int} (h : b ≠ 0) : (lowB t b).natAbs ≤ b.natAbs := by
  have e := congrArg Int.natAbs (low_b t b)
  rw [Int.natAbs_mul] at e
  have s : 0 < (sgcd t b).natAbs := Int.natAbs_pos.mpr (sgcd_ne h)
  rw [← e]
  exact Nat.le_mul_of_pos_left _ s
theorem sgcd_le {t b : Int} (h : b ≠ 0) : (sgcd t b).natAbs ≤ b.natAbs := by
  have e := congrArg Int.natAbs (low_b t b)
  rw [Int.natAbs_mul] at e
  have s : 0 < (lowB t b).natAbs := Int.natAbs_pos.mpr (by have := lowB_pos (t := t) h; omega)
  rw [← e]
  exact Nat.le_mul_of_pos_right _ s
theorem gcd_le_r {t b : Int} (h : b ≠ 0) : Int.gcd t b ≤ b.natAbs := by
  rw [← sgcd_abs]
  exact sgcd_le h
theorem lowT_zero {t b : Int} (h : b ≠ 0) : lowT t b = 0 ↔ t = 0 := by
  constructor
  · intro e
    have := low_t t b
    rw [e, Int.mul_zero] at this
    exact this.symm
  · rintro rfl
    have := low_t 0 b
    rcases Int.mul_eq_zero.mp this with q | q
    · exact absurd q (sgcd_ne h)
    · exact q
/-- a fraction turned over that equals itself -/
theorem turned {n d : Int} (p : 0 < d) (c : Int.gcd n d = 1) (hn : n ≠ 0) (e2 : lowB d n = d) : n.natAbs = d.natAbs := by
  have g : Int.gcd d n = 1 := by rw [Int.gcd_comm]; exact c
  have b := low_b d n
  have s : (sgcd d n).natAbs = 1 := by rw [sgcd_abs, g]
  have := congrArg Int.natAbs b
  rw [Int.natAbs_mul, s, Nat.one_mul, e2] at this
  exact this.symm
/-- one turn of Euclid's way -/
theorem gcd_turn {a b : Int} (ha : 0 ≤ a) (hb : 0 ≤ b) : Int.gcd b (a.fmod b) = Int.gcd a b := by
  rw [Int.fmod_eq_emod_of_nonneg _ hb]
  unfold Int.gcd
  rw [Int.natAbs_emod_of_nonneg ha, Nat.gcd_comm, Nat.gcd_comm a.natAbs, ← Nat.gcd_rec]
theorem fmod_bd {a b : Int} (hb : 0 < b) : 0 ≤ a.fmod b ∧ a.fmod b < b := by
  rw [Int.fmod_eq_emod_of_nonneg _ (by omega)]
  exact ⟨Int.emod_nonneg _ (by omega), Int.emod_lt_of_pos _ hb⟩
theorem gcd_absI (a b : Int) : Int.gcd (if a < 0 then -a else a) (if b < 0 then -b else b) = Int.gcd a b := by
  unfold Int.gcd
  congr 1 <;> split <;> simp
end My
set_option pp.maxSteps 1500
set_option pp.deepTerms.threshold 8
/-! ### numbers -/
namespace My
open PySem PySem.Spec PyProof.Rows L2
abbrev s_whole0 : Stmt := topS 25
theorem sc_whole0 : FnScope ["value"] ["value"] (defScope s_whole0) := ⟨rfl, rfl, rfl, by decide +kernel, rfl, by decide +kernel, by decide +kernel⟩
abbrev s_cd : Stmt := topS 26
theorem sc_cd : FnScope ["one", "other"] ["one", "other"] (defScope s_cd) := ⟨rfl, rfl, rfl, by decide +kernel, rfl, by decide +kernel, by decide +kernel⟩
abbrev s_partsof : Stmt := topS 28
theorem sc_partsof : FnScope ["number"] ["number"] (defScope s_partsof) := ⟨rfl, rfl, rfl, by decide +kernel, rfl, by decide +kernel, by decide +kernel⟩
abbrev s_rinit : Stmt := inClass (topS 30) 0
theorem sc_rinit : FnScope ["self", "top", "bottom", "shared"] ["self", "top", "bottom"] (defScope s_rinit) := ⟨rfl, rfl, rfl, by decide +kernel, rfl, by decide +kernel, by decide +kernel⟩
abbrev s_isnum : Stmt := inClass (topS 30) 1
theorem sc_isnum : FnScope ["thing"] ["thing"] (defScope s_isnum) := ⟨rfl, rfl, rfl, by decide +kernel, rfl, by decide +kernel, by decide +kernel⟩
abbrev s_of : Stmt := inClass (topS 30) 2
theorem sc_of : FnScope ["number", "top", "bottom"] ["number"] (defScope s_of) := ⟨rfl, rfl, rfl, by decide +kernel, rfl, by decide +kernel, by decide +kernel⟩
def rfs (a b : Int) : List (Str × V) := putF "bottom" (.int b) (putF "top" (.int a) [])
theorem rsm : ¬ (("top" : Str) = "bottom") := by decide +kernel
theorem rfs_top (a b : Int) : (rfs a b).lookup ("top" : Str) = some (.int a) := by
  unfold rfs
  rw [lookup_putF, if_neg rsm, lookup_putF, if_pos rfl]
theorem rfs_bot (a b : Int) : (rfs a b).lookup ("bottom" : Str) = some (.int b) := by
  unfold rfs
  rw [lookup_putF, if_pos rfl]
theorem rfs_no (a b : Int) {m : Str} (h1 : ¬ m = "bottom") (h2 : ¬ m = "top") : (rfs a b).lookup m = none := by
  unfold rfs
  rw [lookup_putF, if_neg h1, lookup_putF, if_neg h2]
  rfl
/-- at p: a Ratio with this top and this bottom -/
def RatAt (C : Addr) (H : Hp) (p : Addr) (a b : Int) : Prop := ∃ dx, H p = some (.ins C dx (rfs a b))
theorem RatAt.same {C : Addr} {H H' : Hp} {p : Addr} {a b : Int} (h : RatAt C H p a b) (k : Same H H') : RatAt C H' p a b := by
  obtain ⟨dx, e⟩ := h
  exact ⟨dx, k _ _ e⟩
theorem RatAt.ext {C : Addr} {H H' : Hp} {p : Addr} {a b : Int} (h : RatAt C H p a b) (k : LamX.ExtN H H') : RatAt C H' p a b := by
  obtain ⟨dx, e⟩ := h
  exact ⟨dx, k _ _ e (by intro ps z; cases z)⟩
/-- what the top has written of Ratio -/
structure RTx (K : PySem.W.Frag) (mg : Str → Option Value) (Cs : List Addr) (CR : Addr) : Prop extends BI mg where
  fam : Fam K Cs
  inn : CR ∈ Cs
  cl : Cls K CR
  nT : NoAttr K CR "top"
  nB : NoAttr K CR "bottom"
  gR : mg "Ratio" = some (.ref CR)
  z_str : mg "str" = none
  z_tuple : mg "tuple" = none
theorem RTx.own {K : PySem.W.Frag} {mg : Str → Option Value} {Cs : List Addr} {CR : Addr} (T : RTx K mg Cs CR) : Own K CR := T.fam.own CR T.inn
/-- a number: a Ratio, or an int -/
def NumAt (C : Addr) (H : Hp) (v : V) (a b : Int) : Prop := (∃ p, v = .ref p ∧ RatAt C H p a b) ∨ (v = .int a ∧ b = 1)
theorem NumAt.same {C : Addr} {H H' : Hp} {v : V} {c d : Int} (h : NumAt C H v c d) (s : Same H H') : NumAt C H' v c d := by
  rcases h with ⟨p, e, l⟩ | h
  · exact .inl ⟨p, e, l.same s⟩
  · exact .inr h
def spCd : Sp := fun vs H Q _ => ∃ (a b : Int), vs = [.int a, .int b] ∧ Q (.int (Int.gcd a b : Int)) H
def spParts0 (C : Addr) : Sp := fun vs H Q _ => ∃ (v : V) (a b : Int), vs = [v] ∧ NumAt C H v a b ∧ ∀ t, H t = none → Q (.ref t) (upd H t (.tup [.int a, .int b]))
/-- Ratio.__init__ of ints -/
def spRinit (C : Addr) : Sp := fun vs H Q _ => ∃ (p dx : Addr) (t b : Int), vs = [.ref p, .int t, .int b] ∧ H p = some (.ins C dx []) ∧ b ≠ 0 ∧ b.natAbs.log2 < 9000 ∧
  ∀ H', H' p = some (.ins C dx (rfs (lowT t b) (lowB t b))) → (∀ c o, H c = some o → c ≠ p → H' c = some o) → Q .non H'
/-- Ratio.is_number(v) -/
def spIsnum (Cs : List Addr) (C : Addr) : Sp := fun vs H Q _ => ∃ (v : V), vs = [v] ∧ ((∃ p a b, v = .ref p ∧ RatAt C H p a b ∧ Q (.bl true) H) ∨ (AnyF Cs H v ∧ (∀ a dx fs, v = .ref a → H a ≠ some (.ins C dx fs)) ∧ Q (.bl (isI v)) H))
def spOf (C : Addr) : Sp := fun vs H Q _ => ∃ (v : V) (a b : Int), vs = [v] ∧ NumAt C H v a b ∧ b ≠ 0 ∧ b.natAbs.log2 < 9000 ∧ ∀ (q : Addr) (H' : Hp), RatAt C H' q (lowT a b) (lowB a b) → Same H H' → Q (.ref q) H'
theorem log_le {x y : Nat} (h : x ≤ y) (k : y.log2 < 9000) (hx : x ≠ 0) : x.log2 < 9000 := by
  have h1 : y < 2 ^ 9000 := (Nat.log2_lt (by omega)).mp k
  exact (Nat.log2_lt hx).mpr (Nat.lt_of_le_of_lt h h1)
theorem rinit_at {C : Addr} {H : Hp} {x dx : Addr} {a b : Int} {R : Hp → Prop} {E : XK} (hb : b ≠ 0) (lb : b.natAbs.log2 < 9000) (hx : H x = none) (hd : H dx = none) (ne : dx ≠ x) (k : ∀ H', RatAt C H' x (lowT a b) (lowB a b) → Same H H' → R H') :
    spRinit C (.ref x :: ([.int a, .int b] ++ [])) (upd (upd H dx (.own x)) x (.ins C dx [])) (fun v H2 => v = .non ∧ R H2) E := by
  refine ⟨x, dx, a, b, rfl, upd_same, hb, lb, fun H' h1 h2 => ⟨rfl, k H' ⟨dx, h1⟩ fun c o e => h2 c o ?_ (ne_of_none e hx)⟩⟩
  rw [upd_ne (ne_of_none e hx), upd_ne (ne_of_none e hd)]
  exact e
section
variable {P : Program} {w : World} {K : PySem.W.Frag} {mg : Str → Option Value} {base : Heap} {Cs : List Addr} {CR : Addr}
theorem ok_whole0 {f : Addr} {fd : FuncData} (F : Fun K "is_whole" "is_whole" s_whole0 f fd) (T : BI mg) (fam : Fam K Cs) : FnOk P w K mg base CX0 1 f fd ["value"] (spWh Cs) := by
  refine F.ok sc_whole0 (fun vs H Q E h => ?_) (fun cdv A outer s H vs Q E hr h => ?_)
  · obtain ⟨v, rfl, _⟩ := h
    rfl
  · obtain ⟨v, rfl, ty, q⟩ := h
    refine ⟨_, (pss_one (ps_ret (pe_and (pe_callB call_isi (by rfl) T.z_isinstance boot_isinstance (pa_cons (pv 0) (pa_cons (pe_bltn (v := .ty "int") (by rfl) T.z_int boot_int rfl) pa_nil))) (pe_one (pe_not (pe_callB call_isi (by rfl) T.z_isinstance boot_isinstance (pa_cons (pv 0) (pa_cons (pe_bltn (v := .ty "bool") (by rfl) T.z_bool boot_bool rfl) pa_nil)))))))), ?_⟩
    obtain ⟨t, b, tx, e1, e2, e3⟩ := fam.kint ty
    refine ⟨_, rfl, v, _, _, _, b, rfl, .ty _, tx, e1, _, rfl, ?_⟩
    cases b with
    | false =>
      refine iteF ?_
      rw [e3 rfl] at q
      exact q
    | true =>
      refine iteT ?_
      obtain ⟨c, e4, e5⟩ := e2 rfl
      refine ⟨_, rfl, v, _, _, _, c, rfl, .ty _, tx, e4, _, rfl, ?_⟩
      rw [e5] at q
      exact q
theorem ok_cd {f : Addr} {fd : FuncData} (F : Fun K "common_divisor" "common_divisor" s_cd f fd) (T : BI mg) : FnOk P w K mg base CX0 1 f fd ["one", "other"] spCd := by
  refine F.ok sc_cd (fun vs H Q E h => ?_) (fun cdv A outer s H vs Q E hr h => ?_)
  · obtain ⟨a, b, rfl, _⟩ := h
    rfl
  · obtain ⟨a, b, rfl, q⟩ := h
    refine ⟨_, (pss_cons (ps_par (i := 0) (j := 1) (by rfl) sc_cd.nd rfl rfl (by decide) rfl rfl (pa_cons (pe_callB call_abs (by rfl) T.z_abs boot_abs (pa_cons (pv 0) pa_nil)) (pa_cons (pe_callB call_abs (by rfl) T.z_abs boot_abs (pa_cons (pv 1) pa_nil)) pa_nil)) (by rfl))
      (pss_cons (ps_while PassesOwn.never (pt_cmpR op_ne (pv 1) pe_int (nomark _)) (pss_one (ps_par (i := 0) (j := 1) (by rfl) sc_cd.nd rfl rfl (by decide) rfl rfl (pa_cons (pv 1) (pa_cons (pe_op op_modN (pv 0) (pv 1)) pa_nil)) (by rfl))))
      (pss_one (ps_ret (pv 0))))), ?_⟩
    refine ⟨_, rfl, a, rfl, _, rfl, b, rfl, _, _, rfl, ?_⟩
    refine while_by (fun σ Hz => Hz = H ∧ ∃ x y : Int, σ = [some (.int x), some (.int y)] ∧ 0 ≤ x ∧ 0 ≤ y ∧ Int.gcd x y = Int.gcd a b) (fun σ _ => match σ with | [_, some (.int y)] => y.toNat | _ => 0) ?_ ?_ ?_
    · exact ⟨rfl, _, _, rfl, by split <;> omega, by split <;> omega, gcd_absI a b⟩
    · rintro σ Hz ⟨rfl, x, y, rfl, hx, hy, hg⟩
      refine ⟨_, rfl, rfl, _, rfl, ?_⟩
      refine ite2 (fun c => ?_) (fun c => ?_)
      · have y0 : y ≠ 0 := by
          rintro rfl
          simp at c
        obtain ⟨m1, m2⟩ := fmod_bd (a := x) (b := y) (by omega)
        refine ⟨_, rfl, _, rfl, _, rfl, _, _, rfl, rfl, y0, _, _, rfl, ⟨rfl, y, x.fmod y, rfl, hy, m1, ?_⟩, ?_⟩
        · rw [gcd_turn hx hy]
          exact hg
        · show (x.fmod y).toNat < y.toNat
          omega
      · have y0 : y = 0 := by
          by_cases z : y = 0
          · exact z
          · exfalso
            apply c
            simp [z]
        subst y0
        have e : x = (Int.gcd a b : Int) := by
          rw [← hg]
          show x = ((Nat.gcd x.natAbs 0 : Nat) : Int)
          rw [Nat.gcd_zero_right]
          omega
        rw [← e] at q
        exact ⟨_, rfl, q⟩
    · rintro σ Hz Q1 Q2 hm ⟨v, e, h1, h2⟩
      exact ⟨v, e, h1, by obtain ⟨b, e2, h3⟩ := h2; exact ⟨b, e2, hm _ _ h3⟩⟩
theorem ok_partsof {f : Addr} {fd : FuncData} (F : Fun K "parts_of" "parts_of" s_partsof f fd) (T : RTx K mg Cs CR) : FnOk P w K mg base CX0 1 f fd ["number"] (spParts0 CR) := by
  refine F.ok sc_partsof (fun vs H Q E h => ?_) (fun cdv A outer s H vs Q E hr h => ?_)
  · obtain ⟨v, a, b, rfl, _⟩ := h
    rfl
  · obtain ⟨v, a, b, rfl, hv, q⟩ := h
    refine ⟨_, (pss_one (ps_ret (pe_ifExp (pt_val (pe_callB call_isi (by rfl) T.z_isinstance boot_isinstance (pa_cons (pv 0) (pa_cons (pe_glob (v := .ref CR) (by rfl) T.gR rfl) pa_nil)))) (pe_tup (pa_cons (pe_fld (pv 0) rfl) (pa_cons (pe_fld (pv 0) rfl) pa_nil))) (pe_tup (pa_cons (pv 0) (pa_cons pe_int pa_nil)))))), ?_⟩
    rcases hv with ⟨p, rfl, hl⟩ | ⟨rfl, rfl⟩
    · obtain ⟨dx, e⟩ := id hl
      refine ⟨_, rfl, _, _, _, _, true, rfl, .own _, T.own.ty e, T.own.me, _, rfl, iteT ?_⟩
      exact ⟨_, rfl, p, CR, dx, _, _, rfl, e, T.cl, T.nT, rfs_top _ _, _, rfl, p, CR, dx, _, _, rfl, e, T.cl, T.nB, rfs_bot _ _, (by show 2 ≤ sizeLine; decide), fun t ht => q t ht⟩
    · refine ⟨_, rfl, _, _, _, _, false, rfl, .own _, (Ty0.int a).tyx, (T.own.kn _ (.head _)).1, _, rfl, iteF ?_⟩
      exact ⟨_, rfl, (by show 2 ≤ sizeLine; decide), fun t ht => q t ht⟩
theorem ok_rinit {f : Addr} {fd : FuncData} (F : FunD K "__init__" "Ratio.__init__" (defArgs s_rinit) (defBody s_rinit) (defScope s_rinit) [.int 1] [] f fd) (T : RTx K mg Cs CR)
    (D_whole0 : DefAt P w K mg base CX0 1 "is_whole" ["value"] (spWh Cs)) (D_cd : DefAt P w K mg base CX0 1 "common_divisor" ["one", "other"] spCd) : FnOk P w K mg base (L2.CX P w) 3 f fd ["self", "top", "bottom"] (spRinit CR) := by
  refine F.ok sc_rinit (fun vs H Q E h => ?_) (fun cdv A outer s H vs Q E hr h => ?_)
  · obtain ⟨p, dx, t, b, rfl, _⟩ := h
    rfl
  · obtain ⟨p, dx, t, b, rfl, hp, b0, lb, kQ⟩ := h
    refine ⟨_, (pss_cons (ps_if (pt_not (pt_val (My.pe_d D_whole0 (hr.mono (by decide)) (by rfl) pass0 (pa_cons (pv 1) pa_nil)))) (pss_one ps_never) pss_nil)
      (pss_cons (ps_if (pt_not (pt_val (My.pe_d D_whole0 (hr.mono (by decide)) (by rfl) pass0 (pa_cons (pv 2) pa_nil)))) (pss_one ps_never) pss_nil)
      (pss_cons (ps_if (pt_cmpR op_eq (pv 2) pe_int (nomark _)) (pss_one ps_never) pss_nil)
      (pss_cons (ps_set (i := 3) sc_rinit.nd rfl (Or.inl rfl) (My.pe_d D_cd (hr.mono (by decide)) (by rfl) pass0 (pa_cons (pv 1) (pa_cons (pv 2) pa_nil))))
      (C8.pss_cut (ps_if (pt_cmpR op_lt (pv 2) pe_int (nomark _)) (pss_one (ps_set (i := 3) sc_rinit.nd rfl (Or.inl rfl) (pe_un un_neg (pv 3)))) pss_nil)
      (pss_cons (ps_fld (pv 0) (pe_op My.op_fdivX (pv 1) (pv 3)) rfl)
      (pss_one (ps_fld (pv 0) (pe_op My.op_fdivX (pv 2) (pv 3)) rfl)))))))), ?_⟩
    refine ⟨_, rfl, .int t, rfl, AnyF.int Cs H t, _, rfl, iteF ?_⟩
    refine ⟨_, rfl, .int b, rfl, AnyF.int Cs H b, _, rfl, iteF ?_⟩
    refine ⟨_, rfl, rfl, _, rfl, ?_⟩
    refine ite2 (fun c => ?_) (fun c => ?_)
    · exact absurd (V.int.inj (of_decide_eq_true c)) b0
    refine ⟨_, rfl, _, rfl, t, b, rfl, ?_⟩
    refine ⟨fun σ Hz => Hz = H ∧ σ = [some (.ref p), some (.int t), some (.int b), some (.int (sgcd t b))], ?_, ?_⟩
    · refine ⟨_, rfl, _, _, rfl, rfl, _, rfl, ?_⟩
      refine ite2 (fun c => ?_) (fun c => ?_)
      · have c' : b < 0 := of_decide_eq_true c
        refine ⟨_, rfl, _, rfl, rfl, ?_⟩
        unfold sgcd
        rw [if_pos c']
        rfl
      · have c' : ¬ b < 0 := fun z => c (decide_eq_true z)
        refine ⟨rfl, ?_⟩
        unfold sgcd
        rw [if_neg c']
        rfl
    · rintro σ Hz ⟨rfl, rfl⟩
      have sn := sgcd_ne (t := t) b0
      have sl : (sgcd t b).natAbs.log2 < 9000 := log_le (sgcd_le b0) lb (Int.natAbs_ne_zero.mpr sn)
      refine ⟨_, rfl, _, rfl, _, _, rfl, rfl, ⟨sn, sl⟩, _, rfl, p, CR, dx, _, rfl, hp, T.cl, T.nT, (by show 0 < 1000; decide), ?_⟩
      refine ⟨_, rfl, _, rfl, _, _, rfl, rfl, ⟨sn, sl⟩, _, rfl, p, CR, dx, _, rfl, upd_same, T.cl, T.nB, (by show 1 < 1000; decide), ?_⟩
      refine kQ _ upd_same fun c o z nc => ?_
      rw [upd_ne nc, upd_ne nc]
      exact z
theorem ok_isnum {f : Addr} {fd : FuncData} (F : Fun K "is_number" "Ratio.is_number" s_isnum f fd) (T : RTx K mg Cs CR) (D_whole0 : DefAt P w K mg base CX0 1 "is_whole" ["value"] (spWh Cs)) : FnOk P w K mg base CX0 2 f fd ["thing"] (spIsnum Cs CR) := by
  refine F.ok sc_isnum (fun vs H Q E h => ?_) (fun cdv A outer s H vs Q E hr h => ?_)
  · obtain ⟨v, rfl, _⟩ := h
    rfl
  · obtain ⟨v, rfl, hv⟩ := h
    refine ⟨_, (pss_one (ps_ret (pe_or (pe_callB call_isi (by rfl) T.z_isinstance boot_isinstance (pa_cons (pv 0) (pa_cons (pe_glob (v := .ref CR) (by rfl) T.gR rfl) pa_nil))) (pe_one (My.pe_d D_whole0 (hr.mono (by decide)) (by rfl) pass0 (pa_cons (pv 0) pa_nil)))))), ?_⟩
    rcases hv with ⟨p, a, b, rfl, ⟨dx, e⟩, q⟩ | ⟨hv, no, q⟩
    · exact ⟨_, rfl, _, _, _, _, true, rfl, .own _, T.own.ty e, T.own.me, _, rfl, iteT q⟩
    · obtain ⟨t, tx, k1, _⟩ := T.fam.isi T.inn hv no
      exact ⟨_, rfl, _, _, _, _, false, rfl, .own _, tx, k1, _, rfl, iteF ⟨_, rfl, _, rfl, hv, q⟩⟩
theorem ok_of {f : Addr} {fd : FuncData} (F : Fun K "of" "Ratio.of" s_of f fd) (T : RTx K mg Cs CR) (S_is_number : StatAt P w K mg base CX0 2 CR "is_number" ["thing"] (spIsnum Cs CR)) (D_partsof : DefAt P w K mg base CX0 1 "parts_of" ["number"] (spParts0 CR))
    (M_Ratio : MakeAt P w K mg base (L2.CX P w) 3 "Ratio" CR ["self", "top", "bottom"] (spRinit CR) []) : FnOk P w K mg base CX0 5 f fd ["number"] (spOf CR) := by
  refine F.ok sc_of (fun vs H Q E h => ?_) (fun cdv A outer s H vs Q E hr h => ?_)
  · obtain ⟨v, a, b, rfl, _⟩ := h
    rfl
  · obtain ⟨v, a, b, rfl, hv, b0, lb, q⟩ := h
    refine ⟨_, (pss_cons (ps_if (pt_not (pt_val (My.pe_st S_is_number (hr.mono (by decide)) pass0 (pe_glob (v := .ref CR) (by rfl) T.gR rfl) (pa_cons (pv 0) pa_nil)))) (pss_one ps_never) pss_nil)
      (pss_cons (ps_asg (My.pe_d D_partsof (hr.mono (by decide)) (by rfl) pass0 (pa_cons (pv 0) pa_nil)) (pg_tup rfl (pgs_cons (pg_name (i := 1) sc_of.nd rfl (Or.inl rfl)) (pgs_cons (pg_name (i := 2) sc_of.nd rfl (Or.inl rfl)) pgs_nil))))
      (pss_one (ps_ret (My.pe_mk M_Ratio (hr.mono (by decide)) (by rfl) passL (pa_cons (pv 1) (pa_cons (pv 2) pa_nil))))))), ?_⟩
    rcases hv with ⟨p, rfl, hl⟩ | ⟨rfl, rfl⟩
    · refine ⟨rfl, _, rfl, .ref p, rfl, .inl ⟨p, a, b, rfl, hl, _, rfl, iteF ?_⟩⟩
      refine ⟨_, rfl, .ref p, a, b, rfl, .inl ⟨p, rfl, hl⟩, fun t ht => ?_⟩
      refine ⟨t, _, rfl, SqT.of upd_same, rfl, _, _, rfl, _, _, rfl, rfl, ?_⟩
      exact ⟨_, rfl, _, rfl, fun x dx hx hd ne => rinit_at b0 lb hx hd ne fun H' l s => q x H' l ((same_new ht).trans s)⟩
    · refine ⟨rfl, _, rfl, .int a, rfl, .inr ⟨AnyF.int Cs H a, (fun _ _ _ z => nomatch z), _, rfl, iteF ?_⟩⟩
      refine ⟨_, rfl, .int a, a, 1, rfl, .inr ⟨rfl, rfl⟩, fun t ht => ?_⟩
      refine ⟨t, _, rfl, SqT.of upd_same, rfl, _, _, rfl, _, _, rfl, rfl, ?_⟩
      exact ⟨_, rfl, _, rfl, fun x dx hx hd ne => rinit_at b0 lb hx hd ne fun H' l s => q x H' l ((same_new ht).trans s)⟩
end
end My
set_option pp.maxSteps 1500
set_option pp.deepTerms.threshold 8
/-! ### polynomials -/
namespace My
open PySem PySem.Spec PyProof.Rows L2
abbrev s_wend : Stmt := topS 35
theorem sc_wend : FnScope ["terms", "many"] ["terms"] (defScope s_wend) := ⟨rfl, rfl, rfl, by decide +kernel, rfl, by decide +kernel, by decide +kernel⟩
abbrev s_termof : Stmt := topS 37
theorem sc_termof : FnScope ["terms", "k"] ["terms", "k"] (defScope s_termof) := ⟨rfl, rfl, rfl, by decide +kernel, rfl, by decide +kernel, by decide +kernel⟩
abbrev s_pinit : Stmt := inClass (topS 46) 0
theorem sc_pinit : FnScope ["self", "terms", "at", "term"] ["self", "terms"] (defScope s_pinit) := ⟨rfl, rfl, rfl, by decide +kernel, rfl, by decide +kernel, by decide +kernel⟩
abbrev s_peq : Stmt := inClass (topS 46) 21
theorem sc_peq : FnScope ["self", "other"] ["self", "other"] (defScope s_peq) := ⟨rfl, rfl, rfl, by decide +kernel, rfl, by decide +kernel, by decide +kernel⟩
abbrev s_pbool : Stmt := inClass (topS 46) 22
theorem sc_pbool : FnScope ["self"] ["self"] (defScope s_pbool) := ⟨rfl, rfl, rfl, by decide +kernel, rfl, by decide +kernel, by decide +kernel⟩
/-- the length without the zeros at the end, of the first k -/
def tl (ts : List Int) : Nat → Nat
  | 0 => 0
  | k + 1 => if ts[k]? = some 0 then tl ts k else k + 1
def trim (ts : List Int) : List Int := ts.take (tl ts ts.length)
theorem tl_le (ts : List Int) : ∀ k, tl ts k ≤ k
  | 0 => Nat.le_refl _
  | k + 1 => by
    unfold tl
    split
    · exact Nat.le_succ_of_le (tl_le ts k)
    · exact Nat.le_refl _
theorem trim_len (ts : List Int) : (trim ts).length = tl ts ts.length := by
  unfold trim
  rw [List.length_take]
  exact Nat.min_eq_left (tl_le ts _)
theorem trim_le (ts : List Int) : (trim ts).length ≤ ts.length := by
  rw [trim_len]
  exact tl_le ts _
theorem trim_all {ts : List Int} {m : Nat} (h : HT.sIx (ts.map V.int).length (ts.map V.int).length (some (m : Int)) = (ts.map V.int).length) (e : tl ts m = tl ts ts.length) (em : tl ts m = m) : ts = trim ts := by
  rw [HT.sIx_nat, List.length_map] at h
  unfold trim
  rw [← e, em, List.take_of_length_le (by omega)]
/-- for at, x in enumerate(t) -/
theorem for_enumT {K : PySem.W.Frag} {a : Addr} {xs : List V} {g : TG} {tb : TS} {D : Ends} {σ : L2.St} {H : Hp} (Pv : Nat → L2.St → Hp → Prop) (h0 : Pv 0 σ H) (hl : ∀ i σ H, i ≤ xs.length → Pv i σ H → SqT K H a xs)
    (hs : ∀ i x σ H T, xs[i]? = some x → Pv i σ H → H T = none → g (.ref T) σ (upd H T (.tup [.int (i : Nat), x])) fun σ2 H2 => tb { D with nx := Pv (i + 1), ct := Pv (i + 1), bk := D.nx } σ2 H2) (hd : ∀ σ H, Pv xs.length σ H → D.nx σ H) :
    ∃ W : Nat → Nat → L2.St → Hp → Prop, (∃ m, W 0 m σ H) ∧ ∀ i m σ H, W i m σ H →
      ((IteT K a).stop i H ∧ D.nx σ H) ∨ ((IteT K a).go i H ∧ ∃ N : L2.St → Hp → Prop, (∀ σ' H', N σ' H' → ∃ m', m' < m ∧ W (i + 1) m' σ' H') ∧ ∀ x H', (IteT K a).yld i H x H' → g x σ H' fun σ2 H2 => tb { D with nx := N, ct := N, bk := D.nx } σ2 H2) := by
  refine ⟨fun i m σ H => m = xs.length - i ∧ i ≤ xs.length ∧ Pv i σ H, ⟨xs.length, by simp, Nat.zero_le _, h0⟩, ?_⟩
  rintro i m σ H ⟨rfl, hi, p⟩
  have q := hl i σ H hi p
  by_cases hlt : i < xs.length
  · refine .inr ⟨⟨xs, xs[i], q, by simp [hlt]⟩, Pv (i + 1), fun σ' H' p' => ⟨xs.length - (i + 1), by omega, rfl, hlt, p'⟩, fun x H' y => ?_⟩
    obtain ⟨T, x0, rfl, hT, rfl, y⟩ := y
    exact hs i x0 σ H T (y xs q) p hT
  · have e : i = xs.length := by omega
    subst e
    exact .inl ⟨⟨xs, q, rfl⟩, hd σ H p⟩
def pfs (t : Addr) (n : Int) : List (Str × V) := putF "degree" (.int n) (putF "terms" (.ref t) [])
theorem psm : ¬ (("terms" : Str) = "degree") := by decide +kernel
theorem pfs_terms (t : Addr) (n : Int) : (pfs t n).lookup ("terms" : Str) = some (.ref t) := by
  unfold pfs
  rw [lookup_putF, if_neg psm, lookup_putF, if_pos rfl]
theorem pfs_deg (t : Addr) (n : Int) : (pfs t n).lookup ("degree" : Str) = some (.int n) := by
  unfold pfs
  rw [lookup_putF, if_pos rfl]
/-- at p: a polynomial with these terms, none of 0 at the end -/
def PolyAt (C : Addr) (H : Hp) (p : Addr) (ts : List Int) : Prop := ∃ dx t, H p = some (.ins C dx (pfs t ((ts.length : Int) - 1))) ∧ H t = some (.tup (ts.map V.int))
theorem PolyAt.same {C : Addr} {H H' : Hp} {p : Addr} {ts : List Int} (h : PolyAt C H p ts) (k : Same H H') : PolyAt C H' p ts := by
  obtain ⟨dx, t, e, e2⟩ := h
  exact ⟨dx, t, k _ _ e, k _ _ e2⟩
theorem PolyAt.ext {C : Addr} {H H' : Hp} {p : Addr} {ts : List Int} (h : PolyAt C H p ts) (k : LamX.ExtN H H') : PolyAt C H' p ts := by
  obtain ⟨dx, t, e, e2⟩ := h
  exact ⟨dx, t, k _ _ e (by intro ps z; cases z), k _ _ e2 (by intro ps z; cases z)⟩
theorem PolyAt.but {C : Addr} {H H' : Hp} {p pn : Addr} {n : Nat} {ts : List Int} (h : PolyAt C H p ts) (hp : PenAt H pn n) (k : But pn H H') : PolyAt C H' p ts := by
  obtain ⟨dx, t, e, e2⟩ := h
  obtain ⟨cl, ns, a', r, g1, _⟩ := hp
  exact ⟨dx, t, k _ _ e (ne_of e g1 (by intro z; cases z)), k _ _ e2 (ne_of e2 g1 (by intro z; cases z))⟩
/-- what the top has written of Poly -/
structure PTx (K : PySem.W.Frag) (mg : Str → Option Value) (Cs : List Addr) (CP : Addr) : Prop extends BI mg where
  fam : Fam K Cs
  inn : CP ∈ Cs
  cl : Cls K CP
  nT : NoAttr K CP "terms"
  nD : NoAttr K CP "degree"
  gP : mg "Poly" = some (.ref CP)
  z_str : mg "str" = none
  z_tuple : mg "tuple" = none
  z_enumerate : mg "enumerate" = none
  z_sum : mg "sum" = none
  z_max : mg "max" = none
  z_min : mg "min" = none
theorem PTx.own {K : PySem.W.Frag} {mg : Str → Option Value} {Cs : List Addr} {CP : Addr} (T : PTx K mg Cs CP) : Own K CP := T.fam.own CP T.inn
def spWend : Sp := fun vs H Q _ => ∃ (t : Addr) (ts : List Int), vs = [.ref t] ∧ H t = some (.tup (ts.map V.int)) ∧ ts.length ≤ 1000 ∧ ∀ r H', H' r = some (.tup ((trim ts).map V.int)) → Same H H' → Q (.ref r) H'
def spTermof (K : PySem.W.Frag) : Sp := fun vs H Q _ => ∃ (t : Addr) (ts : List Int) (k : Int), vs = [.ref t, .int k] ∧ H t = some (.tup (ts.map V.int)) ∧ 0 ≤ k ∧ Q (.int ((ts[k.toNat]?).getD 0)) H
/-- Poly.__init__ of ints -/
def spPinit (C : Addr) : Sp := fun vs H Q _ => ∃ (p dx tt : Addr) (ts : List Int), vs = [.ref p, .ref tt] ∧ H p = some (.ins C dx []) ∧ H tt = some (.tup (ts.map V.int)) ∧ ts.length ≤ 1000 ∧ ∀ H', PolyAt C H' p (trim ts) → (∀ c o, H c = some o → c ≠ p → H' c = some o) → Q .non H'
/-- Poly(..) of ints one by one -/
def spPoly (C : Addr) : Sp := fun vs H Q _ => ∃ (p dx : Addr) (ts : List Int), vs = .ref p :: ts.map V.int ∧ H p = some (.ins C dx []) ∧ ts.length ≤ 1000 ∧ ∀ H', PolyAt C H' p (trim ts) → (∀ c o, H c = some o → c ≠ p → H' c = some o) → Q .non H'
theorem poly_ints {C : Addr} {H : Hp} (zs : List Int) {R : Addr → Hp → Prop} {E : XK} (hl : zs.length ≤ 1000) (k : ∀ q H', PolyAt C H' q (trim zs) → Same H H' → R q H') (x dx : Addr) (hx : H x = none) (hd : H dx = none) (ne : dx ≠ x) :
    spPoly C (.ref x :: zs.map V.int) (upd (upd H dx (.own x)) x (.ins C dx [])) (fun v H2 => v = .non ∧ R x H2) E := by
  refine ⟨x, dx, zs, rfl, upd_same, hl, fun H' po kp => ⟨rfl, k x H' po fun c o e => kp c o ?_ (ne_of_none e hx)⟩⟩
  rw [upd_ne (ne_of_none e hx), upd_ne (ne_of_none e hd)]
  exact e
def evl (ts : List Int) (m : Int) : Int := ts.reverse.foldl (fun f t => f * m + t) 0
def spPeq (C : Addr) : Sp := fun vs H Q _ => ∃ (p q : Addr) (ts us : List Int), vs = [.ref p, .ref q] ∧ PolyAt C H p ts ∧ ts.length ≤ 1000 ∧ PolyAt C H q us ∧ us.length ≤ 1000 ∧ Q (.bl (decide (ts = us))) H
def spPbool (C : Addr) : Sp := fun vs H Q _ => ∃ (p : Addr) (ts : List Int), vs = [.ref p] ∧ PolyAt C H p ts ∧ Q (.bl (!ts.isEmpty)) H
/-- a test of an instance with its own __bool__ -/
def tOwnB (C : Addr) (sp : Sp) (E : XK) (te : TE) : TT := fun σ H Q => te σ H fun x H1 => ∃ a dx fs, x = .ref a ∧ H1 a = some (.ins C dx fs) ∧ sp [.ref a] H1 (fun v H' => ∃ b, v = .bl b ∧ Q b H') E
theorem pt_own {X : Cx} {CX : CXT} {k : Nat} {C : Addr} {ps : List Str} {sp : Sp} {E : XK} {e : Expr} {t : TE} (M : CmpAt X.prog X.w X.K X.mg X.base CX k C "__bool__" ps sp) (hr : Room k X.A) (hx : Passes CX X E) (h : PE X e t)
    (he : ∀ whole, isTrue e X.env whole = (do let v ← whole; standAt e.pos; holding [v] (truthy v)) := by intro _; rfl) : PT X e (tOwnB C sp E t) := by
  obtain ⟨f, fd, hs, hf, F, hb⟩ := M.ex
  refine ⟨fun pins s σ H Q I hw => ?_⟩
  refine isTrue_plain (thn (h.run pins s σ H _ I hw) fun v s1 ⟨x, H1, I1, r1, a, dx, fs, ex, ha, hsp⟩ => ?_) (he _)
  subst ex
  obtain rfl : v = Value.ref a := r1
  obtain ⟨ox, od, J, _⟩ := ins_plain I1 ha
  obtain ⟨m', hF⟩ := I1.fr
  refine PySem.W.truthy_K hF I1.ok.mod.kin J hs hf (wpAny_mono (run_at (vs := [.ref a]) F hb hx (Und.here hr) I1 (.cons rfl .nil) hsp) (fun v s' z => ?_) fun _ _ z => z)
  obtain ⟨z, H', I', rz, b, rfl, q⟩ := z
  cases (show v = Value.bool b from rz)
  exact ⟨H', I', q⟩
section
variable {P : Program} {w : World} {K : PySem.W.Frag} {mg : Str → Option Value} {base : Heap} {Cs : List Addr} {CP : Addr}
theorem ok_wend {f : Addr} {fd : FuncData} (F : Fun K "without_end" "without_end" s_wend f fd) (T : PTx K mg Cs CP) : FnOk P w K mg base CX0 1 f fd ["terms"] spWend := by
  refine F.ok sc_wend (fun vs H Q E h => ?_) (fun cdv A outer s H vs Q E hr h => ?_)
  · obtain ⟨t, ts, rfl, _⟩ := h
    rfl
  · obtain ⟨t, ts, rfl, ht, hl, k⟩ := h
    refine ⟨_, (pss_cons (ps_set (i := 1) sc_wend.nd rfl (Or.inl rfl) (pe_callB call_len (by rfl) T.z_len PySem.boot_len (pa_cons (pv 0) pa_nil)))
      (pss_cons (ps_while PassesOwn.never (PW.pt (pw_and (pt_cmpR op_gt (pv 1) pe_int (nomark _)) (pw_and1 (pt_cmpR op_eq (pe_ix ix_tup (pv 0) (pe_op op_sub (pv 1) pe_int) (fun _ _ => rfl)) pe_int (nomark _))))) (pss_one (ps_aug (i := 1) sc_wend.nd rfl (Or.inl rfl) pe_int ip_sub (Or.inr rfl))))
      (pss_one (ps_ret (pe_callTy call_tupleT (by rfl) T.z_tuple boot_tuple (pa_cons (pe_slice sl_tupA (pv 0) po_none (po_some (pv 1))) pa_nil)))))), ?_⟩
    refine ⟨_, rfl, _, _, rfl, .inr ⟨_, SqT.of ht, rfl⟩, ?_⟩
    have el : (ts.map V.int).length = ts.length := List.length_map ..
    refine while_by (fun σ Hz => Hz = H ∧ ∃ m : Nat, σ = [some (.ref t), some (.int (m : Nat))] ∧ m ≤ ts.length ∧ tl ts m = tl ts ts.length) (fun σ _ => match σ with | [_, some (.int y)] => y.toNat | _ => 0) ?_ ?_ ?_
    · exact ⟨rfl, (ts.map V.int).length, rfl, by omega, by rw [el]⟩
    · rintro σ Hz ⟨rfl, m, rfl, hm, e⟩
      refine ⟨_, rfl, _, _, rfl, rfl, _, rfl, ?_⟩
      refine ite2 (fun c => ?_) (fun c => iteF ?_)
      · have m0 : 0 < m := by
          have := of_decide_eq_true c
          omega
        obtain ⟨x, hx⟩ : ∃ x, ts[m - 1]? = some x := ⟨_, List.getElem?_eq_getElem (by omega)⟩
        have ea : atI (ts.map V.int) ((m : Int) - 1) = some (.int x) := at_of (j := m - 1) (by omega) (by rw [List.getElem?_map, hx]; rfl)
        refine ⟨_, rfl, _, rfl, _, _, rfl, rfl, t, _, _, .int x, rfl, rfl, SqT.of ht, ea, rfl, _, rfl, ?_⟩
        obtain ⟨k', rfl⟩ : ∃ k', m = k' + 1 := ⟨m - 1, by omega⟩
        have hx' : ts[k']? = some x := hx
        refine ite2 (fun c2 => ?_) (fun c2 => ?_)
        · have x0 : x = 0 := V.int.inj (of_decide_eq_true c2)
          refine ⟨_, rfl, _, _, rfl, rfl, ⟨rfl, k', ?_, by omega, ?_⟩, ?_⟩
          · show [_, some (V.int (((k' + 1 : Nat) : Int) - 1))] = _
            have e1 : (((k' + 1 : Nat) : Int) - 1) = (k' : Int) := by omega
            rw [e1]
          · rw [← e]
            show _ = (if ts[k']? = some 0 then tl ts k' else k' + 1)
            rw [hx', x0, if_pos rfl]
          · show ((((k' + 1 : Nat) : Int) - 1)).toNat < (((k' + 1 : Nat) : Int)).toNat
            omega
        · have x0 : ¬ x = 0 := fun z => c2 (decide_eq_true (by rw [z]))
          have em : tl ts (k' + 1) = k' + 1 := by
            show (if ts[k']? = some 0 then tl ts k' else k' + 1) = k' + 1
            rw [hx', if_neg (fun z => x0 (Option.some.inj z))]
          refine ⟨_, rfl, _, rfl, ((k' + 1 : Nat) : Int), rfl, t, _, rfl, SqT.of ht, fun w => ⟨t, _, rfl, SqT.of ht, k t Hz (trim_all w.2 e em ▸ ht) (fun _ _ e => e)⟩, fun w p hp => ⟨p, _, rfl, SqT.of upd_same, k p _ ?_ (same_new hp)⟩⟩
          rw [upd_same, cut_ints]
          unfold trim
          rw [← e, em]
      · have m0 : m = 0 := by
          by_cases z : m = 0
          · exact z
          · exact absurd (decide_eq_true (show (0 : Int) < (m : Int) by omega)) c
        have em : tl ts m = m := by
          rw [m0]
          rfl
        refine ⟨_, rfl, _, rfl, (m : Int), rfl, t, _, rfl, SqT.of ht, fun w => ⟨t, _, rfl, SqT.of ht, k t Hz (trim_all w.2 e em ▸ ht) (fun _ _ e => e)⟩, fun w p hp => ⟨p, _, rfl, SqT.of upd_same, k p _ ?_ (same_new hp)⟩⟩
        rw [upd_same, cut_ints]
        unfold trim
        rw [← e, em]
    · intro σ Hz Q1 Q2 hm h
      obtain ⟨v, e, i, j, e1, e2, b, e3, h⟩ := h
      refine ⟨v, e, i, j, e1, e2, b, e3, ?_⟩
      cases b with
      | false =>
        rw [if_neg Bool.false_ne_true] at h ⊢
        exact hm _ _ h
      | true =>
        rw [if_pos rfl] at h ⊢
        obtain ⟨v1, g1, v2, g2, i1, j1, g3, g4, p1, xs1, k1, v3, g5, g6, g7, g8, g9, b1, g10, h⟩ := h
        exact ⟨v1, g1, v2, g2, i1, j1, g3, g4, p1, xs1, k1, v3, g5, g6, g7, g8, g9, b1, g10, hm _ _ h⟩
theorem ok_termof {f : Addr} {fd : FuncData} (F : Fun K "term_of" "term_of" s_termof f fd) (T : PTx K mg Cs CP) : FnOk P w K mg base CX0 1 f fd ["terms", "k"] (spTermof K) := by
  refine F.ok sc_termof (fun vs H Q E h => ?_) (fun cdv A outer s H vs Q E hr h => ?_)
  · obtain ⟨t, ts, k, rfl, _⟩ := h
    rfl
  · obtain ⟨t, ts, k, rfl, ht, k0, q⟩ := h
    refine ⟨_, (pss_one (ps_ret (pe_ifExp (pt_cmpR op_lt (pv 1) (pe_callB call_len (by rfl) T.z_len PySem.boot_len (pa_cons (pv 0) pa_nil)) (nomark _)) (pe_ix ix_tup (pv 0) (pv 1) (fun _ _ => rfl)) pe_int))), ?_⟩
    refine ⟨_, rfl, _, rfl, _, _, rfl, .inr ⟨_, SqT.of ht, rfl⟩, _, _, rfl, rfl, _, rfl, ?_⟩
    refine ite2 (fun c => ?_) (fun c => ?_)
    · have lt : k < ((ts.map V.int).length : Int) := of_decide_eq_true c
      rw [List.length_map] at lt
      obtain ⟨x, hx⟩ : ∃ x, ts[k.toNat]? = some x := ⟨_, List.getElem?_eq_getElem (by omega)⟩
      have ea : atI (ts.map V.int) k = some (.int x) := at_of (j := k.toNat) (by omega) (by rw [List.getElem?_map, hx]; rfl)
      rw [hx] at q
      exact ⟨_, rfl, _, rfl, t, _, _, .int x, rfl, rfl, SqT.of ht, ea, q⟩
    · have ge : ¬ k < ((ts.map V.int).length : Int) := fun z => c (decide_eq_true z)
      rw [List.length_map] at ge
      rw [List.getElem?_eq_none (by omega)] at q
      exact q
theorem ok_pinit {f : Addr} {fd : FuncData} {oc : Value} {od : Option Addr} {kV doc pm : Value} {an : Option Addr} {cdv ct : Value} {osl : Array (Option Value)} (lk : K.lookup f = some ⟨oc, od, .func (PySem.W.fnOf "__init__" "Poly.__init__" (defArgs s_pinit) (defBody s_pinit) (defScope s_pinit) .none kV doc pm an cdv ct), osl⟩) (hcd : PySem.W.codeIn K cdv "Poly.__init__" = true)
    (T : PTx K mg Cs CP) (D_whole0 : DefAt P w K mg base CX0 1 "is_whole" ["value"] (spWh Cs)) (D_wend : DefAt P w K mg base CX0 1 "without_end" ["terms"] spWend) : FnR P w K mg base (L2.CX P w) 3 f (spPoly CP) := by
  have R := StX.fn_star (CX := L2.CX P w) (P := P) (w := w) (mg := mg) (base := base) (k := 2) (ps := ["self"]) (sp := spPinit CP) lk hcd sc_pinit StX.cxUp (StX.bind_star1 (B := fun us => bindArgs (PySem.W.fnOf "__init__" "Poly.__init__" (defArgs s_pinit) (defBody s_pinit) (defScope s_pinit) .none kV doc pm an cdv ct) ⟨us, []⟩) (p1 := "self") (pv := "terms") (fun _ => rfl) (fun _ _ _ => rfl)) (fun A outer s H vs Q E hr h => ?_)
  · refine R.imp fun vs H Q E h => ?_
    obtain ⟨p, dx, ts, rfl, hp, hl, k1⟩ := h
    refine ⟨[.ref p], ts.map V.int, rfl, rfl, by rw [List.length_map, sizeLine_eq]; omega, fun tt htt => ?_⟩
    have st := same_new (o := .tup (ts.map V.int)) htt
    exact ⟨p, dx, tt, ts, rfl, st _ _ hp, upd_same, hl, fun H' po kp => k1 H' po fun c o e' n => kp c o (st _ _ e') n⟩
  · obtain ⟨p, dx, tt, ts, rfl, hp, htt, hl, k1⟩ := h
    refine ⟨_, (pss_cons (ps_for (passes_of rfl) rfl (My.pi_enumT (by rfl) T.z_enumerate (pa_cons (pv 1) pa_nil)) (pg_tup rfl (pgs_cons (pg_name (i := 2) sc_pinit.nd rfl (Or.inl rfl)) (pgs_cons (pg_name (i := 3) sc_pinit.nd rfl (Or.inl rfl)) pgs_nil))) (pss_one (ps_if (pt_not (pt_val (My.pe_d D_whole0 (hr.mono (by decide)) (by rfl) pass0 (pa_cons (pv 3) pa_nil)))) (pss_one ps_never) pss_nil)))
      (pss_cons (ps_fld (pv 0) (My.pe_d D_wend (hr.mono (by decide)) (by rfl) pass0 (pa_cons (pv 1) pa_nil)) rfl)
      (pss_one (ps_fld (pv 0) (pe_op op_sub (pe_callB call_len (by rfl) T.z_len PySem.boot_len (pa_cons (pe_fld (pv 0) rfl) pa_nil)) pe_int) rfl)))), ?_⟩
    refine ⟨_, rfl, tt, _, rfl, SqT.of htt, for_enumT (K := K) (a := tt) (xs := ts.map V.int) (fun i σ H' => ∃ v2 v3, σ = [some (.ref p), some (.ref tt), v2, v3] ∧ Same H H') ⟨none, none, rfl, fun _ _ e => e⟩ (fun i σ H' _ hh => by obtain ⟨_, _, _, s⟩ := hh; exact SqT.of (s _ _ htt)) ?_ ?_⟩
    · rintro i x σ H' T' hx ⟨v2, v3, rfl, sh⟩ hT
      have s2 := sh.trans (same_new (o := .tup [.int (i : Nat), x]) hT)
      obtain ⟨z, rfl, _⟩ := mem_ints (List.mem_of_getElem? hx)
      refine ⟨T', _, rfl, SqT.of upd_same, rfl, _, _, rfl, _, _, rfl, rfl, ?_⟩
      exact ⟨_, rfl, .int z, rfl, AnyF.int Cs _ z, _, rfl, iteF ⟨_, _, rfl, s2⟩⟩
    · rintro σ H' ⟨v2, v3, rfl, sh⟩
      refine ⟨_, rfl, tt, ts, rfl, sh _ _ htt, hl, fun r H2 hr2 s2 => ?_⟩
      have hp2 := s2 _ _ (sh _ _ hp)
      refine ⟨_, rfl, p, CP, dx, _, rfl, hp2, T.cl, T.nT, (by show 0 < 1000; decide), ?_⟩
      have rp : r ≠ p := ne_of hr2 hp2 (by intro z; cases z)
      have hr3 : (upd H2 p (.ins CP dx (putF "terms" (.ref r) []))) r = some (.tup ((trim ts).map V.int)) := by
        rw [upd_ne rp]
        exact hr2
      refine ⟨_, rfl, p, CP, dx, _, .ref r, rfl, upd_same, T.cl, T.nT, (by rw [lookup_putF, if_pos rfl]), .ref r, (trim ts).length, rfl, .inr ⟨_, SqT.of hr3, (List.length_map ..).symm⟩, _, _, rfl, rfl, _, rfl, p, CP, dx, _, rfl, upd_same, T.cl, T.nD, (by show 1 < 1000; decide), ?_⟩
      refine k1 _ ⟨dx, r, upd_same, ?_⟩ fun c o e n => ?_
      · rw [upd_ne rp]
        exact hr3
      · rw [upd_ne n, upd_ne n]
        exact s2 _ _ (sh _ _ e)
theorem eqv_ints : ∀ ts us : List Int, PyData.eqvAll (ts.map PyData.int) (us.map PyData.int) = decide (ts = us)
  | [], [] => rfl
  | [], u :: us => rfl
  | t :: ts, [] => rfl
  | t :: ts, u :: us => by
    show (t == u && PyData.eqvAll (ts.map PyData.int) (us.map PyData.int)) = _
    rw [eqv_ints ts us]
    by_cases h1 : t = u
    · by_cases h2 : ts = us
      · subst h1
        subst h2
        simp
      · simp [h1, h2]
    · simp [h1]
theorem shaped_tup (ns : List Int) : SeqAt.shaped (.tuple (ns.map PyData.int)) = true := by
  show (PyData.canLayAll0 (ns.map PyData.int) && decide (PyData.depthAll (ns.map PyData.int) + 1 ≤ 64)) = true
  rw [lay_ints, dep_ints]
  rfl
theorem ok_peq {f : Addr} {fd : FuncData} (F : Fun K "__eq__" "Poly.__eq__" s_peq f fd) (T : PTx K mg Cs CP) : FnOk P w K mg base CX0 1 f fd ["self", "other"] (spPeq CP) := by
  refine F.ok sc_peq (fun vs H Q E h => ?_) (fun cdv A outer s H vs Q E hr h => ?_)
  · obtain ⟨p, q, ts, us, rfl, _⟩ := h
    rfl
  · obtain ⟨p, q, ts, us, rfl, ⟨dx, t, hp, ht⟩, hl, ⟨dq, tq, eq, etq⟩, ul, k⟩ := h
    refine ⟨_, (pss_one (ps_ret (pe_and (pe_callB call_isi (by rfl) T.z_isinstance boot_isinstance (pa_cons (pv 1) (pa_cons (pe_glob (v := .ref CP) (by rfl) T.gP rfl) pa_nil))) (pe_one (pe_cmpR (op_eqD hr.units) (pe_fld (pv 0) rfl) (pe_fld (pv 1) rfl) (nomark _)))))), ?_⟩
    refine ⟨_, rfl, _, _, _, _, true, rfl, .own _, T.own.ty eq, T.own.me, _, rfl, iteT ?_⟩
    refine ⟨_, rfl, p, CP, dx, _, .ref t, rfl, hp, T.cl, T.nT, pfs_terms _ _, _, rfl, q, CP, dq, _, .ref tq, rfl, eq, T.cl, T.nT, pfs_terms _ _, ?_⟩
    refine ⟨.tuple (ts.map PyData.int), .tuple (us.map PyData.int), .tup (SqT.of ht) (dp_ints ts), .tup (SqT.of etq) (dp_ints us), shaped_tup ts, shaped_tup us, ?_⟩
    have e : PyData.eqv (.tuple (ts.map PyData.int)) (.tuple (us.map PyData.int)) = decide (ts = us) := eqv_ints ts us
    rw [e]
    exact k
theorem ok_pbool {f : Addr} {fd : FuncData} (F : Fun K "__bool__" "Poly.__bool__" s_pbool f fd) (T : PTx K mg Cs CP) : FnOk P w K mg base CX0 1 f fd ["self"] (spPbool CP) := by
  refine F.ok sc_pbool (fun vs H Q E h => ?_) (fun cdv A outer s H vs Q E hr h => ?_)
  · obtain ⟨p, ts, rfl, _⟩ := h
    rfl
  · obtain ⟨p, ts, rfl, ⟨dx, t, hp, ht⟩, k⟩ := h
    refine ⟨_, (pss_one (ps_ret (pe_callTy My.call_boolT (by rfl) T.z_bool boot_bool (pa_cons (pe_fld (pv 0) rfl) pa_nil)))), ?_⟩
    refine ⟨_, rfl, p, CP, dx, _, .ref t, rfl, hp, T.cl, T.nT, pfs_terms _ _, t, _, rfl, SqT.of ht, ?_⟩
    rw [List.isEmpty_map]
    exact k
end
end My
set_option exponentiation.threshold 5000
/-! Terms without zeros at the end; values by Horner's way. -/
namespace My
theorem tl_app (ts us : List Int) : ∀ k, k ≤ ts.length → tl (ts ++ us) k = tl ts k
  | 0, _ => rfl
  | k + 1, h => by
    unfold tl
    rw [List.getElem?_append_left (by omega), tl_app ts us k (by omega)]
theorem trim_zeros (ts : List Int) : trim (ts ++ [0, 0]) = trim ts := by
  unfold trim
  have e : tl (ts ++ [0, 0]) (ts ++ [0, 0]).length = tl ts ts.length := by
    rw [List.length_append]
    show tl (ts ++ [0, 0]) (ts.length + 1 + 1) = _
    have h1 : (ts ++ [0, 0])[ts.length + 1]? = some 0 := by
      rw [List.getElem?_append_right (by omega)]
      simp
    have h2 : (ts ++ [0, 0])[ts.length]? = some 0 := by
      rw [List.getElem?_append_right (by omega)]
      simp
    rw [tl, if_pos h1, tl, if_pos h2, tl_app ts _ _ (Nat.le_refl _)]
  rw [e, List.take_append_of_le_length (tl_le ts _)]
theorem trim_one (ts : List Int) : trim (ts ++ [1]) = ts ++ [1] := by
  unfold trim
  have e : tl (ts ++ [1]) (ts ++ [1]).length = (ts ++ [1]).length := by
    rw [List.length_append]
    show tl (ts ++ [1]) (ts.length + 1) = ts.length + 1
    have h1 : (ts ++ [1])[ts.length]? = some 1 := by
      rw [List.getElem?_append_right (by omega)]
      simp
    rw [tl, if_neg (by rw [h1]; intro z; cases z)]
  rw [e, List.take_length]
theorem tl_last (ts : List Int) : ∀ k j, tl ts k = j + 1 → ts[j]? ≠ some 0
  | 0, j, h => by cases h
  | k + 1, j, h => by
    unfold tl at h
    split at h
    · exact tl_last ts k j h
    · rename_i c
      have e : k = j := by omega
      rw [← e]
      exact c
theorem trim_trim (ts : List Int) : trim (trim ts) = trim ts := by
  have hl := trim_len ts
  have key : tl (trim ts) (trim ts).length = (trim ts).length := by
    cases n : (trim ts).length with
    | zero => rfl
    | succ j =>
      have h1 : tl ts ts.length = j + 1 := by rw [← hl, n]
      have h2 := tl_last ts _ j h1
      have h3 : (trim ts)[j]? = ts[j]? := by
        unfold trim
        rw [List.getElem?_take, if_pos (by omega)]
      rw [tl, if_neg (by rw [h3]; exact h2)]
  show (trim ts).take (tl (trim ts) (trim ts).length) = trim ts
  rw [key, List.take_length]
theorem trim_ne_one (ts : List Int) : trim ts ≠ ts ++ [1] := fun z => by
  have h := trim_le ts
  rw [z, List.length_append] at h
  have e : ([1] : List Int).length = 1 := rfl
  omega
theorem evl_snoc (l : List Int) (m : Int) : evl (l ++ [0]) m = evl l m := by
  unfold evl
  rw [List.reverse_append]
  show List.foldl _ (0 * m + 0) l.reverse = _
  rw [Int.zero_mul, Int.add_zero]
theorem evl_tl (ts : List Int) (m : Int) : ∀ k, k ≤ ts.length → evl (ts.take (tl ts k)) m = evl (ts.take k) m
  | 0, _ => rfl
  | k + 1, h => by
    unfold tl
    split
    · rename_i c
      rw [evl_tl ts m k (by omega), List.take_add_one, c]
      exact (evl_snoc _ _).symm
    · rfl
theorem evl_trim (ts : List Int) (m : Int) : evl (trim ts) m = evl ts m := by
  unfold trim
  rw [evl_tl ts m _ (Nat.le_refl _), List.take_length]
theorem trim_mem {ts : List Int} {z : Int} (h : z ∈ trim ts) : z ∈ ts := List.mem_of_mem_take h
theorem horner_bd {m : Int} (hm : m.natAbs < 2 ^ 41) : ∀ (l : List Int) (a : Int) (B : Nat), 140 ≤ B → a.natAbs < 2 ^ B → (∀ z ∈ l, z.natAbs < 2 ^ 140) → (l.foldl (fun f t => f * m + t) a).natAbs < 2 ^ (B + 42 * l.length)
  | [], a, B, _, ha, _ => ha
  | z :: l, a, B, hB, ha, hl => by
    have h1 : (a * m).natAbs < 2 ^ (B + 41) := by
      rw [Int.natAbs_mul, Nat.pow_add]
      exact Nat.mul_lt_mul_of_lt_of_lt ha hm
    have h2 : z.natAbs < 2 ^ (B + 41) := Nat.lt_of_lt_of_le (hl z List.mem_cons_self) (Nat.pow_le_pow_right (by decide) (by omega))
    have h3 : (a * m + z).natAbs < 2 ^ (B + 42) := by
      have := Int.natAbs_add_le (a * m) z
      have e : (2 : Nat) ^ (B + 42) = 2 ^ (B + 41) * 2 := Nat.pow_succ ..
      omega
    have h4 := horner_bd hm l (a * m + z) (B + 42) (by omega) h3 fun x hx => hl x (List.mem_cons_of_mem _ hx)
    have e : B + 42 * (z :: l).length = B + 42 + 42 * l.length := by
      rw [List.length_cons]
      omega
    rw [e]
    exact h4
theorem take_bd {m : Int} {ts : List Int} (hm : m.natAbs < 2 ^ 41) (hl : ts.length ≤ 12) (ht : ∀ z ∈ ts, z.natAbs < 2 ^ 140) (k : Nat) : ((ts.reverse.take k).foldl (fun f t => f * m + t) 0).natAbs < 2 ^ 700 := by
  refine Nat.lt_of_lt_of_le (horner_bd hm (ts.reverse.take k) 0 140 (by decide) (by decide) fun z hz => ht z (List.mem_reverse.mp (List.mem_of_mem_take hz))) (Nat.pow_le_pow_right (by decide) ?_)
  have : (ts.reverse.take k).length ≤ ts.length := by
    rw [List.length_take, List.length_reverse]
    omega
  omega
theorem evl_bd {m : Int} {ts : List Int} (hm : m.natAbs < 2 ^ 41) (hl : ts.length ≤ 12) (ht : ∀ z ∈ ts, z.natAbs < 2 ^ 140) : (evl ts m).natAbs < 2 ^ 700 := by
  have h := take_bd hm hl ht ts.length
  rw [List.take_of_length_le (by rw [List.length_reverse]; exact Nat.le_refl _)] at h
  exact h
end My
/-! Coefficients: terms as a function, sums, products, values. -/
namespace My
def cf (ts : List Int) (k : Nat) : Int := (ts[k]?).getD 0
theorem cf_out {ts : List Int} {k : Nat} (h : ts.length ≤ k) : cf ts k = 0 := by
  unfold cf
  rw [List.getElem?_eq_none h]
  rfl
theorem tl_zero (ts : List Int) : ∀ n k, tl ts n ≤ k → k < n → n ≤ ts.length → ts[k]? = some 0
  | 0, k, _, h, _ => absurd h (Nat.not_lt_zero _)
  | n + 1, k, h1, h2, h3 => by
    unfold tl at h1
    split at h1
    · rename_i c
      by_cases e : k = n
      · rw [e]
        exact c
      · exact tl_zero ts n k h1 (by omega) (by omega)
    · omega
theorem cf_trim (ts : List Int) (k : Nat) : cf (trim ts) k = cf ts k := by
  unfold cf trim
  rw [List.getElem?_take]
  split
  · rfl
  · rename_i c
    by_cases h : k < ts.length
    · rw [tl_zero ts ts.length k (by omega) h (Nat.le_refl _)]
      rfl
    · rw [List.getElem?_eq_none (by omega)]
/-- no 0 at the end -/
def Tight (u : List Int) : Prop := ∀ j, u.length = j + 1 → cf u j ≠ 0
theorem trim_tight (ts : List Int) : Tight (trim ts) := fun j h => by
  rw [cf_trim]
  rw [trim_len] at h
  have h2 := tl_last ts _ j h
  have h3 : j < ts.length := by
    have := tl_le ts ts.length
    omega
  unfold cf
  rw [List.getElem?_eq_getElem h3] at h2 ⊢
  intro z
  exact h2 (congrArg some z)
theorem tight_le {u v : List Int} (hv : Tight v) (h : ∀ k, cf u k = cf v k) : v.length ≤ u.length := by
  cases n : v.length with
  | zero => exact Nat.zero_le _
  | succ j =>
    apply Classical.byContradiction
    intro c
    exact hv j n (by rw [← h j]; exact cf_out (by omega))
theorem tight_eq {u v : List Int} (hu : Tight u) (hv : Tight v) (h : ∀ k, cf u k = cf v k) : u = v := by
  have e : u.length = v.length := Nat.le_antisymm (tight_le hu fun k => (h k).symm) (tight_le hv h)
  refine List.ext_getElem e fun i h1 h2 => ?_
  have := h i
  unfold cf at this
  rw [List.getElem?_eq_getElem h1, List.getElem?_eq_getElem h2] at this
  exact this
theorem trim_eq {a b : List Int} (h : ∀ k, cf a k = cf b k) : trim a = trim b := tight_eq (trim_tight a) (trim_tight b) fun k => by rw [cf_trim, cf_trim, h]
theorem trim_is {u v : List Int} (hv : Tight v) (h : ∀ k, cf u k = cf v k) : trim u = v := tight_eq (trim_tight u) hv fun k => by rw [cf_trim, h]
theorem len_le {u : List Int} {n : Nat} (hu : Tight u) (h : ∀ k, n ≤ k → cf u k = 0) : u.length ≤ n := by
  cases e : u.length with
  | zero => exact Nat.zero_le _
  | succ j =>
    apply Classical.byContradiction
    intro c
    exact hu j e (h j (by omega))
theorem len_ge {u : List Int} {n : Nat} (h : cf u n ≠ 0) : n < u.length := by
  apply Classical.byContradiction
  intro c
  exact h (cf_out (by omega))
/-- f(0), .., f(n - 1) -/
def L (f : Nat → Int) (n : Nat) : List Int := (List.range n).map f
theorem L_len (f : Nat → Int) (n : Nat) : (L f n).length = n := by
  unfold L
  rw [List.length_map, List.length_range]
theorem L_succ (f : Nat → Int) (n : Nat) : L f (n + 1) = L f n ++ [f n] := by
  unfold L
  rw [List.range_succ, List.map_append]
  rfl
theorem cf_L (f : Nat → Int) (n k : Nat) : cf (L f n) k = if k < n then f k else 0 := by
  unfold cf L
  rw [List.getElem?_map]
  split
  · rename_i h
    rw [List.getElem?_range h]
    rfl
  · rename_i h
    rw [List.getElem?_eq_none (by rw [List.length_range]; omega)]
    rfl
def sumN (f : Nat → Int) : Nat → Int
  | 0 => 0
  | n + 1 => sumN f n + f n
theorem sum_L (f : Nat → Int) : ∀ n, (L f n).sum = sumN f n
  | 0 => rfl
  | n + 1 => by
    rw [L_succ, List.sum_append, sum_L f n]
    show _ + (f n + 0) = _
    rw [Int.add_zero]
    rfl
theorem sumN_ext {f g : Nat → Int} : ∀ n, (∀ k, k < n → f k = g k) → sumN f n = sumN g n
  | 0, _ => rfl
  | n + 1, h => by
    unfold sumN
    rw [sumN_ext n fun k hk => h k (by omega), h n (by omega)]
theorem sumN_tail {f : Nat → Int} {m : Nat} : ∀ n, m ≤ n → (∀ k, m ≤ k → k < n → f k = 0) → sumN f n = sumN f m
  | 0, h, _ => by
    have : m = 0 := by omega
    rw [this]
  | n + 1, h, z => by
    by_cases e : m = n + 1
    · rw [e]
    · show sumN f n + f n = _
      rw [z n (by omega) (by omega), Int.add_zero]
      exact sumN_tail n (by omega) fun k h1 h2 => z k h1 (by omega)
theorem sumN_add (f g : Nat → Int) : ∀ n, sumN (fun k => f k + g k) n = sumN f n + sumN g n
  | 0 => rfl
  | n + 1 => by
    unfold sumN
    rw [sumN_add f g n]
    omega
theorem sumN_mul (c : Int) (f : Nat → Int) : ∀ n, sumN (fun k => c * f k) n = c * sumN f n
  | 0 => by
    show (0 : Int) = c * 0
    rw [Int.mul_zero]
  | n + 1 => by
    unfold sumN
    rw [sumN_mul c f n, Int.mul_add]
theorem sumN_shift (f : Nat → Int) : ∀ n, sumN f (n + 1) = f 0 + sumN (fun k => f (k + 1)) n
  | 0 => by
    show 0 + f 0 = f 0 + 0
    omega
  | n + 1 => by
    show sumN f (n + 1) + f (n + 1) = f 0 + (sumN (fun k => f (k + 1)) n + f (n + 1))
    rw [sumN_shift f n]
    omega
/-! ### values -/
theorem evl_cons (t : Int) (ts : List Int) (m : Int) : evl (t :: ts) m = t + m * evl ts m := by
  unfold evl
  rw [List.reverse_cons, List.foldl_append]
  show _ * m + t = _
  rw [Int.mul_comm, Int.add_comm]
theorem cf_cons (t : Int) (ts : List Int) (k : Nat) : cf (t :: ts) (k + 1) = cf ts k := rfl
theorem evl_sum (m : Int) : ∀ ts : List Int, evl ts m = sumN (fun k => cf ts k * m ^ k) ts.length
  | [] => rfl
  | t :: ts => by
    rw [evl_cons, List.length_cons, sumN_shift, evl_sum m ts, ← sumN_mul]
    show t + _ = t * m ^ 0 + _
    rw [Int.pow_zero, Int.mul_one]
    congr 1
    refine sumN_ext _ fun k _ => ?_
    show m * (cf ts k * m ^ k) = cf ts k * m ^ (k + 1)
    rw [Int.pow_succ]
    grind
theorem evl_N (m : Int) (ts : List Int) {n : Nat} (h : ts.length ≤ n) : evl ts m = sumN (fun k => cf ts k * m ^ k) n := by
  rw [evl_sum, sumN_tail n h fun k h1 _ => by rw [cf_out h1, Int.zero_mul]]
theorem evl_ext {a b : List Int} (h : ∀ k, cf a k = cf b k) (m : Int) : evl a m = evl b m := by
  rw [evl_N m a (Nat.le_max_left a.length b.length), evl_N m b (Nat.le_max_right a.length b.length)]
  exact sumN_ext _ fun k _ => by rw [h]
/-! ### sums -/
theorem evl_add {a b c : List Int} (h : ∀ k, cf c k = cf a k + cf b k) (m : Int) : evl c m = evl a m + evl b m := by
  have e1 : a.length ≤ a.length + b.length + c.length := by omega
  have e2 : b.length ≤ a.length + b.length + c.length := by omega
  have e3 : c.length ≤ a.length + b.length + c.length := by omega
  rw [evl_N m a e1, evl_N m b e2, evl_N m c e3, ← sumN_add]
  refine sumN_ext _ fun k _ => ?_
  show cf c k * m ^ k = cf a k * m ^ k + cf b k * m ^ k
  rw [h, Int.add_mul]
/-! ### products -/
def S (a b : List Int) (p : Nat) : Int := sumN (fun k => cf a k * cf b (p - k)) (p + 1)
theorem S_min (a b : List Int) (p : Nat) : sumN (fun k => cf a k * cf b (p - k)) (min (p + 1) a.length) = S a b p := by
  unfold S
  rw [sumN_tail (m := min (p + 1) a.length) (p + 1) (Nat.min_le_left ..) fun k h1 h2 => by rw [cf_out (by omega), Int.zero_mul]]
theorem S_out {a b : List Int} {p : Nat} (h : a.length + b.length ≤ p) : S a b p = 0 := by
  unfold S
  rw [sumN_tail (m := 0) (p + 1) (Nat.zero_le _) fun k _ h2 => ?_]
  · rfl
  · by_cases c : a.length ≤ k
    · rw [cf_out c, Int.zero_mul]
    · rw [cf_out (ts := b) (by omega), Int.mul_zero]
theorem S_ext {a b c d : List Int} (h1 : ∀ k, cf a k = cf c k) (h2 : ∀ k, cf b k = cf d k) (p : Nat) : S a b p = S c d p := sumN_ext _ fun k _ => by rw [h1, h2]
/-- by the second one's terms, row by row -/
theorem S_rows (a b : List Int) (p : Nat) : sumN (fun k => if k ≤ p then cf a k * cf b (p - k) else 0) a.length = S a b p := by
  by_cases h : a.length ≤ p + 1
  · rw [← S_min a b p, Nat.min_eq_right h]
    exact sumN_ext _ fun k hk => by rw [if_pos (by omega)]
  · rw [sumN_tail (m := p + 1) a.length (by omega) fun k h1 _ => by rw [if_neg (by omega)]]
    exact sumN_ext _ fun k hk => by rw [if_pos (by omega)]
theorem cf_mul (a b : List Int) (p : Nat) : cf (L (fun p => sumN (fun k => cf a k * cf b (p - k)) (min (p + 1) a.length)) (a.length + b.length)) p = S a b p := by
  rw [cf_L]
  split
  · exact S_min a b p
  · rename_i h
    exact (S_out (by omega)).symm
/-- times (more + slope m) -/
theorem S_lin (a : List Int) (u v : Int) : ∀ p, S a [u, v] p = u * cf a p + (if p = 0 then 0 else v * cf a (p - 1))
  | 0 => by
    show 0 + cf a 0 * u = _
    rw [if_pos rfl, Int.mul_comm]
    omega
  | p + 1 => by
    rw [if_neg (by omega)]
    show sumN (fun k => cf a k * cf [u, v] (p + 1 - k)) (p + 1) + cf a (p + 1) * cf [u, v] (p + 1 - (p + 1)) = _
    have e : sumN (fun k => cf a k * cf [u, v] (p + 1 - k)) (p + 1) = cf a p * v := by
      show sumN (fun k => cf a k * cf [u, v] (p + 1 - k)) p + cf a p * cf [u, v] (p + 1 - p) = _
      rw [sumN_tail (m := 0) p (Nat.zero_le _) fun k _ h2 => by rw [cf_out (ts := [u, v]) (by show 2 ≤ _; omega), Int.mul_zero]]
      have e1 : p + 1 - p = 1 := by omega
      rw [e1]
      show 0 + cf a p * v = _
      omega
    rw [e]
    have e2 : p + 1 - (p + 1) = 0 := by omega
    have e3 : p + 1 - 1 = p := by omega
    rw [e2, e3]
    show cf a p * v + cf a (p + 1) * u = _
    grind
theorem evl_lin {a c : List Int} {u v : Int} (h : ∀ p, cf c p = u * cf a p + (if p = 0 then 0 else v * cf a (p - 1))) (m : Int) : evl c m = evl a m * (v * m + u) := by
  have e1 : a.length ≤ a.length + c.length := by omega
  have e2 : a.length ≤ a.length + c.length + 1 := by omega
  have e3 : c.length ≤ a.length + c.length + 1 := by omega
  have x1 : sumN (fun k => (u * cf a k) * m ^ k) (a.length + c.length + 1) = u * evl a m := by
    rw [evl_N m a e2, ← sumN_mul]
    exact sumN_ext _ fun k _ => by rw [Int.mul_assoc]
  have x2 : sumN (fun k => (if k = 0 then 0 else v * cf a (k - 1)) * m ^ k) (a.length + c.length + 1) = v * m * evl a m := by
    rw [sumN_shift, evl_N m a e1, ← sumN_mul]
    show (0 : Int) * m ^ 0 + _ = _
    rw [Int.zero_mul, Int.zero_add]
    refine sumN_ext _ fun k _ => ?_
    show v * cf a k * m ^ (k + 1) = v * m * (cf a k * m ^ k)
    rw [Int.pow_succ]
    grind
  rw [evl_N m c e3]
  have x3 : sumN (fun k => cf c k * m ^ k) (a.length + c.length + 1) = u * evl a m + v * m * evl a m := by
    rw [← x1, ← x2, ← sumN_add]
    refine sumN_ext _ fun k _ => ?_
    show cf c k * m ^ k = _ * m ^ k + _ * m ^ k
    rw [h, Int.add_mul]
  rw [x3]
  grind
end My
/-! Rules for use within a comprehension: the table of the text is named apart from the context. -/
namespace My
open PySem PySem.Spec PyProof.Rows L2
section
variable {X : Cx} {K : PySem.W.Frag}
theorem pe_fldB {e : Expr} {f : Str} {ta : TE} {pos : Pos} (hK : X.K = K) (he : PE X e ta) (hb : attributeBase e f X.env (eval e X.env) = eval e X.env) : PE X (.Attribute e f pos) (tFld K ta f) := by
  subst hK
  exact pe_fld he hb
theorem call_lenB (hK : X.K = K) : CallR X (.builtin "len") (fun xs H Q => ∃ x n, xs = [x] ∧ LenV K x H n ∧ Q (.int n) H) := by
  subst hK
  exact call_len
theorem cr_sumB (hK : X.K = K) (hc : X.calm = true) : CallR X (.builtin "sum") (rSum K) := by
  subst hK
  exact cr_sum hc
theorem ix_tupP (hK : X.K = K) : IxR X (rIxT K) := by
  subst hK
  exact ix_tup
theorem pg_tupB {es : List Expr} {k n : Nat} {t : TGs} {pos : Pos} (hK : X.K = K) (hc : X.calm = true) (h : PGs X es t) (hn : (assignEach es X.env).length = n := by rfl) (hst : (assignEach es X.env).findIdx? (·.1) = none := by rfl) : PG X (.Tuple es k pos) (gTup K n t) := by
  subst hK
  exact pg_tup hc h hn hst
end
end My
set_option pp.maxSteps 1500
set_option pp.deepTerms.threshold 8
/-! ### products of polynomials -/
namespace My
open PySem PySem.Spec PyProof.Rows L2
abbrev s_prodof : Stmt := topS 38
theorem sc_prodof : FnScope ["one", "other", "many", "power", "k"] ["one", "other"] (defScope s_prodof) := ⟨rfl, rfl, rfl, by decide +kernel, rfl, by decide +kernel, by decide +kernel⟩
abbrev s_pmul : Stmt := inClass (topS 46) 19
theorem sc_pmul : FnScope ["self", "other", "terms"] ["self", "other"] (defScope s_pmul) := ⟨rfl, rfl, rfl, by decide +kernel, rfl, by decide +kernel, by decide +kernel⟩
/-- a new poly, its terms told by their coefficients -/
def Gives (C : Addr) (H : Hp) (Q : VK) (f : Nat → Int) : Prop := ∀ (q : Addr) (r : List Int) (H' : Hp), Tight r → (∀ k, cf r k = f k) → PolyAt C H' q r → Same H H' → Q (.ref q) H'
section
variable {P : Program} {w : World} {K : PySem.W.Frag} {mg : Str → Option Value} {base : Heap} {Cs : List Addr} {CP : Addr}
/-- all terms of less than B bits -/
def Bd (a : List Int) (B : Nat) : Prop := ∀ k, (cf a k).natAbs < 2 ^ B
def spProd : Sp := fun vs H Q _ => ∃ (t u : Addr) (a b : List Int), vs = [.ref t, .ref u] ∧ H t = some (.tup (a.map V.int)) ∧ H u = some (.tup (b.map V.int)) ∧ a.length ≤ 400 ∧ b.length ≤ 400 ∧ Bd a 400000 ∧ Bd b 400000 ∧
  ∀ (D : Addr) (H' : Hp), H' D = some (.lst ((L (fun p => sumN (fun k => cf a k * cf b (p - k)) (min (p + 1) a.length)) (a.length + b.length)).map V.int)) → Same H H' → Q (.ref D) H'
theorem ok_prodof {f : Addr} {fd : FuncData} (F : Fun K "product_of" "product_of" s_prodof f fd) (T : PTx K mg Cs CP) (D_termof : DefAt P w K mg base CX0 1 "term_of" ["terms", "k"] (spTermof K)) : FnOk P w K mg base CX0 2 f fd ["one", "other"] spProd := by
  refine F.ok sc_prodof (fun vs H Q E h => ?_) (fun cdv A outer s H vs Q E hr h => ?_)
  · obtain ⟨t, u, a, b, rfl, _⟩ := h
    rfl
  · obtain ⟨t, u, a, b, rfl, ht, hu, la, lb, ba, bb, k⟩ := h
    refine ⟨_, (pss_cons (ps_set (i := 2) sc_prodof.nd rfl (Or.inl rfl) (pe_op op_add (pe_callB (My.call_lenB (K := K) rfl) (by rfl) T.z_len PySem.boot_len (pa_cons (pv 0) pa_nil)) (pe_callB call_len (by rfl) T.z_len PySem.boot_len (pa_cons (pv 1) pa_nil))))
      (pss_one (ps_ret (pe_lc (own := [("power", 3)]) rfl sc_prodof.nd (pi_range1 rfl T.z_range (pa_cons (pv 2) pa_nil)) (blkOk_by (by show blkC ["one", "other", "many", "power", "k"] (defScope s_prodof) _ _ = true; decide +kernel)) (fun _ _ _ _ _ => (pg_name (i := 3) sc_prodof.nd rfl (Or.inr rfl))) (fun _ _ _ _ _ => pts_nil) (fun _ _ _ _ _ => (pe_callB (My.cr_sumB (K := K) rfl rfl) (by rfl) T.z_sum boot_sum (pa_cons (pe_lc (own := [("k", 4)]) rfl sc_prodof.nd (pi_range1 rfl T.z_range (pa_cons (pe_callB (call_min2 rfl) (by rfl) T.z_min boot_min (pa_cons (pe_op op_add (pv 3) pe_int) (pa_cons (pe_callB (My.call_lenB (K := K) rfl) (by rfl) T.z_len PySem.boot_len (pa_cons (pv 0) pa_nil)) pa_nil))) pa_nil)) (blkOk_by (by rfl)) (fun _ _ _ _ _ => (pg_name (i := 4) sc_prodof.nd rfl (Or.inl rfl))) (fun _ _ _ _ _ => pts_nil) (fun _ _ _ _ _ => (pe_op op_mulW (pe_ix (My.ix_tupP (K := K) rfl) (pv 0) (pv 4) (fun _ _ => rfl)) (My.pe_d D_termof (hr.mono (by decide)) (by rfl) pass0 (pa_cons (pv 1) (pa_cons (pe_op op_sub (pv 3) (pv 4)) pa_nil)))))) pa_nil))))))), ?_⟩
    refine ⟨_, rfl, _, a.length, rfl, .inr ⟨_, SqT.of ht, (List.length_map ..).symm⟩, _, rfl, _, b.length, rfl, .inr ⟨_, SqT.of hu, (List.length_map ..).symm⟩, _, _, rfl, rfl, ?_⟩
    refine ⟨_, rfl, _, rfl, by omega, by omega, fun D hD => ?_⟩
    have en : (((a.length : Nat) : Int) + ((b.length : Nat) : Int)).toNat = a.length + b.length := by omega
    rw [en]
    refine lc_range (lo := 0) (n := a.length + b.length) (fun i Hh => Hh D = some (.lst ((L (fun p => sumN (fun k => cf a k * cf b (p - k)) (min (p + 1) a.length)) i).map V.int)) ∧ Same H Hh) ⟨upd_same, same_new hD⟩ ?_ ?_
    · rintro i Hh hi ⟨c1, c2⟩
      obtain ⟨M, hM, eM⟩ : ∃ M : Nat, (if ((a.length : Nat) : Int) < (0 + ((i : Nat) : Int) + 1) then ((a.length : Nat) : Int) else (0 + ((i : Nat) : Int) + 1)) = (M : Int) ∧ M = min (i + 1) a.length := by
        split
        · exact ⟨a.length, rfl, by omega⟩
        · exact ⟨i + 1, by omega, by omega⟩
      refine ⟨rfl, yes_go ⟨_, rfl, _, _, rfl, rfl, _, rfl, _, a.length, rfl, .inr ⟨_, SqT.of (c2 _ _ ht), (List.length_map ..).symm⟩, _, _, rfl, ?_⟩⟩
      rw [hM]
      refine ⟨_, rfl, by omega, by omega, fun D2 hD2 => ?_⟩
      have eM2 : ((M : Nat) : Int).toNat = M := by omega
      rw [eM2]
      refine lc_range (lo := 0) (n := M) (fun j Hj => Hj D2 = some (.lst ((L (fun k => cf a k * cf b (i - k)) j).map V.int)) ∧ Same Hh Hj) ⟨upd_same, same_new hD2⟩ ?_ ?_
      · rintro j Hj hj ⟨f1, f2⟩
        have s2 := c2.trans f2
        have ja : j < a.length := by omega
        have ea : atI (a.map V.int) (0 + ((j : Nat) : Int)) = some (.int (cf a j)) := at_of (j := j) (by omega) (by
          rw [List.getElem?_map]
          unfold cf
          rw [List.getElem?_eq_getElem ja]
          rfl)
        refine ⟨rfl, yes_go ⟨_, rfl, _, rfl, t, _, _, _, rfl, rfl, SqT.of (s2 _ _ ht), ea, _, rfl, _, rfl, _, rfl, _, _, rfl, rfl, u, b, _, rfl, s2 _ _ hu, by omega, _, _, rfl, rfl, wide_mul (a := 400000) (b := 400000) (ba j) ?_ (by decide) (by decide) (by decide), _, f1, ?_, ?_, ?_⟩⟩
        · exact bb _
        · rw [List.length_map, L_len, sizeLine_eq]
          omega
        · have e0 : (0 + ((i : Nat) : Int) - (0 + ((j : Nat) : Int))).toNat = i - j := by omega
          rw [L_succ, List.map_append, e0]
          exact upd_same
        · intro b' o e
          rw [upd_ne (ne_of_none e hD2)]
          exact f2 _ _ e
      rintro H5 ⟨f1, f2⟩
      refine ⟨D2, _, rfl, SqL.of f1, _, f2 _ _ c1, ?_, ?_, ?_⟩
      · rw [List.length_map, L_len, sizeLine_eq]
        omega
      · rw [L_succ, List.map_append, sum_L, eM]
        exact upd_same
      · intro b' o e
        rw [upd_ne (ne_of_none e hD)]
        exact f2 _ _ (c2 _ _ e)
    rintro H2 ⟨c1, c2⟩
    exact k D H2 c1 c2
def spPmul (C : Addr) : Sp := fun vs H Q _ => ∃ (p q : Addr) (a b : List Int), vs = [.ref p, .ref q] ∧ PolyAt C H p a ∧ PolyAt C H q b ∧ a.length ≤ 400 ∧ b.length ≤ 400 ∧ Bd a 400000 ∧ Bd b 400000 ∧ Gives C H Q (S a b)
theorem ok_pmul {f : Addr} {fd : FuncData} (F : Fun K "__mul__" "Poly.__mul__" s_pmul f fd) (T : PTx K mg Cs CP) (D_whole0 : DefAt P w K mg base CX0 1 "is_whole" ["value"] (spWh Cs)) (D_prodof : DefAt P w K mg base CX0 2 "product_of" ["one", "other"] spProd)
    (M_Poly : MakeR P w K mg base (L2.CX P w) 3 "Poly" CP (spPoly CP)) : FnOk P w K mg base CX0 5 f fd ["self", "other"] (spPmul CP) := by
  refine F.ok sc_pmul (fun vs H Q E h => ?_) (fun cdv A outer s H vs Q E hr h => ?_)
  · obtain ⟨p, q, a, b, rfl, _⟩ := h
    rfl
  · obtain ⟨p, q, a, b, rfl, hp, hq, la, lb, ba, bb, k⟩ := h
    refine ⟨_, (pss_cons (ps_if (pt_val (My.pe_d D_whole0 (hr.mono (by decide)) (by rfl) pass0 (pa_cons (pv 1) pa_nil))) (pss_one (ps_ret (pe_op op_mulW (pv 0) (My.pe_mkR M_Poly (hr.mono (by decide)) (by rfl) passL (pa_cons (pv 1) pa_nil))))) pss_nil)
      (pss_cons (ps_if (pt_not (pt_val (pe_callB call_isi (by rfl) T.z_isinstance boot_isinstance (pa_cons (pv 1) (pa_cons (pe_glob (v := .ref CP) (by rfl) T.gP rfl) pa_nil))))) (pss_one ps_never) pss_nil)
      (pss_cons (ps_set (i := 2) sc_pmul.nd rfl (Or.inl rfl) (My.pe_d D_prodof (hr.mono (by decide)) (by rfl) pass0 (pa_cons (pe_fld (pv 0) rfl) (pa_cons (pe_fld (pv 1) rfl) pa_nil))))
      (pss_one (ps_ret (My.pe_mkS M_Poly (hr.mono (by decide)) (by rfl) passL (pv 2))))))), ?_⟩
    obtain ⟨dx, t, ep, et⟩ := id hp
    obtain ⟨dq, tq, eq, etq⟩ := id hq
    refine ⟨_, rfl, .ref q, rfl, .inr ⟨CP, T.inn, q, dq, _, rfl, eq⟩, _, rfl, iteF ?_⟩
    refine ⟨_, rfl, _, _, _, _, true, rfl, .own _, T.own.ty eq, T.own.me, _, rfl, iteF ?_⟩
    refine ⟨_, rfl, p, CP, dx, _, .ref t, rfl, ep, T.cl, T.nT, pfs_terms _ _, _, rfl, q, CP, dq, _, .ref tq, rfl, eq, T.cl, T.nT, pfs_terms _ _, t, tq, a, b, rfl, et, etq, la, lb, ba, bb, fun D H2 hD s2 => ?_⟩
    refine ⟨_, rfl, D, _, rfl, .inr (SqL.of hD), poly_ints _ (by rw [L_len]; omega) fun q' H3 po s3 => k q' _ H3 (trim_tight _) (fun j => ?_) po (s2.trans s3)⟩
    rw [cf_trim, cf_mul]
end
end My
set_option pp.maxSteps 1500
set_option pp.deepTerms.threshold 8
/-! ### quotients of polynomials -/
namespace My
open PySem PySem.Spec PyProof.Rows L2
abbrev s_aspoly : Stmt := topS 48
theorem sc_aspoly : FnScope ["value", "at"] ["value", "at"] (defScope s_aspoly) := ⟨rfl, rfl, rfl, by decide +kernel, rfl, by decide +kernel, by decide +kernel⟩
abbrev s_asquo : Stmt := topS 57
theorem sc_asquo : FnScope ["value"] ["value"] (defScope s_asquo) := ⟨rfl, rfl, rfl, by decide +kernel, rfl, by decide +kernel, by decide +kernel⟩
abbrev s_qinit : Stmt := inClass (topS 60) 0
theorem sc_qinit : FnScope ["self", "top", "bottom"] ["self", "top", "bottom"] (defScope s_qinit) := ⟨rfl, rfl, rfl, by decide +kernel, rfl, by decide +kernel, by decide +kernel⟩
abbrev s_qeq : Stmt := inClass (topS 60) 18
theorem sc_qeq : FnScope ["self", "other", "second"] ["self", "other"] (defScope s_qeq) := ⟨rfl, rfl, rfl, by decide +kernel, rfl, by decide +kernel, by decide +kernel⟩
/-- a polynomial, or an int that stands for one -/
def PlyV (C : Addr) (H : Hp) (v : V) (ts : List Int) : Prop := (∃ p, v = .ref p ∧ PolyAt C H p ts) ∨ ∃ i, v = .int i ∧ ts = trim [i]
theorem PlyV.same {C : Addr} {H H' : Hp} {v : V} {ts : List Int} (h : PlyV C H v ts) (s : Same H H') : PlyV C H' v ts := by
  rcases h with ⟨p, e, l⟩ | h
  · exact .inl ⟨p, e, l.same s⟩
  · exact .inr h
theorem PolyAt.at_ins {C : Addr} {H : Hp} {q p D dx : Addr} {ts : List Int} {fs : List (Str × V)} {o : HO} (h : PolyAt C H q ts) (hp : H p = some (.ins D dx fs)) (ne : q ≠ p) : PolyAt C (upd H p o) q ts := by
  obtain ⟨dx', t, e, et⟩ := h
  exact ⟨dx', t, by rw [upd_ne ne]; exact e, by rw [upd_ne (ne_of et hp (by intro z; cases z))]; exact et⟩
theorem PolyAt.ne0 {C : Addr} {H : Hp} {q p D dx : Addr} {ts : List Int} (h : PolyAt C H q ts) (hp : H p = some (.ins D dx [])) : q ≠ p := by
  obtain ⟨_, _, e, _⟩ := h
  exact ne_of e hp (by intro z; cases z)
def qfs (q r : Addr) : List (Str × V) := putF "bottom" (.ref r) (putF "top" (.ref q) [])
theorem qsm : ¬ (("top" : Str) = "bottom") := by decide +kernel
theorem qfs_top (q r : Addr) : (qfs q r).lookup ("top" : Str) = some (.ref q) := by
  unfold qfs
  rw [lookup_putF, if_neg qsm, lookup_putF, if_pos rfl]
theorem qfs_bot (q r : Addr) : (qfs q r).lookup ("bottom" : Str) = some (.ref r) := by
  unfold qfs
  rw [lookup_putF, if_pos rfl]
/-- at p: a Quotient with these terms above and below -/
def QuoAt (C CP : Addr) (H : Hp) (p : Addr) (ts us : List Int) : Prop := ∃ dx q r, H p = some (.ins C dx (qfs q r)) ∧ PolyAt CP H q ts ∧ PolyAt CP H r us
theorem QuoAt.same {C CP : Addr} {H H' : Hp} {p : Addr} {ts us : List Int} (h : QuoAt C CP H p ts us) (k : Same H H') : QuoAt C CP H' p ts us := by
  obtain ⟨dx, q, r, e, a, b⟩ := h
  exact ⟨dx, q, r, k _ _ e, a.same k, b.same k⟩
theorem QuoAt.ext {C CP : Addr} {H H' : Hp} {p : Addr} {ts us : List Int} (h : QuoAt C CP H p ts us) (k : LamX.ExtN H H') : QuoAt C CP H' p ts us := by
  obtain ⟨dx, q, r, e, a, b⟩ := h
  exact ⟨dx, q, r, k _ _ e (by intro ps z; cases z), a.ext k, b.ext k⟩
/-- what the top has written of Quotient -/
structure QTx (K : PySem.W.Frag) (mg : Str → Option Value) (Cs : List Addr) (CP CQo : Addr) : Prop extends PTx K mg Cs CP where
  innQ : CQo ∈ Cs
  clQ : Cls K CQo
  nTo : NoAttr K CQo "top"
  nBo : NoAttr K CQo "bottom"
  gQo : mg "Quotient" = some (.ref CQo)
theorem QTx.ownQ {K : PySem.W.Frag} {mg : Str → Option Value} {Cs : List Addr} {CP CQo : Addr} (T : QTx K mg Cs CP CQo) : Own K CQo := T.fam.own CQo T.innQ
def spAspoly (C : Addr) : Sp := fun vs H Q _ => ∃ (v : V) (i : Int) (ts : List Int), vs = [v, .int i] ∧ PlyV C H v ts ∧ ∀ q H', PolyAt C H' q ts → Same H H' → Q (.ref q) H'
def spAsquo (C CP : Addr) : Sp := fun vs H Q _ => ∃ (p : Addr) (ts us : List Int), vs = [.ref p] ∧ QuoAt C CP H p ts us ∧ Q (.ref p) H
def spQinit (C CP : Addr) : Sp := fun vs H Q _ => ∃ (p dx : Addr) (tv bv : V) (ts us : List Int), vs = [.ref p, tv, bv] ∧ H p = some (.ins C dx []) ∧ PlyV CP H tv ts ∧ PlyV CP H bv us ∧ us ≠ [] ∧
  ∀ q r H', H' p = some (.ins C dx (qfs q r)) → PolyAt CP H' q ts → PolyAt CP H' r us → (∀ c o, H c = some o → c ≠ p → H' c = some o) → Q .non H'
theorem qinit_at {C CP : Addr} {H : Hp} {x dx : Addr} {tv bv : V} {ts us : List Int} {R : Hp → Prop} {E : XK} (ht : PlyV CP H tv ts) (hb : PlyV CP H bv us) (ne0 : us ≠ []) (hx : H x = none) (hd : H dx = none) (ne : dx ≠ x) (k : ∀ H', QuoAt C CP H' x ts us → Same H H' → R H') :
    spQinit C CP (.ref x :: ([tv, bv] ++ [])) (upd (upd H dx (.own x)) x (.ins C dx [])) (fun v H2 => v = .non ∧ R H2) E := by
  have s0 : Same H (upd (upd H dx (.own x)) x (.ins C dx [])) := fun b o e => by
    rw [upd_ne (ne_of_none e hx), upd_ne (ne_of_none e hd)]
    exact e
  exact ⟨x, dx, tv, bv, ts, us, rfl, upd_same, ht.same s0, hb.same s0, ne0, fun q r H' h1 h2 h3 h4 => ⟨rfl, k H' ⟨dx, q, r, h1, h2, h3⟩ fun c o e => h4 c o (s0 _ _ e) (ne_of_none e hx)⟩⟩
def spQeq (C CP : Addr) : Sp := fun vs H Q _ => ∃ (p q : Addr) (a b c d : List Int), vs = [.ref p, .ref q] ∧ QuoAt C CP H p a b ∧ QuoAt C CP H q c d ∧ (a.length ≤ 400 ∧ b.length ≤ 400 ∧ c.length ≤ 400 ∧ d.length ≤ 400) ∧ (Bd a 400000 ∧ Bd b 400000 ∧ Bd c 400000 ∧ Bd d 400000) ∧
  ∀ z H', Same H H' → (z = true ↔ ∀ k, S a d k = S c b k) → Q (.bl z) H'
section
variable {P : Program} {w : World} {K : PySem.W.Frag} {mg : Str → Option Value} {base : Heap} {Cs : List Addr} {CP CQo : Addr}
theorem ok_aspoly {f : Addr} {fd : FuncData} (F : Fun K "as_poly" "as_poly" s_aspoly f fd) (T : PTx K mg Cs CP) (D_whole0 : DefAt P w K mg base CX0 1 "is_whole" ["value"] (spWh Cs)) (M_Poly : MakeR P w K mg base (L2.CX P w) 3 "Poly" CP (spPoly CP)) : FnOk P w K mg base CX0 5 f fd ["value", "at"] (spAspoly CP) := by
  refine F.ok sc_aspoly (fun vs H Q E h => ?_) (fun cdv A outer s H vs Q E hr h => ?_)
  · obtain ⟨v, i, ts, rfl, _⟩ := h
    rfl
  · obtain ⟨v, i, ts, rfl, hv, k⟩ := h
    refine ⟨_, (pss_cons (ps_if (pt_val (My.pe_d D_whole0 (hr.mono (by decide)) (by rfl) pass0 (pa_cons (pv 0) pa_nil))) (pss_one (ps_ret (My.pe_mkR M_Poly (hr.mono (by decide)) (by rfl) passL (pa_cons (pv 0) pa_nil)))) pss_nil)
      (pss_cons (ps_if (pt_not (pt_val (pe_callB call_isi (by rfl) T.z_isinstance boot_isinstance (pa_cons (pv 0) (pa_cons (pe_glob (v := .ref CP) (by rfl) T.gP rfl) pa_nil))))) (pss_one ps_never) pss_nil)
      (pss_one (ps_ret (pv 0))))), ?_⟩
    rcases hv with ⟨p, rfl, hp⟩ | ⟨n, rfl, rfl⟩
    · obtain ⟨dx, t, ep, et⟩ := id hp
      refine ⟨_, rfl, .ref p, rfl, .inr ⟨CP, T.inn, p, dx, _, rfl, ep⟩, _, rfl, iteF ?_⟩
      exact ⟨_, rfl, _, _, _, _, true, rfl, .own _, T.own.ty ep, T.own.me, _, rfl, iteF ⟨_, rfl, k p _ hp fun _ _ e => e⟩⟩
    · exact ⟨_, rfl, .int n, rfl, AnyF.int Cs H n, _, rfl, iteT ⟨_, rfl, poly_ints [n] (by show 1 ≤ 1000; decide) fun q H' po s => k q H' po s⟩⟩
theorem ok_asquo {f : Addr} {fd : FuncData} (F : Fun K "as_quotient" "as_quotient" s_asquo f fd) (T : QTx K mg Cs CP CQo) : FnOk P w K mg base CX0 1 f fd ["value"] (spAsquo CQo CP) := by
  refine F.ok sc_asquo (fun vs H Q E h => ?_) (fun cdv A outer s H vs Q E hr h => ?_)
  · obtain ⟨p, ts, us, rfl, _⟩ := h
    rfl
  · obtain ⟨p, ts, us, rfl, ⟨dx, q, r, e, _, _⟩, k⟩ := h
    refine ⟨_, (pss_cons (ps_if (pt_val (pe_callB call_isi (by rfl) T.z_isinstance boot_isinstance (pa_cons (pv 0) (pa_cons (pe_glob (v := .ref CQo) (by rfl) T.gQo rfl) pa_nil)))) (pss_one (ps_ret (pv 0))) pss_nil)
      (pss_cons ps_never
      (pss_one ps_never))), ?_⟩
    exact ⟨_, rfl, _, _, _, _, true, rfl, .own _, T.ownQ.ty e, T.ownQ.me, _, rfl, iteT ⟨_, rfl, k⟩⟩
theorem ok_qinit {f : Addr} {fd : FuncData} (F : FunD K "__init__" "Quotient.__init__" (defArgs s_qinit) (defBody s_qinit) (defScope s_qinit) [.int 1] [] f fd) (T : QTx K mg Cs CP CQo) (D_aspoly : DefAt P w K mg base CX0 5 "as_poly" ["value", "at"] (spAspoly CP))
    (B_pbool : CmpAt P w K mg base CX0 1 CP "__bool__" ["self"] (spPbool CP)) : FnOk P w K mg base (L2.CX P w) 6 f fd ["self", "top", "bottom"] (spQinit CQo CP) := by
  refine F.ok sc_qinit (fun vs H Q E h => ?_) (fun cdv A outer s H vs Q E hr h => ?_)
  · obtain ⟨p, dx, tv, bv, ts, us, rfl, _⟩ := h
    rfl
  · obtain ⟨p, dx, tv, bv, ts, us, rfl, hp, ht, hb, ne0, k⟩ := h
    refine ⟨_, (pss_cons (ps_fld (pv 0) (My.pe_d D_aspoly (hr.mono (by decide)) (by rfl) pass0 (pa_cons (pv 1) (pa_cons pe_int pa_nil))) rfl)
      (pss_cons (ps_fld (pv 0) (My.pe_d D_aspoly (hr.mono (by decide)) (by rfl) pass0 (pa_cons (pv 2) (pa_cons pe_int pa_nil))) rfl)
      (pss_one (ps_if (pt_not (My.pt_own B_pbool (hr.mono (by decide)) pass0 (pe_fld (pv 0) rfl))) (pss_one ps_never) pss_nil)))), ?_⟩
    refine ⟨_, rfl, tv, 0, ts, rfl, ht, fun q H1 l1 s1 => ?_⟩
    refine ⟨_, rfl, p, CQo, dx, _, rfl, s1 _ _ hp, T.clQ, T.nTo, (by show 0 < 1000; decide), ?_⟩
    have hp1 := s1 _ _ hp
    have qp : q ≠ p := l1.ne0 hp1
    have l1a := l1.at_ins (o := .ins CQo dx (putF "top" (.ref q) [])) hp1 qp
    have hba : PlyV CP (upd H1 p (.ins CQo dx (putF "top" (.ref q) []))) bv us := by
      rcases hb.same s1 with ⟨u, e, hu⟩ | h
      · exact .inl ⟨u, e, hu.at_ins hp1 (hu.ne0 hp1)⟩
      · exact .inr h
    refine ⟨_, rfl, bv, 1, us, rfl, hba, fun r H2 l2 s2 => ?_⟩
    have hp2 := s2 _ _ (upd_same (H := H1) (a := p) (o := .ins CQo dx (putF "top" (.ref q) [])))
    have rp : r ≠ p := by
      obtain ⟨_, _, e, _⟩ := id l2
      exact ne_of e hp2 (by intro z; cases z)
    refine ⟨_, rfl, p, CQo, dx, _, rfl, hp2, T.clQ, T.nBo, (by show 1 < 1000; decide), ?_⟩
    have l2a := l2.at_ins (o := .ins CQo dx (qfs q r)) hp2 rp
    have l1b := (l1a.same s2).at_ins (o := .ins CQo dx (qfs q r)) hp2 qp
    obtain ⟨dr, tr, er, _⟩ := id l2a
    refine ⟨_, rfl, p, CQo, dx, _, .ref r, rfl, upd_same, T.clQ, T.nBo, qfs_bot _ _, r, dr, _, rfl, er, r, us, rfl, l2a, _, rfl, ?_⟩
    have eb : (!us.isEmpty) = true := by
      cases us with
      | nil => exact absurd rfl ne0
      | cons _ _ => rfl
    rw [eb]
    refine iteF (k q r _ upd_same l1b l2a fun c o e n => ?_)
    rw [upd_ne n]
    refine s2 _ _ ?_
    rw [upd_ne n]
    exact s1 _ _ e
theorem ok_qeq {f : Addr} {fd : FuncData} (F : Fun K "__eq__" "Quotient.__eq__" s_qeq f fd) (T : QTx K mg Cs CP CQo) (D_asquo : DefAt P w K mg base CX0 1 "as_quotient" ["value"] (spAsquo CQo CP))
    (O_pmul : CmpAt P w K mg base CX0 5 CP "__mul__" ["self", "other"] (spPmul CP)) (B_pmul : BinF K CP (Operator.info .Mult).2) (CE_peq : CmpAt P w K mg base CX0 1 CP "__eq__" ["self", "other"] (spPeq CP)) : FnOk P w K mg base CX0 7 f fd ["self", "other"] (spQeq CQo CP) := by
  refine F.ok sc_qeq (fun vs H Q E h => ?_) (fun cdv A outer s H vs Q E hr h => ?_)
  · obtain ⟨p, q, a, b, c, d, rfl, _⟩ := h
    rfl
  · obtain ⟨p, q, a, b, c, d, rfl, hp, hq, ⟨la, lb, lc, ld⟩, ⟨ba, bb, bc, bd⟩, k⟩ := h
    refine ⟨_, (pss_cons (ps_set (i := 2) sc_qeq.nd rfl (Or.inl rfl) (My.pe_d D_asquo (hr.mono (by decide)) (by rfl) pass0 (pa_cons (pv 1) pa_nil)))
      (pss_one (ps_ret (pe_and (pe_cmpR op_notN (pv 2) pe_non (nomark _)) (pe_one (pe_cmpR (My.op_cmpO CE_peq (hr.mono (by decide)) pass0) (pe_op (My.op_binO O_pmul B_pmul (hr.mono (by decide)) pass0) (pe_fld (pv 0) rfl) (pe_fld (pv 2) rfl)) (pe_op (My.op_binO O_pmul B_pmul (hr.mono (by decide)) pass0) (pe_fld (pv 2) rfl) (pe_fld (pv 0) rfl)) (nomark _))))))), ?_⟩
    obtain ⟨dx, pa, pb, ep, ha, hb⟩ := id hp
    obtain ⟨dy, pc, pd, eq, hc, hd⟩ := id hq
    refine ⟨_, rfl, q, c, d, rfl, hq, _, rfl, rfl, ?_⟩
    refine ⟨_, rfl, iteT ?_⟩
    refine ⟨_, rfl, p, CQo, dx, _, .ref pa, rfl, ep, T.clQ, T.nTo, qfs_top _ _, _, rfl, q, CQo, dy, _, .ref pd, rfl, eq, T.clQ, T.nBo, qfs_bot _ _, ?_⟩
    obtain ⟨da, ta, ea, ta'⟩ := id ha
    obtain ⟨dd, td, ed, td'⟩ := id hd
    refine ⟨pa, da, _, rfl, ea, .inl ⟨pd, dd, _, rfl, ed⟩, pa, pd, a, d, rfl, ha, hd, la, ld, ba, bd, fun q1 r1 H1 t1 c1 po1 s1 => ?_⟩
    have hc1 := hc.same s1
    have hb1 := hb.same s1
    obtain ⟨dc, tc, ec, tc'⟩ := id hc1
    obtain ⟨db, tb, eb, tb'⟩ := id hb1
    refine ⟨_, rfl, q, CQo, dy, _, .ref pc, rfl, s1 _ _ eq, T.clQ, T.nTo, qfs_top _ _, _, rfl, p, CQo, dx, _, .ref pb, rfl, s1 _ _ ep, T.clQ, T.nBo, qfs_bot _ _, ?_⟩
    refine ⟨pc, dc, _, rfl, ec, .inl ⟨pb, db, _, rfl, eb⟩, pc, pb, c, b, rfl, hc1, hb1, lc, lb, bc, bb, fun q2 r2 H2 t2 c2 po2 s2 => ?_⟩
    have po1 := po1.same s2
    obtain ⟨d1, u1, e1, u1'⟩ := id po1
    obtain ⟨d2, u2, e2, u2'⟩ := id po2
    have l1 : r1.length ≤ 1000 := Nat.le_trans (len_le t1 fun k hk => by rw [c1]; exact S_out hk) (by omega)
    have l2 : r2.length ≤ 1000 := Nat.le_trans (len_le t2 fun k hk => by rw [c2]; exact S_out hk) (by omega)
    refine ⟨q1, d1, _, _, rfl, e1, T.own.ty e2, T.own.sf, q1, q2, r1, r2, rfl, po1, l1, po2, l2, ?_⟩
    refine k _ H2 (s1.trans s2) ⟨fun z j => ?_, fun z => decide_eq_true (tight_eq t1 t2 fun j => ?_)⟩
    · rw [← c1, ← c2, of_decide_eq_true z]
    · rw [c1, c2, z]
end
end My
set_option pp.maxSteps 1500
set_option pp.deepTerms.threshold 8
/-! ### runs and points -/
namespace My
open PySem PySem.Spec PyProof.Rows L2
abbrev s_isint : Stmt := topS 62
theorem sc_isint : FnScope ["thing", "least"] ["thing", "least"] (defScope s_isint) := ⟨rfl, rfl, rfl, by decide +kernel, rfl, by decide +kernel, by decide +kernel⟩
abbrev s_needline : Stmt := topS 64
theorem sc_needline : FnScope ["name", "value"] ["name", "value"] (defScope s_needline) := ⟨rfl, rfl, rfl, by decide +kernel, rfl, by decide +kernel, by decide +kernel⟩
abbrev s_qfor : Stmt := topS 65
theorem sc_qfor : FnScope ["name", "value", "number"] ["name", "value"] (defScope s_qfor) := ⟨rfl, rfl, rfl, by decide +kernel, rfl, by decide +kernel, by decide +kernel⟩
/-- a property that gives a field -/
structure PropAt (P : Program) (w : World) (K : PySem.W.Frag) (mg : Str → Option Value) (base : Heap) (C : Addr) (x f : Str) : Prop where
  ex : ∃ p g fd, PropOf K C x p g ∧ FnOk P w K mg base CX0 1 g fd ["self"] (getSp C f) ∧ L2.Binds K fd ["self"] []
theorem pe_pr {X : Cx} {C : Addr} {x f : Str} {E : XK} {e : Expr} {pos : Pos} {ta : TE} (M : PropAt X.prog X.w X.K X.mg X.base C x f) (c : Cls X.K C) (hr : Room 2 X.A) (hx : Passes CX0 X.nox E) (he : PE X e ta)
    (hab : attributeBase e x X.env (eval e X.env) = eval e X.env) : PE X (.Attribute e x pos) (tProp C (getSp C f) [] E ta) := by
  obtain ⟨p, g, fd, hp, F, hb⟩ := M.ex
  exact pe_prop he c hp F hr hb .nil hx hab
/-- what the top has written of all of these -/
structure NTx (P : Program) (K : PySem.W.Frag) (mg : Str → Option Value) (Cs : List Addr) (CL CR CP CQo CN CT CB fB : Addr) : Prop extends QTx K mg Cs CP CQo where
  tl : LTx K mg CL
  tr : RTx K mg Cs CR
  innL : CL ∈ Cs
  innN : CN ∈ Cs
  innT : CT ∈ Cs
  nd : [CL, CR, CP, CQo, CN, CT].Nodup
  clN : Cls K CN
  clT : Cls K CT
  noN : ∀ x ∈ (["base", "grow", "own_sign", "shift", "first", "last"] : List Str), NoAttr K CN x
  noT : ∀ x ∈ (["source", "place", "share"] : List Str), NoAttr K CT x
  gL : mg "Line" = some (.ref CL)
  gR : mg "Ratio" = some (.ref CR)
  gN : mg "Run" = some (.ref CN)
  gT : mg "Point" = some (.ref CT)
  e_BadTable : Sup.Err1 P K mg "BadTable" "part" CB fB
  hmL : PySem.W.mroIn K CL (.type "object") = some true
  neL : PySem.W.findIn K (.ref CL) "__ne__" = some (some (.builtin "object.__ne__"))
def notIns (C : Addr) (H : Hp) (v : V) : Prop := ∀ a dx fs, v = .ref a → H a ≠ some (.ins C dx fs)
theorem notIns.same0 {C : Addr} {H H' : Hp} {v : V} {Cs : List Addr} (h : notIns C H v) (a : AnyF Cs H v) (s : Same H H') : notIns C H' v := by
  intro p dx fs e e2
  rcases a with ⟨t, a⟩ | ⟨D, hD, q, dy, gs, rfl, g⟩
  · subst e
    cases a with
    | lst g => rw [s _ _ g] at e2; cases e2
    | tup g => rw [s _ _ g] at e2; cases e2
    | dK g => rw [s _ _ g] at e2; cases e2
  · cases e
    rw [s _ _ g] at e2
    cases e2
    exact h _ _ _ rfl g
/-- a number or a quotient, as quotient -/
def NumQ (CR CP CQo : Addr) (H : Hp) (v : V) (x : List Int × List Int) : Prop := (∃ p, v = .ref p ∧ QuoAt CQo CP H p x.1 x.2) ∨ ∃ t d, NumAt CR H v t d ∧ 0 < d ∧ Int.gcd t d = 1 ∧ d.natAbs.log2 < 9000 ∧ x = (trim [t], [d])
def spIntR (Cs : List Addr) : Sp := fun vs H Q _ => ∃ (v : V) (i : Int), vs = [v, .int i] ∧ AnyF Cs H v ∧ (∀ z, v = .int z → Q (.bl (decide (i ≤ z))) H) ∧ (isI v = false → Q (.bl false) H)
def spNeedL (Cs : List Addr) (CL CB : Addr) : Sp := fun vs H Q E => ∃ (nm : Str) (v : V), vs = [.str nm, v] ∧ ((∃ p a b, v = .ref p ∧ LineAt CL H p a b ∧ Q .non H) ∨ (AnyF Cs H v ∧ notIns CL H v ∧ Errs E CB "part" (.str nm) H))
def spQfor (Cs : List Addr) (CR CP CQo CB : Addr) : Sp := fun vs H Q E => ∃ (nm : Str) (v : V), vs = [.str nm, v] ∧ ((∃ x, NumQ CR CP CQo H v x ∧ ∀ q H', QuoAt CQo CP H' q x.1 x.2 → Same H H' → Q (.ref q) H') ∨ (AnyF Cs H v ∧ notIns CQo H v ∧ notIns CR H v ∧ isI v = false ∧ Errs E CB "part" (.str nm) H))
section
variable {P : Program} {w : World} {K : PySem.W.Frag} {mg : Str → Option Value} {base : Heap} {Cs : List Addr} {CL CR CP CQo CN CT CB fB : Addr}
theorem ok_isint {f : Addr} {fd : FuncData} (F : FunD K "is_integer" "is_integer" (defArgs s_isint) (defBody s_isint) (defScope s_isint) [.int 0] [] f fd) (T : BI mg) (fam : Fam K Cs) : FnOk P w K mg base (L2.CX P w) 1 f fd ["thing", "least"] (spIntR Cs) := by
  refine F.ok sc_isint (fun vs H Q E h => ?_) (fun cdv A outer s H vs Q E hr h => ?_)
  · obtain ⟨v, i, rfl, _⟩ := h
    rfl
  · obtain ⟨v, i, rfl, ty, k1, k2⟩ := h
    refine ⟨_, (pss_one (ps_ret (pe_and (pe_callB call_isi (by rfl) T.z_isinstance boot_isinstance (pa_cons (pv 0) (pa_cons (pe_bltn (v := .ty "int") (by rfl) T.z_int boot_int rfl) pa_nil))) (pe_and (pe_not (pe_callB call_isi (by rfl) T.z_isinstance boot_isinstance (pa_cons (pv 0) (pa_cons (pe_bltn (v := .ty "bool") (by rfl) T.z_bool boot_bool rfl) pa_nil)))) (pe_one (pe_cmpR op_ge (pv 0) (pv 1) (nomark _))))))), ?_⟩
    obtain ⟨t, b, tx, e1, e2, e3⟩ := fam.kint ty
    refine ⟨_, rfl, v, _, _, _, b, rfl, .ty _, tx, e1, _, rfl, ?_⟩
    cases b with
    | false => exact iteF (k2 (e3 rfl))
    | true =>
      refine iteT ?_
      obtain ⟨c, e4, e5⟩ := e2 rfl
      refine ⟨_, rfl, v, _, _, _, c, rfl, .ty _, tx, e4, _, rfl, _, rfl, ?_⟩
      cases c with
      | true => exact iteF (k2 e5)
      | false =>
        refine iteT ?_
        obtain ⟨z, rfl⟩ := isI_int e5
        exact ⟨_, rfl, _, rfl, _, _, rfl, rfl, k1 z rfl⟩
theorem ok_needline {f : Addr} {fd : FuncData} (F : Fun K "need_line" "need_line" s_needline f fd) (T : NTx P K mg Cs CL CR CP CQo CN CT CB fB) : FnOk P w K mg base (L2.CX P w) 1 f fd ["name", "value"] (spNeedL Cs CL CB) := by
  refine F.okX sc_needline (fun vs H Q E h => ?_) (fun cdv A outer s H vs Q E hr h => ?_)
  · obtain ⟨nm, v, rfl, _⟩ := h
    rfl
  · obtain ⟨nm, v, rfl, h⟩ := h
    refine ⟨_, (pss_one (ps_if (pt_not (pt_val (pe_callB call_isi (by rfl) T.z_isinstance boot_isinstance (pa_cons (pv 1) (pa_cons (pe_glob (v := .ref CL) (by rfl) T.gL rfl) pa_nil))))) (pss_one (ps_raise1 rfl T.e_BadTable (hr.mono (by decide) : Room 0 _) (takes_of rfl rfl rfl rfl) (pa_cons (pv 0) pa_nil))) pss_nil)), ?_⟩
    rcases h with ⟨p, a, b, rfl, ⟨dx, e⟩, k⟩ | ⟨av, ni, k⟩
    · exact ⟨_, rfl, _, _, _, _, true, rfl, .own _, T.tl.ow.ty e, T.tl.ow.me, _, rfl, iteF k⟩
    · obtain ⟨t, tx, k1, _⟩ := T.fam.isi T.innL av ni
      exact ⟨_, rfl, _, _, _, _, false, rfl, .own _, tx, k1, _, rfl, iteT ⟨_, rfl, _, rfl, fun d hd => k.go hd⟩⟩
theorem ok_qfor {f : Addr} {fd : FuncData} (F : Fun K "quotient_for" "quotient_for" s_qfor f fd) (T : NTx P K mg Cs CL CR CP CQo CN CT CB fB)
    (S_is_number : StatAt P w K mg base CX0 2 CR "is_number" ["thing"] (spIsnum Cs CR)) (S_of : StatAt P w K mg base CX0 5 CR "of" ["number"] (spOf CR)) (M_Poly : MakeR P w K mg base (L2.CX P w) 3 "Poly" CP (spPoly CP))
    (M_Quotient : MakeAt P w K mg base (L2.CX P w) 6 "Quotient" CQo ["self", "top", "bottom"] (spQinit CQo CP) []) : FnOk P w K mg base (L2.CX P w) 8 f fd ["name", "value"] (spQfor Cs CR CP CQo CB) := by
  refine F.okX sc_qfor (fun vs H Q E h => ?_) (fun cdv A outer s H vs Q E hr h => ?_)
  · obtain ⟨nm, v, rfl, _⟩ := h
    rfl
  · obtain ⟨nm, v, rfl, h⟩ := h
    refine ⟨_, (pss_cons (ps_if (pt_val (pe_callB call_isi (by rfl) T.z_isinstance boot_isinstance (pa_cons (pv 1) (pa_cons (pe_glob (v := .ref CQo) (by rfl) T.gQo rfl) pa_nil)))) (pss_one (ps_ret (pv 1))) pss_nil)
      (pss_cons (ps_if (pt_not (pt_val (My.pe_st S_is_number (hr.mono (by decide)) pass0 (pe_glob (v := .ref CR) (by rfl) T.gR rfl) (pa_cons (pv 1) pa_nil)))) (pss_one (ps_raise1 rfl T.e_BadTable (hr.mono (by decide) : Room 0 _) (takes_of rfl rfl rfl rfl) (pa_cons (pv 0) pa_nil))) pss_nil)
      (pss_cons (ps_set (i := 2) sc_qfor.nd rfl (Or.inl rfl) (My.pe_st S_of (hr.mono (by decide)) pass0 (pe_glob (v := .ref CR) (by rfl) T.gR rfl) (pa_cons (pv 1) pa_nil)))
      (pss_one (ps_ret (My.pe_mk M_Quotient (hr.mono (by decide)) (by rfl) passL (pa_cons (My.pe_mkR M_Poly (hr.mono (by decide)) (by rfl) passL (pa_cons (pe_fld (pv 2) rfl) pa_nil)) (pa_cons (My.pe_mkR M_Poly (hr.mono (by decide)) (by rfl) passL (pa_cons (pe_fld (pv 2) rfl) pa_nil)) pa_nil)))))))), ?_⟩
    rcases h with ⟨x, ⟨p, rfl, hq⟩ | ⟨t, d, hn, d0, hg, hl, rfl⟩, k⟩ | ⟨av, ni, nr, nn, k⟩
    · obtain ⟨dx, q, r, e, _, _⟩ := id hq
      exact ⟨_, rfl, _, _, _, _, true, rfl, .own _, T.ownQ.ty e, T.ownQ.me, _, rfl, iteT ⟨_, rfl, k p H hq fun _ _ e => e⟩⟩
    · have av : AnyF Cs H v ∧ notIns CQo H v := by
        rcases hn with ⟨p, rfl, dx, e⟩ | ⟨rfl, _⟩
        · refine ⟨.inr ⟨CR, T.tr.inn, p, dx, _, rfl, e⟩, fun a dy fs z z2 => ?_⟩
          cases z
          rw [e] at z2
          have ne : CR ≠ CQo := fun y => by
            have := T.nd
            rw [y] at this
            simp at this
          cases z2
          exact ne rfl
        · exact ⟨AnyF.int Cs H t, fun _ _ _ z => nomatch z⟩
      obtain ⟨tt, tx, k1, _⟩ := T.fam.isi T.innQ av.1 av.2
      refine ⟨_, rfl, _, _, _, _, false, rfl, .own _, tx, k1, _, rfl, iteF ?_⟩
      refine ⟨rfl, _, rfl, v, rfl, ?_⟩
      have hn' := hn
      rcases hn' with ⟨p', e', l'⟩ | ⟨e', _⟩
      · refine .inl ⟨p', t, d, e', l', ?_⟩
        refine ⟨_, rfl, iteF ?_⟩
        have d0' : d ≠ 0 := by omega
        refine ⟨rfl, _, rfl, v, t, d, rfl, hn, d0', hl, fun q H1 l1 s1 => ?_⟩
        obtain ⟨y1, y2⟩ := low_self d0 hg
        rw [y1, y2] at l1
        obtain ⟨dx, e1⟩ := id l1
        refine ⟨_, rfl, q, CR, dx, _, _, rfl, e1, T.tr.cl, T.tr.nT, rfs_top _ _, ?_⟩
        refine poly_ints [t] (by show 1 ≤ 1000; decide) fun p1 H2 po1 s2 => ?_
        have e2 := s2 _ _ e1
        refine ⟨_, rfl, q, CR, dx, _, _, rfl, e2, T.tr.cl, T.tr.nB, rfs_bot _ _, ?_⟩
        refine poly_ints [d] (by show 1 ≤ 1000; decide) fun p2 H3 po2 s3 => ?_
        have ed : trim [d] = [d] := trim_is (fun j hj => by
          have : j = 0 := by
            have : 1 = j + 1 := hj
            omega
          subst this
          exact d0') (fun _ => rfl)
        rw [ed] at po2
        intro x dx3 hx hd ne
        exact qinit_at (.inl ⟨p1, rfl, po1.same s3⟩) (.inl ⟨p2, rfl, po2⟩) (by simp) hx hd ne fun H4 l4 s4 => k x H4 l4 (((s1.trans s2).trans s3).trans s4)
      · refine .inr ⟨av.1, (fun _ _ _ z => by rw [e'] at z; cases z), ?_⟩
        have ei : isI v = true := by
          rw [e']
          rfl
        rw [ei]
        refine ⟨_, rfl, iteF ?_⟩
        have d0' : d ≠ 0 := by omega
        refine ⟨rfl, _, rfl, v, t, d, rfl, hn, d0', hl, fun q H1 l1 s1 => ?_⟩
        obtain ⟨y1, y2⟩ := low_self d0 hg
        rw [y1, y2] at l1
        obtain ⟨dx, e1⟩ := id l1
        refine ⟨_, rfl, q, CR, dx, _, _, rfl, e1, T.tr.cl, T.tr.nT, rfs_top _ _, ?_⟩
        refine poly_ints [t] (by show 1 ≤ 1000; decide) fun p1 H2 po1 s2 => ?_
        have e2 := s2 _ _ e1
        refine ⟨_, rfl, q, CR, dx, _, _, rfl, e2, T.tr.cl, T.tr.nB, rfs_bot _ _, ?_⟩
        refine poly_ints [d] (by show 1 ≤ 1000; decide) fun p2 H3 po2 s3 => ?_
        have ed : trim [d] = [d] := trim_is (fun j hj => by
          have : j = 0 := by
            have : 1 = j + 1 := hj
            omega
          subst this
          exact d0') (fun _ => rfl)
        rw [ed] at po2
        intro x dx3 hx hd ne
        exact qinit_at (.inl ⟨p1, rfl, po1.same s3⟩) (.inl ⟨p2, rfl, po2⟩) (by simp) hx hd ne fun H4 l4 s4 => k x H4 l4 (((s1.trans s2).trans s3).trans s4)
    · obtain ⟨tt, tx, k1, _⟩ := T.fam.isi T.innQ av ni
      refine ⟨_, rfl, _, _, _, _, false, rfl, .own _, tx, k1, _, rfl, iteF ?_⟩
      refine ⟨rfl, _, rfl, v, rfl, .inr ⟨av, nr, _, rfl, ?_⟩⟩
      rw [nn]
      exact iteT ⟨_, rfl, _, rfl, fun d hd => k.go hd⟩
end
end My
/-! For the end: defs under another name, properties, classes without defaults, the family of six. -/
namespace My
open PySem PySem.Spec PyProof.Rows L2
/-- the module has the def under the name x -/
structure HasN (K : PySem.W.Frag) (mg : Str → Option Value) (x y : Str) (st : Stmt) : Prop where
  ex : ∃ f fd, mg x = some (.ref f) ∧ Fun K y y st f fd
structure HasND (K : PySem.W.Frag) (mg : Str → Option Value) (x y : Str) (st : Stmt) (dvs : List V) : Prop where
  ex : ∃ f fd, mg x = some (.ref f) ∧ FunD K y y (defArgs st) (defBody st) (defScope st) dvs [] f fd ∧ PySem.W.keepIn K (.ref f) = true
/-- the class has the property -/
structure HasP (K : PySem.W.Frag) (C : Addr) (x qual : Str) (st : Stmt) : Prop where
  ex : ∃ p g fd, PropOf K C x p g ∧ Fun K x qual st g fd
section
variable {P : Program} {w : World} {K : PySem.W.Frag} {mg : Str → Option Value} {base : Heap} {CX : CXT} {k : Nat} {x y m qual : Str} {st : Stmt} {ps ks : List Str} {sp : Sp} {C : Addr} {dvs : List V}
theorem defN_at (A : HasN K mg x y st) (ok : ∀ f fd, Fun K y y st f fd → FnOk P w K mg base CX k f fd ps sp) (b : BindW y y st ps) : DefAt P w K mg base CX k x ps sp := by
  obtain ⟨f, fd, h1, F⟩ := A.ex
  exact ⟨f, fd, ok f fd F, h1, F.kp, F.binds b⟩
theorem defND_at (A : HasND K mg x y st dvs) (ok : ∀ f fd, FunD K y y (defArgs st) (defBody st) (defScope st) dvs [] f fd → FnOk P w K mg base CX k f fd ps sp) (hd : dvs ≠ [])
    (b : ∀ (T : Addr) (kV doc pm : Value) (an : Option Addr) (cdv ct : Value) (us its : List Value), us.length = ps.length → its.length = dvs.length →
      ∃ k, bindArgs (PySem.W.fnOf y y (defArgs st) (defBody st) (defScope st) (.ref T) kV doc pm an cdv ct) ⟨us, []⟩ = seqItems? (.ref T) >>= k ∧ k (some its.toArray) = pure (ps.zip (us ++ its.drop dvs.length))) : DefAt P w K mg base CX k x ps sp := by
  obtain ⟨f, fd, h1, F, kp⟩ := A.ex
  obtain ⟨ds, r, bs⟩ := F.binds1 ps.length dvs.length hd (by omega) b
  rw [List.drop_length] at r
  cases r
  exact ⟨f, fd, ok f fd F, h1, kp, bs⟩
theorem make_m (A : HasM K C "__init__" qual st) (hx : mg x = some (.ref C)) (mk : PySem.W.makesIn K C = true) (kp : PySem.W.keepIn K (.ref C) = true) (ok : ∀ f fd, Fun K "__init__" qual st f fd → FnOk P w K mg base CX k f fd ps sp) (b : BindW "__init__" qual st ps) : MakeAt P w K mg base CX k x C ps sp [] := by
  obtain ⟨f, fd, h1, h2, F⟩ := A.ex
  exact ⟨f, fd, [], ⟨mk, h1, h2, kp⟩, ok f fd F, hx, F.binds b, .nil⟩
theorem makeK_m (A : HasM K C "__init__" qual st) (hx : mg x = some (.ref C)) (mk : PySem.W.makesIn K C = true) (kp : PySem.W.keepIn K (.ref C) = true) (ok : ∀ f fd, Fun K "__init__" qual st f fd → FnOk P w K mg base CX k f fd ps sp)
    (b : ∀ (kV doc pm : Value) (an : Option Addr) (cdv ct : Value) (us ws : List Value), us.length = 1 → ws.length = ks.length → bindArgs (PySem.W.fnOf "__init__" qual (defArgs st) (defBody st) (defScope st) .none kV doc pm an cdv ct) ⟨us, ks.zip ws⟩ = pure (ps.zip (us ++ ws.reverse))) : MakeK P w K mg base CX k x C ps ks sp gSw := by
  obtain ⟨f, fd, h1, h2, F⟩ := A.ex
  obtain ⟨oc, od, kV, doc, pm, an, cdv, ct, osl, rfl, lk, _⟩ := id F.ex
  exact ⟨f, _, fun us ws => us ++ ws.reverse, ⟨mk, h1, h2, kp⟩, ok f _ F, hx, ⟨fun s us ws _ l1 l2 => .of_eq (b kV doc pm an cdv ct us ws l1 l2), sw_rel⟩⟩
theorem prop_at {f : Str} {N : List Str} {p1 p2 p3 : Pos} (A : HasP K C x qual st) (S : FnScope N ["self"] (defScope st)) (hN : N[0]? = some ("self" : Str)) (hb : defBody st = [.Return (some (.Attribute (.Name "self" p1) f p2)) p3]) (c : Cls K C) (n : NoAttr K C f) (b : BindW x qual st ["self"]) : PropAt P w K mg base C x f := by
  obtain ⟨p, g, fd, h1, F⟩ := A.ex
  have F' := F
  obtain ⟨oc, od, kV, doc, pm, an, cdv, ct, osl, rfl, lk, hcd⟩ := F.ex
  exact ⟨p, g, _, h1, fn_getter lk hcd S hN hb c n, F'.binds b⟩
end
theorem fam6 {K : PySem.W.Frag} {a b c d e f : Addr} (oa : Own K a) (ob : Own K b) (oc : Own K c) (od : Own K d) (oe : Own K e) (of : Own K f)
    (x : ∀ C ∈ [a, b, c, d, e, f], ∀ D ∈ [a, b, c, d, e, f], C = D ∨ (PySem.W.kitOne K (.ref C) (.ref D) = some false ∧ PySem.W.notFirst K D (.ref C) = true)) : Fam K [a, b, c, d, e, f] := by
  refine ⟨fun C hC => ?_, fun C hC D hD ne => (x C hC D hD).resolve_left ne⟩
  simp only [List.mem_cons, List.mem_nil_iff, or_false] at hC
  rcases hC with rfl | rfl | rfl | rfl | rfl | rfl <;> assumption
theorem six {P : Addr → Prop} {a b c d e f : Addr} (ha : P a) (hb : P b) (hc : P c) (hd : P d) (he : P e) (hf : P f) : ∀ C ∈ [a, b, c, d, e, f], P C := fun C hC => by
  simp only [List.mem_cons, List.mem_nil_iff, or_false] at hC
  rcases hC with rfl | rfl | rfl | rfl | rfl | rfl <;> assumption
theorem three {P : Str → Prop} {a b c : Str} (ha : P a) (hb : P b) (hc : P c) : ∀ x ∈ [a, b, c], P x := fun x hx => by
  simp only [List.mem_cons, List.mem_nil_iff, or_false] at hx
  rcases hx with rfl | rfl | rfl <;> assumption
theorem sixS {P : Str → Prop} {a b c d e f : Str} (ha : P a) (hb : P b) (hc : P c) (hd : P d) (he : P e) (hf : P f) : ∀ x ∈ [a, b, c, d, e, f], P x := fun x hx => by
  simp only [List.mem_cons, List.mem_nil_iff, or_false] at hx
  rcases hx with rfl | rfl | rfl | rfl | rfl | rfl <;> assumption
section
open He
variable {K : PySem.W.Frag} {h : Heap} {mg : Str → Option Value}
theorem hasPM {C : Addr} {x qual : Str} {st : Stmt} (e : fv K (pAt K C x) = some (x, qual, defArgs st, .stmts (defBody st), defScope st)) (c : (propB K C x && fdB K (pAt K C x) qual []) = true) : HasP K C x qual st := by
  obtain ⟨c1, c2⟩ := ba c
  obtain ⟨fd, F⟩ := funM e c2
  exact ⟨_, _, fd, propB_ok c1, F⟩
theorem hasNM (X : K.In h) (G : h.Ns mainGlobals mg) {x y : Str} {st : Stmt} (e : fv K (ga K x) = some (y, y, defArgs st, .stmts (defBody st), defScope st)) (c : ((Fa.glo x).ok K && fdB K (ga K x) y []) = true) : HasN K mg x y st := by
  obtain ⟨c1, c2⟩ := ba c
  obtain ⟨fd, F⟩ := funM e c2
  exact ⟨_, fd, glo_ok X G c1, F⟩
theorem hasNDM (X : K.In h) (G : h.Ns mainGlobals mg) {x y : Str} {st : Stmt} {dvs : List V} (e : fv K (ga K x) = some (y, y, defArgs st, .stmts (defBody st), defScope st)) (c : ((Fa.glo x).ok K && fdB K (ga K x) y dvs) = true) : HasND K mg x y st dvs := by
  obtain ⟨c1, c2⟩ := ba c
  obtain ⟨fd, F⟩ := funDM e c2
  exact ⟨_, fd, glo_ok X G c1, F, F.kp⟩
end
end My
/-! try with several except clauses, some of them «as n». -/
namespace My
open PySem PySem.Spec PyProof.Rows L2
/-- one clause: its class, what its suite is read as, the slot of its name -/
structure Cls1 where
  c : Value
  i : Option Nat
  ts : Addr → Value → Option Addr → TS
def behind (i : Option Nat) (D : Ends) : Ends := match i with
  | none => D
  | some i => { nx := fun σ H => D.nx (σ.set i none) H, rt := D.rt, bk := fun σ H => D.bk (σ.set i none) H, ct := fun σ H => D.ct (σ.set i none) H }
def within (i : Option Nat) (a : Addr) (σ : L2.St) : L2.St := match i with
  | none => σ
  | some i => σ.set i (some (.ref a))
/-- what the clauses wish of an error of the body -/
def wMix (K : PySem.W.Frag) (n : Nat) (Wout : WX) (D : Ends) : List Cls1 → WX
  | [] => Wout
  | q :: r => fun cls d σ H => ∃ b, PySem.W.exmOne K cls q.c = some b ∧ (b = true → ∀ a, H a = none → σ.length = n → q.ts a cls d (behind q.i D) (within q.i a σ) H) ∧ (b = false → wMix K n Wout D r cls d σ H)
inductive Mixed (X : Cx) : List ExceptHandler → List Cls1 → Prop
  | nil : Mixed X [] []
  | bare {x : Str} {c : Value} {ts : Addr → Value → Option Addr → TS} {st : Stmt} {suite : List Stmt} {np pos : Pos} {hds : List ExceptHandler} {l : List Cls1} (hc : Names X x c)
      (hsu : ∀ (a : Addr) (oe : Obj) (cls : Value) (d : Option Addr) (pn : List (Addr × Obj)), Zc cls d oe → (∃ vs, oe.data = .fields vs) → PSs (X.suite a ((a, oe) :: pn)) (st :: suite) (ts a cls d)) (r : Mixed X hds l) :
      Mixed X (.ExceptHandler (some (.Name x np)) none (st :: suite) pos :: hds) (⟨c, none, ts⟩ :: l)
  | named {x n : Str} {c : Value} {i : Nat} {ts : Addr → Value → Option Addr → TS} {st : Stmt} {suite : List Stmt} {np pos : Pos} {hds : List ExceptHandler} {l : List Cls1} (hc : Names X x c) (hi : X.N[i]? = some n) (hl : X.env.kindOf n = some .local)
      (hsu : ∀ (a : Addr) (oe : Obj) (cls : Value) (d : Option Addr) (pn : List (Addr × Obj)), Zc cls d oe → (∃ vs, oe.data = .fields vs) → PSs (X.suite a ((a, oe) :: pn)) (st :: suite) (ts a cls d)) (r : Mixed X hds l) :
      Mixed X (.ExceptHandler (some (.Name x np)) (some n) (st :: suite) pos :: hds) (⟨c, some i, ts⟩ :: l)
section
variable {X : Cx} {body : List Stmt} {hd1 : ExceptHandler} {hds : List ExceptHandler} {l : List Cls1} {pos : Pos} {tb : WX → TS} {Wout : WX}
theorem ps_try_mix (hs : X.stack = X.env :: X.outer) (hf : X.env.frame = some X.env.locals) (hN : X.N.Nodup) (tk : Takes X Wout)
    (hb : ∀ (W : WX) (pn : List (Addr × Obj)) (xe : Value → Shared → Prop), Takes (X.tr pn xe) W → PassesOwn (model X.prog X.w) X.A X.env xe → PSs (X.tr pn xe) body (tb W)) (hh : Mixed X (hd1 :: hds) l) :
    PS X (.Try body (hd1 :: hds) [] [] pos) (fun D σ H => tb (wMix X.K X.N.length Wout D l) D σ H) := by
  refine ⟨fun pins s σ H D I h => ?_⟩
  have ok := I.ok
  have hfr : X.A.frames = some (X.env :: X.outer) := by rw [ok.frames, hs]
  refine wpAny_Try_except ?_
  refine wpAny_mono ((hb (wMix X.K X.N.length Wout D l) (X.pn ++ pins) (fun e t1 => wpAny (model X.prog X.w) X.A (noteFrame e X.env) (fun _ t2 => wpAny (model X.prog X.w) X.A (setFlight e none) (fun _ t3 =>
    wpAny (model X.prog X.w) X.A (handleBy e X.env (hd1 :: hds)) (SP X pins D) X.xe t3) X.xe t2) X.xe t1) (fun u s' xx => ?_) PassesOwn.looking).run [] s σ H D (I.toTry _) h) (fun fl t1 hsp => ?_) (fun _ _ he => he)
  · obtain ⟨a, B, sI, pins', σ1, H1, cls, d, rfl, J0, nb, up, sky, na, os, ag, wish⟩ := xx
    have J : Inv X pins σ1 H1 sI := J0.ofTry ok
    have sky1 : Sky B (X.env :: X.outer) a (Zc cls d) X.env.locals s'.heap := by rw [← hs]; exact sky
    show wpAny (model X.prog X.w) X.A (noteFrame (.ref a) X.env) _ _ _
    refine Sky.land Zc.steady hfr hf sky1 fun h3 fl3 up3 => ?_
    have J3 : Inv X pins σ1 H1 { s' with heap := h3 } := J.landed nb fl3.1 (up.trans up3) os ag
    obtain ⟨oe3, vs3, he3, hz3, hd3⟩ := fl3.there
    have nfr : a ∉ frs (X.env :: X.outer) := fun hm => by
      obtain ⟨_, o', e', hnf⟩ := fl3.2.2.1.mem hm
      rw [he3] at e'
      cases e'
      exact hnf _ hd3
    have nL : a ≠ X.env.locals := fun z => nfr (List.mem_filterMap.mpr ⟨X.env, List.mem_cons_self, by rw [hf, z]⟩)
    have nF : a ∉ X.fs := fun hm => by
      obtain ⟨e1, he1, q1⟩ := List.mem_filterMap.mp hm
      exact nfr (List.mem_filterMap.mpr ⟨e1, List.mem_cons_of_mem _ he1, q1⟩)
    have S3 := J3.suite he3 hd3 na nL nF
    have LT : PySem.W.Looks (model X.prog X.w) h3 (typeOf (.ref a)) cls := fun A Q E s k q => wpAny_typeOf_ref (k _ _ he3) (by rw [hz3.1]; exact q)
    have test : ∀ {x : Str} {c : Value} {np : Pos} {Q : Value → Shared → Prop} {E : Value → Shared → Prop}, Names X x c → Q c { s' with heap := h3 } → wpAny (model X.prog X.w) (X.A.mark (some (.ref a))) (eval (.Name x np) X.env) Q E { s' with heap := h3 } := fun {x c np Q E} hc q => by
      obtain ⟨hg, hdbg, hm | ⟨hm, hv, hnn⟩⟩ := hc
      · exact ld_glob (X := X.suite a ((a, oe3) :: (X.pn ++ pins))) S3 hg hm q hdbg
      · exact ld_blt (X := X.suite a ((a, oe3) :: (X.pn ++ pins))) S3 hg hm hv q hnn hdbg
    have all : ∀ {hs' : List ExceptHandler} {l' : List Cls1}, Mixed X hs' l' → wMix X.K X.N.length Wout D l' cls d σ1 H1 → wpAny (model X.prog X.w) X.A (handleBy (.ref a) X.env hs') (SP X pins D) X.xe { s' with heap := h3 } := by
      intro hs' l' M
      induction M with
      | nil =>
        intro wq
        refine wpAny_handleBy_nil ?_
        obtain ⟨w1, w2, w3, oe, vs, T, oT, ts', he, hz, hdd, h1, hr⟩ := id fl3
        unfold PySem.passOn
        refine wpAny_bind (wpAny_field he hdd h1 ?_)
        rw [if_neg (show ¬ ((Value.ref T == Value.none) = true) from by simp)]
        have fin : wpAny (model X.prog X.w) X.A (setFlight (.ref a) X.env.frame) (fun _ t4 => wpAny (model X.prog X.w) X.A (throw (.ref a) : Sem Flow) (SP X pins D) X.xe t4) X.xe { s' with heap := h3 } := by
          rw [hf]
          refine HandSPX.setFlight_upZ fl3 fun h4 hh4 up4 => wpAny_throw (tk _ _ ?_)
          exact ⟨a, B, sI, pins, σ1, H1, cls, d, rfl, J, nb, (up.trans up3).trans up4, .inr (.inr (by rw [hs]; exact hh4)), na, os, ag, wq⟩
        first
          | exact wpAny_bind (wpAny_pure (wpAny_bind fin))
          | exact wpAny_bind fin
      | @bare x c ts st suite np pos' hds2 l2 hc hsu r ih =>
        rintro ⟨b, hb1, hyes, hno⟩
        refine wpAny_handleBy_cons (codeAny_handlers_test ?_) (by intro q; cases q)
        refine test hc ((PySem.W.exm_one (M := model X.prog X.w) (J3.kIn) LT hb1).here ?_)
        cases b with
        | true =>
          refine codeAny_handlers_suite (HandSPX.lands_againZ fl3 fun h4 fl4 up4 => ?_)
          have J4 : Inv X pins σ1 H1 { s' with heap := h4 } := J.landed nb fl4.1 ((up.trans up3).trans up4) os ag
          obtain ⟨oe4, vs4, he4, hz4, hd4⟩ := fl4.there
          have S4 := J4.suite he4 hd4 na nL nF
          refine wpAny_mono ((hsu a oe4 cls d (X.pn ++ pins) hz4 ⟨_, hd4⟩).run [] _ _ H1 _ S4 (hyes rfl a na J.len)) (fun fl t6 hsp => ?_) (fun _ _ z => False.elim z)
          cases fl with
          | next => obtain ⟨σ6, H6, S6, q6⟩ := hsp; exact ⟨_, _, S6.unsuite ok, q6⟩
          | brk => obtain ⟨σ6, H6, S6, q6⟩ := hsp; exact ⟨_, _, S6.unsuite ok, q6⟩
          | cont => obtain ⟨σ6, H6, S6, q6⟩ := hsp; exact ⟨_, _, S6.unsuite ok, q6⟩
          | ret u => obtain ⟨v6, σ6, H6, S6, r6, q6⟩ := hsp; exact ⟨_, _, _, S6.unsuite ok, r6, q6⟩
        | false =>
          show wpAny _ X.A (handleBy (.ref a) X.env hds2) _ _ _
          exact ih (hno rfl)
      | @named x n c i ts st suite np pos' hds2 l2 hc hi hln hsu r ih =>
        rintro ⟨b, hb1, hyes, hno⟩
        refine wpAny_handleBy_cons (codeAny_handlers_test ?_) (by intro q; cases q)
        refine test hc ((PySem.W.exm_one (M := model X.prog X.w) (J3.kIn) LT hb1).here ?_)
        cases b with
        | true =>
          refine codeAny_handlers_suite_as (HandSPX.lands_againZ fl3 fun h4 fl4 up4 => ?_)
          have J4 : Inv X pins σ1 H1 { s' with heap := h4 } := J.landed nb fl4.1 ((up.trans up3).trans up4) os ag
          obtain ⟨oe4, vs4, he4, hz4, hd4⟩ := fl4.there
          have S4 := J4.suite he4 hd4 na nL nF
          refine store_ok (X := X.suite a ((a, oe4) :: (X.pn ++ pins))) (v := .ref a) S4 hN hi (.inl hln) rfl (fun s5 S5 => ?_) (.inr hln)
          refine wpAny_mono ((hsu a oe4 cls d (X.pn ++ pins) hz4 ⟨_, hd4⟩).run [] s5 _ H1 _ S5 (hyes rfl a na J.len)) (fun fl t6 hsp => ?_) (fun _ _ z => False.elim z)
          have off : ∀ {σ6 : L2.St} {H6 : Hp} {Q : Shared → Prop}, Inv (X.suite a ((a, oe4) :: (X.pn ++ pins))) [] σ6 H6 t6 → (∀ t7, Inv X pins (σ6.set i none) H6 t7 → Q t7) →
              wpAny (model X.prog X.w) X.A (do bindName X.env n .none; unbindBehindTheSuite X.env n pos') (fun _ t7 => Q t7) X.xe t6 := fun {σ6 H6 Q} S6 hq => gone_ok (S6.unsuite ok) hN hi hln hq
          cases fl with
          | next => obtain ⟨σ6, H6, S6, q6⟩ := hsp; exact off S6 fun t7 J7 => ⟨_, _, J7, q6⟩
          | brk => obtain ⟨σ6, H6, S6, q6⟩ := hsp; exact off S6 fun t7 J7 => ⟨_, _, J7, q6⟩
          | cont => obtain ⟨σ6, H6, S6, q6⟩ := hsp; exact off S6 fun t7 J7 => ⟨_, _, J7, q6⟩
          | ret u => obtain ⟨v6, σ6, H6, S6, r6, q6⟩ := hsp; exact off S6 fun t7 J7 => ⟨_, _, _, J7, r6, q6⟩
        | false =>
          show wpAny _ X.A (handleBy (.ref a) X.env hds2) _ _ _
          exact ih (hno rfl)
    exact all hh wish
  · cases fl with
    | next => obtain ⟨σ', H', J', q⟩ := hsp; exact wpAny_execs_nil ⟨σ', H', J'.ofTry ok, q⟩
    | brk => obtain ⟨σ', H', J', q⟩ := hsp; exact ⟨σ', H', J'.ofTry ok, q⟩
    | cont => obtain ⟨σ', H', J', q⟩ := hsp; exact ⟨σ', H', J'.ofTry ok, q⟩
    | ret u => obtain ⟨v, σ', H', J', r, q⟩ := hsp; exact ⟨v, σ', H', J'.ofTry ok, r, q⟩
end
end My
set_option pp.maxSteps 1500
set_option pp.deepTerms.threshold 8
/-! ### runs and points made -/
namespace My
open PySem PySem.Spec PyProof.Rows L2
abbrev s_ninit : Stmt := inClass (topS 66) 0
theorem sc_ninit : FnScope ["self", "sign", "shift", "first", "last", "base", "grow"] ["self", "sign", "shift", "first", "last", "base", "grow"] (defScope s_ninit) := ⟨rfl, rfl, rfl, by decide +kernel, rfl, by decide +kernel, by decide +kernel⟩
abbrev s_neq : Stmt := inClass (topS 66) 10
theorem sc_neq : FnScope ["self", "other"] ["self", "other"] (defScope s_neq) := ⟨rfl, rfl, rfl, by decide +kernel, rfl, by decide +kernel, by decide +kernel⟩
abbrev s_tinit : Stmt := inClass (topS 67) 0
theorem sc_tinit : FnScope ["self", "source", "place", "share"] ["self", "source", "place", "share"] (defScope s_tinit) := ⟨rfl, rfl, rfl, by decide +kernel, rfl, by decide +kernel, by decide +kernel⟩
abbrev s_teq : Stmt := inClass (topS 67) 7
theorem sc_teq : FnScope ["self", "other"] ["self", "other"] (defScope s_teq) := ⟨rfl, rfl, rfl, by decide +kernel, rfl, by decide +kernel, by decide +kernel⟩
/-- the parts of a run -/
structure RV where
  z : Int
  s : Int × Int
  f : Int × Int
  l : Int × Int
  b : List Int × List Int
  g : List Int × List Int
def nfs (z : Int) (ps pf pl qb qg : Addr) : List (Str × V) := putF "last" (.ref pl) (putF "first" (.ref pf) (putF "shift" (.ref ps) (putF "own_sign" (.int z) (putF "grow" (.ref qg) (putF "base" (.ref qb) [])))))
def tfs (ps pp q : Addr) : List (Str × V) := putF "share" (.ref q) (putF "place" (.ref pp) (putF "source" (.ref ps) []))
theorem nfs_all (z : Int) (ps pf pl qb qg : Addr) : (nfs z ps pf pl qb qg).lookup ("base" : Str) = some (.ref qb) ∧ (nfs z ps pf pl qb qg).lookup ("grow" : Str) = some (.ref qg) ∧ (nfs z ps pf pl qb qg).lookup ("own_sign" : Str) = some (.int z) ∧
    (nfs z ps pf pl qb qg).lookup ("shift" : Str) = some (.ref ps) ∧ (nfs z ps pf pl qb qg).lookup ("first" : Str) = some (.ref pf) ∧ (nfs z ps pf pl qb qg).lookup ("last" : Str) = some (.ref pl) := by
  have n : ∀ {a b : Str}, ¬ a = b → ∀ {v : V} {fs : List (Str × V)}, (putF b v fs).lookup a = fs.lookup a := by
    intro a b h v fs
    rw [lookup_putF, if_neg h]
  have y : ∀ {a : Str} {v : V} {fs : List (Str × V)}, (putF a v fs).lookup a = some v := by
    intros
    rw [lookup_putF, if_pos rfl]
  unfold nfs
  refine ⟨?_, ?_, ?_, ?_, ?_, ?_⟩
  · rw [n (by decide +kernel), n (by decide +kernel), n (by decide +kernel), n (by decide +kernel), n (by decide +kernel), y]
  · rw [n (by decide +kernel), n (by decide +kernel), n (by decide +kernel), n (by decide +kernel), y]
  · rw [n (by decide +kernel), n (by decide +kernel), n (by decide +kernel), y]
  · rw [n (by decide +kernel), n (by decide +kernel), y]
  · rw [n (by decide +kernel), y]
  · exact y
theorem tfs_all (ps pp q : Addr) : (tfs ps pp q).lookup ("source" : Str) = some (.ref ps) ∧ (tfs ps pp q).lookup ("place" : Str) = some (.ref pp) ∧ (tfs ps pp q).lookup ("share" : Str) = some (.ref q) := by
  have n : ∀ {a b : Str}, ¬ a = b → ∀ {v : V} {fs : List (Str × V)}, (putF b v fs).lookup a = fs.lookup a := by
    intro a b h v fs
    rw [lookup_putF, if_neg h]
  have y : ∀ {a : Str} {v : V} {fs : List (Str × V)}, (putF a v fs).lookup a = some v := by
    intros
    rw [lookup_putF, if_pos rfl]
  unfold tfs
  refine ⟨?_, ?_, ?_⟩
  · rw [n (by decide +kernel), n (by decide +kernel), y]
  · rw [n (by decide +kernel), y]
  · exact y
/-- at p: a run, its parts at these places -/
def RunAt (CL CP CQo CN : Addr) (H : Hp) (p : Addr) (r : RV) (ps pf pl qb qg : Addr) : Prop := (∃ dx, H p = some (.ins CN dx (nfs r.z ps pf pl qb qg))) ∧ LineAt CL H ps r.s.1 r.s.2 ∧ LineAt CL H pf r.f.1 r.f.2 ∧ LineAt CL H pl r.l.1 r.l.2 ∧ QuoAt CQo CP H qb r.b.1 r.b.2 ∧ QuoAt CQo CP H qg r.g.1 r.g.2
theorem RunAt.same {CL CP CQo CN : Addr} {H H' : Hp} {p ps pf pl qb qg : Addr} {r : RV} (h : RunAt CL CP CQo CN H p r ps pf pl qb qg) (k : Same H H') : RunAt CL CP CQo CN H' p r ps pf pl qb qg := by
  obtain ⟨⟨dx, e⟩, a, b, c, d, e'⟩ := h
  exact ⟨⟨dx, k _ _ e⟩, a.same k, b.same k, c.same k, d.same k, e'.same k⟩
/-- how a value stands as a sign, a line, a number -/
def KS (Cs : List Addr) (H : Hp) (v : V) : Option Int → Prop
  | some z => v = .int z ∧ (z = 1 ∨ z = -1)
  | none => AnyF Cs H v ∧ ∀ z, v = .int z → 1 < z
def KL (Cs : List Addr) (CL : Addr) (H : Hp) (v : V) : Option (Addr × Int × Int) → Prop
  | some (p, a, b) => v = .ref p ∧ LineAt CL H p a b
  | none => AnyF Cs H v ∧ notIns CL H v
def KN (Cs : List Addr) (CR CP CQo : Addr) (H : Hp) (v : V) : Option (List Int × List Int) → Prop
  | some x => NumQ CR CP CQo H v x
  | none => AnyF Cs H v ∧ notIns CQo H v ∧ notIns CR H v ∧ isI v = false
theorem NumQ.same {CR CP CQo : Addr} {H H' : Hp} {v : V} {x : List Int × List Int} (h : NumQ CR CP CQo H v x) (s : Same H H') : NumQ CR CP CQo H' v x := by
  rcases h with ⟨p, e, q⟩ | ⟨t, d, n, h⟩
  · exact .inl ⟨p, e, q.same s⟩
  · exact .inr ⟨t, d, n.same s, h⟩
theorem KL.same {Cs : List Addr} {CL : Addr} {H H' : Hp} {v : V} {o : Option (Addr × Int × Int)} (h : KL Cs CL H v o) (s : Same H H') : KL Cs CL H' v o := by
  match o, h with
  | some (p, a, b), ⟨e, l⟩ => exact ⟨e, l.same s⟩
  | none, ⟨a, n⟩ => exact ⟨a.same s, n.same0 a s⟩
theorem KN.same {Cs : List Addr} {CR CP CQo : Addr} {H H' : Hp} {v : V} {o : Option (List Int × List Int)} (h : KN Cs CR CP CQo H v o) (s : Same H H') : KN Cs CR CP CQo H' v o := by
  match o, h with
  | some x, h => exact NumQ.same h s
  | none, ⟨a, n, m, i⟩ => exact ⟨a.same s, n.same0 a s, m.same0 a s, i⟩
/-- all but the object at p stays -/
def Kb (p : Addr) (H H' : Hp) : Prop := ∀ c o, H c = some o → c ≠ p → H' c = some o
theorem Kb.of {p : Addr} {H H' : Hp} (s : Same H H') : Kb p H H' := fun c o e _ => s c o e
theorem Kb.trans {p : Addr} {H H1 H2 : Hp} (a : Kb p H H1) (b : Kb p H1 H2) : Kb p H H2 := fun c o e n => b c o (a c o e n) n
theorem Kb.put {p : Addr} {H : Hp} {o : HO} : Kb p H (upd H p o) := fun c u e n => by rw [upd_ne n]; exact e
theorem ins_ne {H : Hp} {a p C D da dp : Addr} {fa fp : List (Str × V)} (ea : H a = some (.ins C da fa)) (ep : H p = some (.ins D dp fp)) (n : C ≠ D) : a ≠ p := fun z => by
  rw [z, ep] at ea
  cases ea
  exact n rfl
theorem LineAt.kb {C D : Addr} {H H' : Hp} {a p dp : Addr} {x y : Int} {fp : List (Str × V)} (h : LineAt C H a x y) (ep : H p = some (.ins D dp fp)) (n : C ≠ D) (k : Kb p H H') : LineAt C H' a x y := by
  obtain ⟨dx, e⟩ := h
  exact ⟨dx, k _ _ e (ins_ne e ep n)⟩
theorem PolyAt.kb {C D : Addr} {H H' : Hp} {a p dp : Addr} {ts : List Int} {fp : List (Str × V)} (h : PolyAt C H a ts) (ep : H p = some (.ins D dp fp)) (n : C ≠ D) (k : Kb p H H') : PolyAt C H' a ts := by
  obtain ⟨dx, t, e, et⟩ := h
  exact ⟨dx, t, k _ _ e (ins_ne e ep n), k _ _ et (ne_of et ep (by intro z; cases z))⟩
theorem QuoAt.kb {C CP D : Addr} {H H' : Hp} {a p dp : Addr} {ts us : List Int} {fp : List (Str × V)} (h : QuoAt C CP H a ts us) (ep : H p = some (.ins D dp fp)) (n : C ≠ D) (m : CP ≠ D) (k : Kb p H H') : QuoAt C CP H' a ts us := by
  obtain ⟨dx, q, r, e, h1, h2⟩ := h
  exact ⟨dx, q, r, k _ _ e (ins_ne e ep n), h1.kb ep m k, h2.kb ep m k⟩
theorem NumQ.kb {CR CP CQo D : Addr} {H H' : Hp} {v : V} {x : List Int × List Int} {p dp : Addr} {fp : List (Str × V)} (h : NumQ CR CP CQo H v x) (ep : H p = some (.ins D dp fp)) (n1 : CR ≠ D) (n2 : CP ≠ D) (n3 : CQo ≠ D) (k : Kb p H H') : NumQ CR CP CQo H' v x := by
  rcases h with ⟨a, e, q⟩ | ⟨t, d, n, h⟩
  · exact .inl ⟨a, e, q.kb ep n3 n2 k⟩
  · refine .inr ⟨t, d, ?_, h⟩
    rcases n with ⟨a, e, dx, g⟩ | n
    · exact .inl ⟨a, e, dx, k _ _ g (ins_ne g ep n1)⟩
    · exact .inr n
theorem AnyF.kb {Cs : List Addr} {D : Addr} {H H' : Hp} {v : V} {p dp : Addr} {fp fp' : List (Str × V)} (h : AnyF Cs H v) (ep : H p = some (.ins D dp fp)) (ep' : H' p = some (.ins D dp fp')) (k : Kb p H H') : AnyF Cs H' v := by
  rcases h with ⟨t, h⟩ | ⟨C, hC, a, dx, fs, rfl, e⟩
  · refine .inl ⟨t, h.keep fun b o eb => ?_⟩
    rintro q rfl rfl
    refine k _ _ eb fun z => ?_
    subst z
    cases h with
    | lst g => rw [ep] at g; cases g
    | tup g => rw [ep] at g; cases g
    | dK g => rw [ep] at g; cases g
  · by_cases z : a = p
    · subst z
      rw [ep] at e
      cases e
      exact .inr ⟨_, hC, _, _, fp', rfl, ep'⟩
    · exact .inr ⟨C, hC, a, dx, fs, rfl, k _ _ e z⟩
theorem notIns.kb {Cs : List Addr} {C D : Addr} {H H' : Hp} {v : V} {p dp : Addr} {fp fp' : List (Str × V)} (h : notIns C H v) (a : AnyF Cs H v) (ep : H p = some (.ins D dp fp)) (ep' : H' p = some (.ins D dp fp')) (n : C ≠ D) (k : Kb p H H') : notIns C H' v := by
  intro q dq fq e e2
  subst e
  by_cases z : q = p
  · subst z
    rw [ep'] at e2
    cases e2
    exact n rfl
  · rcases a with ⟨t, a⟩ | ⟨B, hB, b, dx, fs, eb, e⟩
    · cases a with
      | lst g => rw [k _ _ g z] at e2; cases e2
      | tup g => rw [k _ _ g z] at e2; cases e2
      | dK g => rw [k _ _ g z] at e2; cases e2
    · cases eb
      rw [k _ _ e z] at e2
      cases e2
      exact h _ _ _ rfl e
theorem KN.kb {Cs : List Addr} {CR CP CQo D : Addr} {H H' : Hp} {v : V} {o : Option (List Int × List Int)} {p dp : Addr} {fp fp' : List (Str × V)} (h : KN Cs CR CP CQo H v o) (ep : H p = some (.ins D dp fp)) (ep' : H' p = some (.ins D dp fp')) (n1 : CR ≠ D) (n2 : CP ≠ D) (n3 : CQo ≠ D) (k : Kb p H H') : KN Cs CR CP CQo H' v o := by
  match o, h with
  | some x, h => exact NumQ.kb h ep n1 n2 n3 k
  | none, ⟨a, n, m, i⟩ => exact ⟨a.kb ep ep' k, n.kb a ep ep' n3 k, m.kb a ep ep' n1 k, i⟩
/-- the first wrong part of a run -/
def wrongN (s : Option Int) (sh fi la : Option (Addr × Int × Int)) (ba gr : Option (List Int × List Int)) : Option Str :=
  match s, sh, fi, la, ba, gr with
  | none, _, _, _, _, _ => some "sign"
  | _, none, _, _, _, _ => some "shift"
  | _, _, none, _, _, _ => some "first"
  | _, _, _, none, _, _ => some "last"
  | _, _, _, _, none, _ => some "base"
  | _, _, _, _, _, none => some "grow"
  | _, _, some f, some l, _, _ => if l.2.1 ≤ f.2.1 then some "last" else none
def spNinit (Cs : List Addr) (CL CR CP CQo CN CB : Addr) : Sp := fun vs H Q E => ∃ (p dx : Addr) (sv hv fv lv bv gv : V) (s : Option Int) (sh fi la : Option (Addr × Int × Int)) (ba gr : Option (List Int × List Int)), vs = [.ref p, sv, hv, fv, lv, bv, gv] ∧ H p = some (.ins CN dx []) ∧
  KS Cs H sv s ∧ KL Cs CL H hv sh ∧ KL Cs CL H fv fi ∧ KL Cs CL H lv la ∧ KN Cs CR CP CQo H bv ba ∧ KN Cs CR CP CQo H gv gr ∧ (∀ nm, wrongN s sh fi la ba gr = some nm → ∀ H', (∀ c o, H c = some o → c ≠ p → H' c = some o) → Errs E CB "part" (.str nm) H') ∧
  ∀ z a1 a2 a3 b g, s = some z → sh = some a1 → fi = some a2 → la = some a3 → ba = some b → gr = some g → a2.2.1 < a3.2.1 → ∀ qb qg H', RunAt CL CP CQo CN H' p ⟨z, a1.2, a2.2, a3.2, b, g⟩ a1.1 a2.1 a3.1 qb qg → (∀ c o, H c = some o → c ≠ p → H' c = some o) → Q .non H'
section
variable {P : Program} {w : World} {K : PySem.W.Frag} {mg : Str → Option Value} {base : Heap} {Cs : List Addr} {CL CR CP CQo CN CT CB fB : Addr}
theorem ok_ninit {f : Addr} {fd : FuncData} (F : FunD K "__init__" "Run.__init__" (defArgs s_ninit) (defBody s_ninit) (defScope s_ninit) [.int 0] [] f fd) (T : NTx P K mg Cs CL CR CP CQo CN CT CB fB)
    (D_isint : DefAt P w K mg base (L2.CX P w) 1 "is_integer_runs" ["thing", "least"] (spIntR Cs)) (D_needline : DefAt P w K mg base (L2.CX P w) 1 "need_line" ["name", "value"] (spNeedL Cs CL CB)) (D_qfor : DefAt P w K mg base (L2.CX P w) 8 "quotient_for" ["name", "value"] (spQfor Cs CR CP CQo CB)) :
    FnOk P w K mg base (L2.CX P w) 9 f fd ["self", "sign", "shift", "first", "last", "base", "grow"] (spNinit Cs CL CR CP CQo CN CB) := by
  refine F.ok sc_ninit (fun vs H Q E h => ?_) (fun cdv A outer s H vs Q E hr h => ?_)
  · obtain ⟨p, dx, sv, hv, fv, lv, bv, gv, _, _, _, _, _, _, rfl, _⟩ := h
    rfl
  · obtain ⟨p, dx, sv, hv, fv, lv, bv, gv, so, sh, fi, la, ba, gr, rfl, hp, kS, kH, kF, kL, kB, kG, kE, kQ⟩ := h
    refine ⟨_, (C8.pss_cut (ps_if (PW.pt (pw_or (pt_not (pt_val (My.pe_d D_isint (hr.mono (by decide)) (by rfl) passL (pa_cons (pv 1) (pa_cons (pe_un un_neg pe_int) pa_nil))))) (pw_or (pt_cmpR op_eq (pv 1) pe_int (nomark _)) (pw_or1 (pt_cmpR op_gt (pv 1) pe_int (nomark _)))))) (pss_one (ps_raise1 rfl T.e_BadTable (hr.mono (by decide) : Room 0 _) (takes_of rfl rfl rfl rfl) (pa_cons pe_str pa_nil))) pss_nil)
      (pss_cons (ps_expr (My.pe_d D_needline (hr.mono (by decide)) (by rfl) (passes_call (takes_of rfl rfl rfl rfl) (fun _ _ _ _ h => h)) (pa_cons pe_str (pa_cons (pv 2) pa_nil))))
      (pss_cons (ps_expr (My.pe_d D_needline (hr.mono (by decide)) (by rfl) (passes_call (takes_of rfl rfl rfl rfl) (fun _ _ _ _ h => h)) (pa_cons pe_str (pa_cons (pv 3) pa_nil))))
      (pss_cons (ps_expr (My.pe_d D_needline (hr.mono (by decide)) (by rfl) (passes_call (takes_of rfl rfl rfl rfl) (fun _ _ _ _ h => h)) (pa_cons pe_str (pa_cons (pv 4) pa_nil))))
      (pss_cons (ps_fld (pv 0) (My.pe_d D_qfor (hr.mono (by decide)) (by rfl) (passes_call (takes_of rfl rfl rfl rfl) (fun _ _ _ _ h => h)) (pa_cons pe_str (pa_cons (pv 5) pa_nil))) rfl)
      (pss_cons (ps_fld (pv 0) (My.pe_d D_qfor (hr.mono (by decide)) (by rfl) (passes_call (takes_of rfl rfl rfl rfl) (fun _ _ _ _ h => h)) (pa_cons pe_str (pa_cons (pv 6) pa_nil))) rfl)
      (pss_cons (ps_if (pt_cmpR op_le (pe_fld (pv 4) rfl) (pe_fld (pv 3) rfl) (nomark _)) (pss_one (ps_raise1 rfl T.e_BadTable (hr.mono (by decide) : Room 0 _) (takes_of rfl rfl rfl rfl) (pa_cons pe_str pa_nil))) pss_nil)
      (pss_cons (ps_fld (pv 0) (pv 1) rfl)
      (pss_cons (ps_fld (pv 0) (pv 2) rfl)
      (pss_cons (ps_fld (pv 0) (pv 3) rfl)
      (pss_one (ps_fld (pv 0) (pv 4) rfl)))))))))))), ?_⟩
    have err : ∀ nm Hz, wrongN so sh fi la ba gr = some nm → Same H Hz → Errs E CB "part" (.str nm) Hz := fun nm Hz e s => kE nm e Hz fun c o e _ => s c o e
    have s0 : Same H H := fun _ _ e => e
    have aS : AnyF Cs H sv := by
      match so, kS with
      | some z, ⟨e, _⟩ => rw [e]; exact AnyF.int Cs H z
      | none, ⟨a, _⟩ => exact a
    refine ⟨fun σ Hz => Hz = H ∧ σ = [some (.ref p), some sv, some hv, some fv, some lv, some bv, some gv] ∧ ∃ z, so = some z ∧ sv = .int z, ?_, ?_⟩
    · refine ⟨_, rfl, _, rfl, sv, -1, rfl, aS, fun z ez => ⟨_, rfl, ?_⟩, fun ni => ⟨_, rfl, iteT ⟨_, rfl, fun d hd => (err _ H ?_ s0).go hd⟩⟩⟩
      · subst ez
        rcases so with _ | z'
        · obtain ⟨_, gt⟩ := kS
          have gt := gt z rfl
          rw [decide_eq_true (show -1 ≤ z by omega)]
          refine iteF ⟨_, rfl, rfl, _, rfl, ?_⟩
          rw [decide_eq_false (show ¬ V.int z = V.int 0 from fun y => by have := V.int.inj y; omega)]
          refine iteF ⟨_, rfl, _, _, rfl, rfl, _, rfl, ?_⟩
          rw [decide_eq_true (show (1 : Int) < z by omega)]
          exact iteT ⟨_, rfl, fun d hd => (err _ H rfl s0).go hd⟩
        · obtain ⟨ez, h1⟩ := kS
          have ez := V.int.inj ez
          subst ez
          rw [decide_eq_true (show -1 ≤ z by rcases h1 with h | h <;> omega)]
          refine iteF ⟨_, rfl, rfl, _, rfl, ?_⟩
          rw [decide_eq_false (show ¬ V.int z = V.int 0 from fun y => by have := V.int.inj y; rcases h1 with h | h <;> omega)]
          refine iteF ⟨_, rfl, _, _, rfl, rfl, _, rfl, ?_⟩
          rw [decide_eq_false (show ¬ (1 : Int) < z by rcases h1 with h | h <;> omega)]
          exact iteF ⟨rfl, rfl, z, rfl, rfl⟩
      · rcases so with _ | z'
        · rfl
        · obtain ⟨ez, _⟩ := kS
          rw [ez] at ni
          cases ni
    rintro σ Hz ⟨rfl, rfl, z, rfl, rfl⟩
    rcases sh with _ | ⟨ps, a1, b1⟩
    · exact ⟨_, rfl, _, hv, rfl, .inr ⟨kH.1, kH.2, err _ Hz rfl s0⟩⟩
    obtain ⟨rfl, lh⟩ := kH
    refine ⟨_, rfl, _, .ref ps, rfl, .inl ⟨ps, a1, b1, rfl, lh, ?_⟩⟩
    rcases fi with _ | ⟨pf, a2, b2⟩
    · exact ⟨_, rfl, _, fv, rfl, .inr ⟨kF.1, kF.2, err _ Hz rfl s0⟩⟩
    obtain ⟨rfl, lf⟩ := kF
    refine ⟨_, rfl, _, .ref pf, rfl, .inl ⟨pf, a2, b2, rfl, lf, ?_⟩⟩
    rcases la with _ | ⟨pl, a3, b3⟩
    · exact ⟨_, rfl, _, lv, rfl, .inr ⟨kL.1, kL.2, err _ Hz rfl s0⟩⟩
    obtain ⟨rfl, ll⟩ := kL
    refine ⟨_, rfl, _, .ref pl, rfl, .inl ⟨pl, a3, b3, rfl, ll, ?_⟩⟩
    have nCN : CL ≠ CN ∧ CR ≠ CN ∧ CP ≠ CN ∧ CQo ≠ CN := by
      have := T.nd
      simp only [List.nodup_cons, List.mem_cons, List.mem_nil_iff, or_false, not_or] at this
      exact ⟨this.1.2.2.2.1, this.2.1.2.2.1, this.2.2.1.2.1, this.2.2.2.1.1⟩
    obtain ⟨nL, nR, nP, nQ⟩ := nCN
    have kb0 : Kb p Hz Hz := fun _ _ e _ => e
    rcases ba with _ | xb
    · exact ⟨_, rfl, _, bv, rfl, .inr ⟨kB.1, kB.2.1, kB.2.2.1, kB.2.2.2, err _ Hz rfl s0⟩⟩
    refine ⟨_, rfl, _, bv, rfl, .inl ⟨xb, kB, fun qb H1 lb s1 => ?_⟩⟩
    have hp1 := s1 _ _ hp
    refine ⟨_, rfl, p, CN, dx, _, rfl, hp1, T.clN, T.noN _ (by simp), (by show 0 < 1000; decide), ?_⟩
    have k1 : Kb p Hz (upd H1 p (.ins CN dx (putF "base" (.ref qb) []))) := (Kb.of s1).trans Kb.put
    have hp1' : (upd H1 p (.ins CN dx (putF "base" (.ref qb) []))) p = some (.ins CN dx (putF "base" (.ref qb) [])) := upd_same
    have kG1 := kG.kb hp hp1' nR nP nQ k1
    have lb1 := lb.kb hp1 nQ nP Kb.put (H' := upd H1 p (.ins CN dx (putF "base" (.ref qb) [])))
    generalize upd H1 p (.ins CN dx (putF "base" (.ref qb) [])) = H2 at k1 hp1' kG1 lb1 ⊢
    rcases gr with _ | xg
    · exact ⟨_, rfl, _, gv, rfl, .inr ⟨kG1.1, kG1.2.1, kG1.2.2.1, kG1.2.2.2, kE _ rfl H2 k1⟩⟩
    refine ⟨_, rfl, _, gv, rfl, .inl ⟨xg, kG1, fun qg H3 lg s3 => ?_⟩⟩
    have hp3 := s3 _ _ hp1'
    refine ⟨_, rfl, p, CN, dx, _, rfl, hp3, T.clN, T.noN _ (by simp), (by show 1 < 1000; decide), ?_⟩
    have k3 : Kb p Hz H3 := k1.trans (Kb.of s3)
    have lb3 := lb1.same s3
    have H4k : Kb p H3 (upd H3 p (.ins CN dx (putF "grow" (.ref qg) (putF "base" (.ref qb) [])))) := Kb.put
    have hp4 : (upd H3 p (.ins CN dx (putF "grow" (.ref qg) (putF "base" (.ref qb) [])))) p = some (.ins CN dx (putF "grow" (.ref qg) (putF "base" (.ref qb) []))) := upd_same
    generalize upd H3 p (.ins CN dx (putF "grow" (.ref qg) (putF "base" (.ref qb) []))) = H4 at H4k hp4 ⊢
    have k4 := k3.trans H4k
    obtain ⟨dl, el⟩ := ll.kb hp nL k4
    obtain ⟨df, ef⟩ := lf.kb hp nL k4
    refine ⟨_, rfl, pl, CL, dl, _, _, rfl, el, T.tl.cl, T.tl.nS, lfs_slope _ _, _, rfl, pf, CL, df, _, _, rfl, ef, T.tl.cl, T.tl.nS, lfs_slope _ _, _, _, rfl, rfl, _, rfl, ite2 (fun c => ?_) (fun c => ?_)⟩
    · have le : a3 ≤ a2 := of_decide_eq_true c
      refine ⟨_, rfl, fun d hd => (kE "last" ?_ H4 k4).go hd⟩
      show (if a3 ≤ a2 then some ("last" : Str) else none) = _
      rw [if_pos le]
    have lt : a2 < a3 := by
      by_cases z : a3 ≤ a2
      · exact absurd (decide_eq_true z) c
      · omega
    refine ⟨_, rfl, _, rfl, p, CN, dx, _, rfl, hp4, T.clN, T.noN _ (by simp), (by show 2 < 1000; decide), ?_⟩
    refine ⟨_, rfl, _, rfl, p, CN, dx, _, rfl, upd_same, T.clN, T.noN _ (by simp), (by show 3 < 1000; decide), ?_⟩
    refine ⟨_, rfl, _, rfl, p, CN, dx, _, rfl, upd_same, T.clN, T.noN _ (by simp), (by show 4 < 1000; decide), ?_⟩
    refine ⟨_, rfl, _, rfl, p, CN, dx, _, rfl, upd_same, T.clN, T.noN _ (by simp), (by show 5 < 1000; decide), ?_⟩
    have kf : ∀ {o1 o2 o3 o4 : HO}, Kb p H4 (upd (upd (upd (upd H4 p o1) p o2) p o3) p o4) := ((Kb.put.trans Kb.put).trans Kb.put).trans Kb.put
    refine kQ z (ps, a1, b1) (pf, a2, b2) (pl, a3, b3) xb xg rfl rfl rfl rfl rfl rfl lt qb qg _ ⟨⟨dx, upd_same⟩, ?_, ?_, ?_, ?_, ?_⟩ (k4.trans kf)
    · exact (lh.kb hp nL k4).kb hp4 nL kf
    · exact (lf.kb hp nL k4).kb hp4 nL kf
    · exact (ll.kb hp nL k4).kb hp4 nL kf
    · exact (lb3.kb hp3 nQ nP H4k).kb hp4 nQ nP kf
    · exact (lg.kb hp3 nQ nP H4k).kb hp4 nQ nP kf
end
end My
set_option pp.maxSteps 1500
set_option pp.deepTerms.threshold 8
/-! ### runs and points compared -/
namespace My
open PySem PySem.Spec PyProof.Rows L2
def Qeq (x y : List Int × List Int) : Prop := ∀ k, S x.1 y.2 k = S y.1 x.2 k
def Sz (x : List Int × List Int) : Prop := x.1.length ≤ 400 ∧ x.2.length ≤ 400 ∧ Bd x.1 400000 ∧ Bd x.2 400000
def REq (r t : RV) : Prop := r.z = t.z ∧ r.s = t.s ∧ r.f = t.f ∧ r.l = t.l ∧ Qeq r.b t.b ∧ Qeq r.g t.g
def spNeq (Cs : List Addr) (CL CP CQo CN : Addr) : Sp := fun vs H Q _ => ∃ (p : Addr) (r : RV) (ps pf pl qb qg : Addr) (v : V), vs = [.ref p, v] ∧ RunAt CL CP CQo CN H p r ps pf pl qb qg ∧ Sz r.b ∧ Sz r.g ∧
  ((∃ (q : Addr) (t : RV) (ps' pf' pl' qb' qg' : Addr), v = .ref q ∧ RunAt CL CP CQo CN H q t ps' pf' pl' qb' qg' ∧ Sz t.b ∧ Sz t.g ∧ ∀ z H', Same H H' → (z = true ↔ REq r t) → Q (.bl z) H') ∨ (AnyF Cs H v ∧ notIns CN H v ∧ Q (.bl false) H))
/-- the parts of a point -/
structure TV where
  s : Int × Int
  p : Int × Int
  q : List Int × List Int
/-- at p: a point, its parts at these places -/
def PtAt (CL CP CQo CT : Addr) (H : Hp) (p : Addr) (r : TV) (ps pp q : Addr) : Prop := (∃ dx, H p = some (.ins CT dx (tfs ps pp q))) ∧ LineAt CL H ps r.s.1 r.s.2 ∧ LineAt CL H pp r.p.1 r.p.2 ∧ QuoAt CQo CP H q r.q.1 r.q.2
theorem PtAt.same {CL CP CQo CT : Addr} {H H' : Hp} {p ps pp q : Addr} {r : TV} (h : PtAt CL CP CQo CT H p r ps pp q) (k : Same H H') : PtAt CL CP CQo CT H' p r ps pp q := by
  obtain ⟨⟨dx, e⟩, a, b, c⟩ := h
  exact ⟨⟨dx, k _ _ e⟩, a.same k, b.same k, c.same k⟩
def TEq (r t : TV) : Prop := r.s = t.s ∧ r.p = t.p ∧ Qeq r.q t.q
def wrongT (so pl : Option (Addr × Int × Int)) (sh : Option (List Int × List Int)) : Option Str :=
  match so, pl, sh with
  | none, _, _ => some "source"
  | _, none, _ => some "place"
  | _, _, none => some "share"
  | _, _, _ => none
def spTinit (Cs : List Addr) (CL CR CP CQo CT CB : Addr) : Sp := fun vs H Q E => ∃ (p dx : Addr) (sv pv qv : V) (so pl : Option (Addr × Int × Int)) (sh : Option (List Int × List Int)), vs = [.ref p, sv, pv, qv] ∧ H p = some (.ins CT dx []) ∧
  KL Cs CL H sv so ∧ KL Cs CL H pv pl ∧ KN Cs CR CP CQo H qv sh ∧ (∀ nm, wrongT so pl sh = some nm → ∀ H', (∀ c o, H c = some o → c ≠ p → H' c = some o) → Errs E CB "part" (.str nm) H') ∧
  ∀ a1 a2 x, so = some a1 → pl = some a2 → sh = some x → ∀ q H', PtAt CL CP CQo CT H' p ⟨a1.2, a2.2, x⟩ a1.1 a2.1 q → (∀ c o, H c = some o → c ≠ p → H' c = some o) → Q .non H'
def spTeq (Cs : List Addr) (CL CP CQo CT : Addr) : Sp := fun vs H Q _ => ∃ (p : Addr) (r : TV) (ps pp q : Addr) (v : V), vs = [.ref p, v] ∧ PtAt CL CP CQo CT H p r ps pp q ∧ Sz r.q ∧
  ((∃ (p' : Addr) (t : TV) (ps' pp' q' : Addr), v = .ref p' ∧ PtAt CL CP CQo CT H p' t ps' pp' q' ∧ Sz t.q ∧ ∀ z H', Same H H' → (z = true ↔ TEq r t) → Q (.bl z) H') ∨ (AnyF Cs H v ∧ notIns CT H v ∧ Q (.bl false) H))
theorem pair_dec {a b c d : Int} : (decide (a = c ∧ b = d) = true) ↔ (a, b) = (c, d) := by
  rw [decide_eq_true_iff, Prod.mk.injEq]
theorem ne_lines {K : PySem.W.Frag} {mg : Str → Option Value} {CL : Addr} (T : LTx K mg CL) {H : Hp} {a b : Addr} {x y : Int × Int} {Q : VK} {E : XK} (ha : LineAt CL H a x.1 x.2) (hb : LineAt CL H b y.1 y.2) (k : ∀ H', Same H H' → Q (.bl (!decide (x.1 = y.1 ∧ x.2 = y.2))) H') : rNeO K CL (spLeq CL) E (.ref a) (.ref b) H Q := by
  obtain ⟨dx, e⟩ := id ha
  obtain ⟨dy, e'⟩ := id hb
  exact ⟨a, dx, _, _, rfl, e, T.ow.ty e', T.ow.sf, a, b, _, _, _, _, rfl, ha, hb, fun H1 s1 => ⟨_, rfl, k H1 s1⟩⟩
theorem eq_quos {K : PySem.W.Frag} {mg : Str → Option Value} {Cs : List Addr} {CP CQo : Addr} (T : QTx K mg Cs CP CQo) {H : Hp} {a b : Addr} {x y : List Int × List Int} {Q : VK} {E : XK} (ha : QuoAt CQo CP H a x.1 x.2) (hb : QuoAt CQo CP H b y.1 y.2) (sx : Sz x) (sy : Sz y) (k : ∀ z H', Same H H' → (z = true ↔ Qeq x y) → Q (.bl z) H') : rCmpO K CQo (spQeq CQo CP) E (.ref a) (.ref b) H Q := by
  obtain ⟨dx, _, _, e, _⟩ := id ha
  obtain ⟨dy, _, _, e', _⟩ := id hb
  exact ⟨a, dx, _, _, rfl, e, T.ownQ.ty e', T.ownQ.sf, a, b, _, _, _, _, rfl, ha, hb, ⟨sx.1, sx.2.1, sy.1, sy.2.1⟩, ⟨sx.2.2.1, sx.2.2.2, sy.2.2.1, sy.2.2.2⟩, k⟩
theorem pair_ne {x y : Int × Int} (h : (!decide (x.1 = y.1 ∧ x.2 = y.2)) = true) : x ≠ y := fun z => by
  rw [z, decide_eq_true (⟨rfl, rfl⟩ : y.1 = y.1 ∧ y.2 = y.2)] at h
  cases h
theorem pair_eq {x y : Int × Int} (h : ¬ (!decide (x.1 = y.1 ∧ x.2 = y.2)) = true) : x = y := by
  by_cases c : x.1 = y.1 ∧ x.2 = y.2
  · exact Prod.ext c.1 c.2
  · rw [decide_eq_false c] at h
    exact absurd rfl h
section
variable {P : Program} {w : World} {K : PySem.W.Frag} {mg : Str → Option Value} {base : Heap} {Cs : List Addr} {CL CR CP CQo CN CT CB fB : Addr}
theorem ok_neq {f : Addr} {fd : FuncData} (F : Fun K "__eq__" "Run.__eq__" s_neq f fd) (T : NTx P K mg Cs CL CR CP CQo CN CT CB fB) (PR_sign : PropAt P w K mg base CN "sign" "own_sign")
    (CE_leq : CmpAt P w K mg base CX0 2 CL "__eq__" ["self", "other"] (spLeq CL)) (CE_qeq : CmpAt P w K mg base CX0 7 CQo "__eq__" ["self", "other"] (spQeq CQo CP)) : FnOk P w K mg base CX0 9 f fd ["self", "other"] (spNeq Cs CL CP CQo CN) := by
  refine F.ok sc_neq (fun vs H Q E h => ?_) (fun cdv A outer s H vs Q E hr h => ?_)
  · obtain ⟨p, r, ps, pf, pl, qb, qg, v, rfl, _⟩ := h
    rfl
  · obtain ⟨p, r, ps, pf, pl, qb, qg, v, rfl, R, sb, sg, h⟩ := h
    refine ⟨_, (pss_cons (ps_if (PW.pt (pw_or (pt_not (pt_val (pe_callB call_isi (by rfl) T.z_isinstance boot_isinstance (pa_cons (pv 1) (pa_cons (pe_glob (v := .ref CN) (by rfl) T.gN rfl) pa_nil))))) (pw_or (pt_cmpR op_ne (My.pe_pr PR_sign T.clN (hr.mono (by decide)) pass0 (pv 0) rfl) (My.pe_pr PR_sign T.clN (hr.mono (by decide)) pass0 (pv 1) rfl) (nomark _)) (pw_or1 (pt_cmpR (My.op_neO CE_leq T.hmL T.neL (hr.mono (by decide)) pass0) (pe_fld (pv 0) rfl) (pe_fld (pv 1) rfl) (nomark _)))))) (pss_one (ps_ret pe_bl)) pss_nil)
      (pss_cons (ps_if (PW.pt (pw_or (pt_cmpR (My.op_neO CE_leq T.hmL T.neL (hr.mono (by decide)) pass0) (pe_fld (pv 0) rfl) (pe_fld (pv 1) rfl) (nomark _)) (pw_or1 (pt_cmpR (My.op_neO CE_leq T.hmL T.neL (hr.mono (by decide)) pass0) (pe_fld (pv 0) rfl) (pe_fld (pv 1) rfl) (nomark _))))) (pss_one (ps_ret pe_bl)) pss_nil)
      (pss_one (ps_ret (pe_and (pe_cmpR (My.op_cmpO CE_qeq (hr.mono (by decide)) pass0) (pe_fld (pv 0) rfl) (pe_fld (pv 1) rfl) (nomark _)) (pe_one (pe_cmpR (My.op_cmpO CE_qeq (hr.mono (by decide)) pass0) (pe_fld (pv 0) rfl) (pe_fld (pv 1) rfl) (nomark _)))))))), ?_⟩
    rcases h with ⟨q, t, ps', pf', pl', qb', qg', rfl, R', sb', sg', k⟩ | ⟨av, ni, k⟩
    case inr =>
      obtain ⟨tt, tx, k1, _⟩ := T.fam.isi T.innN av ni
      exact ⟨_, rfl, _, _, _, _, false, rfl, .own _, tx, k1, _, rfl, iteT k⟩
    obtain ⟨⟨dx, ep⟩, ls, lf, ll, qb1, qg1⟩ := id R
    obtain ⟨⟨dy, eq⟩, ls', lf', ll', qb1', qg1'⟩ := id R'
    obtain ⟨f1, f2, f3, f4, f5, f6⟩ := nfs_all r.z ps pf pl qb qg
    obtain ⟨g1, g2, g3, g4, g5, g6⟩ := nfs_all t.z ps' pf' pl' qb' qg'
    have ownN := T.fam.own CN T.innN
    refine ⟨_, rfl, _, _, _, _, true, rfl, .own _, ownN.ty eq, ownN.me, _, rfl, iteF ?_⟩
    refine ⟨_, rfl, p, dx, _, rfl, ep, p, dx, _, _, rfl, ep, f3, _, rfl, q, dy, _, rfl, eq, q, dy, _, _, rfl, eq, g3, rfl, _, rfl, ite2 (fun c => ?_) (fun c => ?_)⟩
    · refine k false H (fun _ _ e => e) ⟨(fun z => Bool.noConfusion z), fun z => ?_⟩
      rw [z.1, decide_eq_true rfl] at c
      cases c
    have e1 : r.z = t.z := by
      by_cases y : r.z = t.z
      · exact y
      · rw [decide_eq_false (fun z => y (V.int.inj z))] at c
        exact absurd rfl c
    refine ⟨_, rfl, p, CN, dx, _, _, rfl, ep, T.clN, T.noN _ (by simp), f4, _, rfl, q, CN, dy, _, _, rfl, eq, T.clN, T.noN _ (by simp), g4, ?_⟩
    refine ne_lines T.tl ls ls' fun H1 s1 => ⟨_, rfl, ite2 (fun c => ?_) (fun c => ?_)⟩
    · exact k false H1 s1 ⟨(fun z => Bool.noConfusion z), fun z => absurd z.2.1 (pair_ne c)⟩
    have e2 := pair_eq c
    refine ⟨_, rfl, p, CN, dx, _, _, rfl, s1 _ _ ep, T.clN, T.noN _ (by simp), f5, _, rfl, q, CN, dy, _, _, rfl, s1 _ _ eq, T.clN, T.noN _ (by simp), g5, ?_⟩
    refine ne_lines T.tl (lf.same s1) (lf'.same s1) fun H2 s2 => ⟨_, rfl, ite2 (fun c => ?_) (fun c => ?_)⟩
    · exact k false H2 (s1.trans s2) ⟨(fun z => Bool.noConfusion z), fun z => absurd z.2.2.1 (pair_ne c)⟩
    have e3 := pair_eq c
    have s12 := s1.trans s2
    refine ⟨_, rfl, p, CN, dx, _, _, rfl, s12 _ _ ep, T.clN, T.noN _ (by simp), f6, _, rfl, q, CN, dy, _, _, rfl, s12 _ _ eq, T.clN, T.noN _ (by simp), g6, ?_⟩
    refine ne_lines T.tl (ll.same s12) (ll'.same s12) fun H3 s3 => ⟨_, rfl, ite2 (fun c => ?_) (fun c => ?_)⟩
    · exact k false H3 (s12.trans s3) ⟨(fun z => Bool.noConfusion z), fun z => absurd z.2.2.2.1 (pair_ne c)⟩
    have e4 := pair_eq c
    have s13 := s12.trans s3
    refine ⟨_, rfl, p, CN, dx, _, _, rfl, s13 _ _ ep, T.clN, T.noN _ (by simp), f1, _, rfl, q, CN, dy, _, _, rfl, s13 _ _ eq, T.clN, T.noN _ (by simp), g1, ?_⟩
    refine eq_quos T.toQTx (qb1.same s13) (qb1'.same s13) sb sb' fun z1 H4 s4 hz1 => ⟨_, rfl, ?_⟩
    cases z1 with
    | false => exact k false H4 (s13.trans s4) ⟨(fun z => Bool.noConfusion z), fun z => hz1.mpr z.2.2.2.2.1⟩
    | true =>
      refine iteT ?_
      have s14 := s13.trans s4
      refine ⟨_, rfl, p, CN, dx, _, _, rfl, s14 _ _ ep, T.clN, T.noN _ (by simp), f2, _, rfl, q, CN, dy, _, _, rfl, s14 _ _ eq, T.clN, T.noN _ (by simp), g2, ?_⟩
      refine eq_quos T.toQTx (qg1.same s14) (qg1'.same s14) sg sg' fun z2 H5 s5 hz2 => ?_
      exact k z2 H5 (s14.trans s5) ⟨fun z => ⟨e1, e2, e3, e4, hz1.mp rfl, hz2.mp z⟩, fun z => hz2.mpr z.2.2.2.2.2⟩
theorem ok_tinit {f : Addr} {fd : FuncData} (F : Fun K "__init__" "Point.__init__" s_tinit f fd) (T : NTx P K mg Cs CL CR CP CQo CN CT CB fB)
    (D_needline : DefAt P w K mg base (L2.CX P w) 1 "need_line" ["name", "value"] (spNeedL Cs CL CB)) (D_qfor : DefAt P w K mg base (L2.CX P w) 8 "quotient_for" ["name", "value"] (spQfor Cs CR CP CQo CB)) :
    FnOk P w K mg base (L2.CX P w) 9 f fd ["self", "source", "place", "share"] (spTinit Cs CL CR CP CQo CT CB) := by
  refine F.okX sc_tinit (fun vs H Q E h => ?_) (fun cdv A outer s H vs Q E hr h => ?_)
  · obtain ⟨p, dx, sv, plv, qv, _, _, _, rfl, _⟩ := h
    rfl
  · obtain ⟨p, dx, sv, plv, qv, so, pl, sh, rfl, hp, kS, kP, kN, kE, kQ⟩ := h
    refine ⟨_, (pss_cons (ps_expr (My.pe_d D_needline (hr.mono (by decide)) (by rfl) (passes_call (takes_of rfl rfl rfl rfl) (fun _ _ _ _ h => h)) (pa_cons pe_str (pa_cons (pv 1) pa_nil))))
      (pss_cons (ps_expr (My.pe_d D_needline (hr.mono (by decide)) (by rfl) (passes_call (takes_of rfl rfl rfl rfl) (fun _ _ _ _ h => h)) (pa_cons pe_str (pa_cons (pv 2) pa_nil))))
      (pss_cons (ps_fld (pv 0) (pv 1) rfl)
      (pss_cons (ps_fld (pv 0) (pv 2) rfl)
      (pss_one (ps_fld (pv 0) (My.pe_d D_qfor (hr.mono (by decide)) (by rfl) (passes_call (takes_of rfl rfl rfl rfl) (fun _ _ _ _ h => h)) (pa_cons pe_str (pa_cons (pv 3) pa_nil))) rfl)))))), ?_⟩
    have kb0 : Kb p H H := fun _ _ e _ => e
    have nCT : CL ≠ CT ∧ CR ≠ CT ∧ CP ≠ CT ∧ CQo ≠ CT := by
      have := T.nd
      simp only [List.nodup_cons, List.mem_cons, List.mem_nil_iff, or_false, not_or] at this
      exact ⟨this.1.2.2.2.2, this.2.1.2.2.2, this.2.2.1.2.2, this.2.2.2.1.2⟩
    obtain ⟨nL, nR, nP, nQ⟩ := nCT
    rcases so with _ | ⟨ps, a1, b1⟩
    · exact ⟨_, rfl, _, sv, rfl, .inr ⟨kS.1, kS.2, kE _ rfl H kb0⟩⟩
    obtain ⟨rfl, l1⟩ := kS
    refine ⟨_, rfl, _, .ref ps, rfl, .inl ⟨ps, a1, b1, rfl, l1, ?_⟩⟩
    rcases pl with _ | ⟨pp, a2, b2⟩
    · exact ⟨_, rfl, _, plv, rfl, .inr ⟨kP.1, kP.2, kE _ rfl H kb0⟩⟩
    obtain ⟨rfl, l2⟩ := kP
    refine ⟨_, rfl, _, .ref pp, rfl, .inl ⟨pp, a2, b2, rfl, l2, ?_⟩⟩
    refine ⟨_, rfl, _, rfl, p, CT, dx, _, rfl, hp, T.clT, T.noT _ (by simp), (by show 0 < 1000; decide), ?_⟩
    refine ⟨_, rfl, _, rfl, p, CT, dx, _, rfl, upd_same, T.clT, T.noT _ (by simp), (by show 1 < 1000; decide), ?_⟩
    have k2 : Kb p H (upd (upd H p (.ins CT dx (putF "source" (.ref ps) []))) p (.ins CT dx (putF "place" (.ref pp) (putF "source" (.ref ps) [])))) := Kb.put.trans Kb.put
    have hp2 : (upd (upd H p (.ins CT dx (putF "source" (.ref ps) []))) p (.ins CT dx (putF "place" (.ref pp) (putF "source" (.ref ps) [])))) p = some (.ins CT dx (putF "place" (.ref pp) (putF "source" (.ref ps) []))) := upd_same
    generalize upd (upd H p (.ins CT dx (putF "source" (.ref ps) []))) p (.ins CT dx (putF "place" (.ref pp) (putF "source" (.ref ps) []))) = H2 at k2 hp2 ⊢
    have kN2 := kN.kb hp hp2 nR nP nQ k2
    rcases sh with _ | x
    · exact ⟨_, rfl, _, qv, rfl, .inr ⟨kN2.1, kN2.2.1, kN2.2.2.1, kN2.2.2.2, kE _ rfl H2 k2⟩⟩
    refine ⟨_, rfl, _, qv, rfl, .inl ⟨x, kN2, fun q H3 lq s3 => ?_⟩⟩
    have hp3 := s3 _ _ hp2
    refine ⟨_, rfl, p, CT, dx, _, rfl, hp3, T.clT, T.noT _ (by simp), (by show 2 < 1000; decide), ?_⟩
    have kf : Kb p H3 (upd H3 p (.ins CT dx (tfs ps pp q))) := Kb.put
    have k3 := k2.trans (Kb.of s3)
    refine kQ (ps, a1, b1) (pp, a2, b2) x rfl rfl rfl q _ ⟨⟨dx, upd_same⟩, ?_, ?_, ?_⟩ (k3.trans kf)
    · exact (l1.kb hp nL k3).kb hp3 nL kf
    · exact (l2.kb hp nL k3).kb hp3 nL kf
    · exact lq.kb hp3 nQ nP kf
theorem ok_teq {f : Addr} {fd : FuncData} (F : Fun K "__eq__" "Point.__eq__" s_teq f fd) (T : NTx P K mg Cs CL CR CP CQo CN CT CB fB)
    (CE_leq : CmpAt P w K mg base CX0 2 CL "__eq__" ["self", "other"] (spLeq CL)) (CE_qeq : CmpAt P w K mg base CX0 7 CQo "__eq__" ["self", "other"] (spQeq CQo CP)) : FnOk P w K mg base CX0 9 f fd ["self", "other"] (spTeq Cs CL CP CQo CT) := by
  refine F.ok sc_teq (fun vs H Q E h => ?_) (fun cdv A outer s H vs Q E hr h => ?_)
  · obtain ⟨p, r, ps, pp, q, v, rfl, _⟩ := h
    rfl
  · obtain ⟨p, r, ps, pp, q, v, rfl, R, sq, h⟩ := h
    refine ⟨_, (pss_cons (ps_if (PW.pt (pw_or (pt_not (pt_val (pe_callB call_isi (by rfl) T.z_isinstance boot_isinstance (pa_cons (pv 1) (pa_cons (pe_glob (v := .ref CT) (by rfl) T.gT rfl) pa_nil))))) (pw_or (pt_cmpR (My.op_neO CE_leq T.hmL T.neL (hr.mono (by decide)) pass0) (pe_fld (pv 0) rfl) (pe_fld (pv 1) rfl) (nomark _)) (pw_or1 (pt_cmpR (My.op_neO CE_leq T.hmL T.neL (hr.mono (by decide)) pass0) (pe_fld (pv 0) rfl) (pe_fld (pv 1) rfl) (nomark _)))))) (pss_one (ps_ret pe_bl)) pss_nil)
      (pss_one (ps_ret (pe_cmpR (My.op_cmpO CE_qeq (hr.mono (by decide)) pass0) (pe_fld (pv 0) rfl) (pe_fld (pv 1) rfl) (nomark _))))), ?_⟩
    rcases h with ⟨p', t, ps', pp', q', rfl, R', sq', k⟩ | ⟨av, ni, k⟩
    case inr =>
      obtain ⟨tt, tx, k1, _⟩ := T.fam.isi T.innT av ni
      exact ⟨_, rfl, _, _, _, _, false, rfl, .own _, tx, k1, _, rfl, iteT k⟩
    obtain ⟨⟨dx, ep⟩, ls, lp, lq⟩ := id R
    obtain ⟨⟨dy, eq⟩, ls', lp', lq'⟩ := id R'
    obtain ⟨f1, f2, f3⟩ := tfs_all ps pp q
    obtain ⟨g1, g2, g3⟩ := tfs_all ps' pp' q'
    have ownT := T.fam.own CT T.innT
    refine ⟨_, rfl, _, _, _, _, true, rfl, .own _, ownT.ty eq, ownT.me, _, rfl, iteF ?_⟩
    refine ⟨_, rfl, p, CT, dx, _, _, rfl, ep, T.clT, T.noT _ (by simp), f1, _, rfl, p', CT, dy, _, _, rfl, eq, T.clT, T.noT _ (by simp), g1, ?_⟩
    refine ne_lines T.tl ls ls' fun H1 s1 => ⟨_, rfl, ite2 (fun c => ?_) (fun c => ?_)⟩
    · exact k false H1 s1 ⟨(fun z => Bool.noConfusion z), fun z => absurd z.1 (pair_ne c)⟩
    have e2 := pair_eq c
    refine ⟨_, rfl, p, CT, dx, _, _, rfl, s1 _ _ ep, T.clT, T.noT _ (by simp), f2, _, rfl, p', CT, dy, _, _, rfl, s1 _ _ eq, T.clT, T.noT _ (by simp), g2, ?_⟩
    refine ne_lines T.tl (lp.same s1) (lp'.same s1) fun H2 s2 => ⟨_, rfl, ite2 (fun c => ?_) (fun c => ?_)⟩
    · exact k false H2 (s1.trans s2) ⟨(fun z => Bool.noConfusion z), fun z => absurd z.2.1 (pair_ne c)⟩
    have e3 := pair_eq c
    have s12 := s1.trans s2
    refine ⟨_, rfl, p, CT, dx, _, _, rfl, s12 _ _ ep, T.clT, T.noT _ (by simp), f3, _, rfl, p', CT, dy, _, _, rfl, s12 _ _ eq, T.clT, T.noT _ (by simp), g3, ?_⟩
    refine eq_quos T.toQTx (lq.same s12) (lq'.same s12) sq sq' fun z1 H4 s4 hz1 => ?_
    exact k z1 H4 (s12.trans s4) ⟨fun z => ⟨e2, e3, hz1.mp z⟩, fun z => hz1.mpr z.2.2⟩
end
end My
/-! pick, the pen's cells at a known place -/
namespace My
open PySem PySem.Spec PyProof.Rows L2
def spPickC : Sp := fun vs H Q _ => ∃ (pn cl l : Addr) (n : Nat) (xs : List V), vs = [.ref pn, .ref l] ∧ H l = some (.lst xs) ∧ l ≠ pn ∧ 0 < xs.length ∧ xs.length ≤ 1000 ∧ PenC H pn cl n ∧ n < 100000 ∧
  ∀ (v : V) (H' : Hp), v ∈ xs → PenC H' pn cl (n + 1) → But pn H H' → Q v H'
section
variable {P : Program} {w : World} {K : PySem.W.Frag} {mg : Str → Option Value} {base : Heap}
theorem ok_pickC {f : Addr} {fd : FuncData} (F : Fun K "_law_pick" "_law_pick" s_pick f fd) (T : BI mg) (D_draw : DefAt P w K mg base CX0 1 "_law_draw" ["_law_pen_here", "_law_many"] spDrawC) : FnOk P w K mg base CX0 2 f fd ["_law_pen_here", "_law_some"] spPickC := by
  refine F.ok sc_pick (fun vs H Q E h => ?_) (fun cdv A outer s H vs Q E hr h => ?_)
  · obtain ⟨pn, cl, l, n, xs, rfl, _⟩ := h
    rfl
  · obtain ⟨pn, cl, l, n, xs, rfl, hl, nl, h0, h1, hp, hn, k⟩ := h
    refine ⟨_, (pss_one (ps_ret (pe_ix ix_list (pv 1) (My.pe_d D_draw (hr.mono (by decide)) (by rfl) pass0 (pa_cons (pv 0) (pa_cons (pe_callB call_len (by rfl) T.z_len PySem.boot_len (pa_cons (pv 1) pa_nil)) pa_nil))) (fun _ _ => rfl)))), ?_⟩
    refine ⟨_, rfl, _, rfl, _, rfl, _, _, rfl, .inl ⟨_, SqL.of hl, rfl⟩, pn, cl, _, n, rfl, by omega, ?_, hp, hn, fun d H' d0 d1 hp' hb => ?_⟩
    · refine Nat.lt_of_lt_of_le (PySem.Flt.log2_lt_of (k := 10) (by decide) ?_) (by decide)
      show xs.length < 1024
      omega
    · obtain ⟨v, hv⟩ : ∃ v, xs[d.toNat]? = some v := ⟨_, List.getElem?_eq_getElem (by omega)⟩
      refine ⟨l, _, _, v, rfl, rfl, SqL.of (hb l _ hl nl), at_of (j := d.toNat) (by omega) hv, ?_⟩
      exact k v H' (List.mem_of_getElem? hv) hp' hb
end
end My
set_option pp.maxSteps 1500
set_option pp.deepTerms.threshold 8
/-! ### what the law draws -/
namespace My
open PySem PySem.Spec PyProof.Rows L2
abbrev s_line : Stmt := topS 72
theorem sc_line : FnScope ["_law_pen_here"] ["_law_pen_here"] (defScope s_line) := ⟨rfl, rfl, rfl, by decide +kernel, rfl, by decide +kernel, by decide +kernel⟩
abbrev s_number : Stmt := topS 73
theorem sc_number : FnScope ["_law_pen_here", "_law_top", "_law_low", "_law_some"] ["_law_pen_here"] (defScope s_number) := ⟨rfl, rfl, rfl, by decide +kernel, rfl, by decide +kernel, by decide +kernel⟩
abbrev s_asq : Stmt := topS 74
theorem sc_asq : FnScope ["_law_number_here"] ["_law_number_here"] (defScope s_asq) := ⟨rfl, rfl, rfl, by decide +kernel, rfl, by decide +kernel, by decide +kernel⟩
abbrev s_odd : Stmt := topS 75
theorem sc_odd : FnScope ["_law_pen_here"] ["_law_pen_here"] (defScope s_odd) := ⟨rfl, rfl, rfl, by decide +kernel, rfl, by decide +kernel, by decide +kernel⟩
abbrev s_rising : Stmt := topS 77
theorem sc_rising : FnScope ["_law_pen_here", "_law_low"] ["_law_pen_here"] (defScope s_rising) := ⟨rfl, rfl, rfl, by decide +kernel, rfl, by decide +kernel, by decide +kernel⟩
theorem PenC.le8 {H : Hp} {pn cl : Addr} {n m : Nat} (h : PenC H pn cl n) (l : n ≤ m) : PenC H pn cl m := by
  obtain ⟨ns, a, r, e1, e2, h1, h2, h3⟩ := h
  exact ⟨ns, a, r, e1, e2, h1, h2, by omega⟩
theorem ins_pen {H H' : Hp} {pn cl p C dx : Addr} {n : Nat} {fs : List (Str × V)} (e : H p = some (.ins C dx fs)) (hp : PenC H pn cl n) (u : But pn H H') : H' p = some (.ins C dx fs) := by
  obtain ⟨ns, a, r, g, _⟩ := hp
  exact u _ _ e (ne_of e g (by intro z; cases z))
theorem LineAt.pen {C : Addr} {H H' : Hp} {p pn cl : Addr} {n : Nat} {a b : Int} (h : LineAt C H p a b) (hp : PenC H pn cl n) (u : But pn H H') : LineAt C H' p a b := by
  obtain ⟨dx, e⟩ := h
  exact ⟨dx, ins_pen e hp u⟩
theorem QuoAt.pen {C CP : Addr} {H H' : Hp} {p pn cl : Addr} {n : Nat} {ts us : List Int} (h : QuoAt C CP H p ts us) (hp : PenC H pn cl n) (u : But pn H H') : QuoAt C CP H' p ts us := by
  obtain ⟨dx, q, r, e, h1, h2⟩ := h
  exact ⟨dx, q, r, ins_pen e hp u, h1.but hp.pen u, h2.but hp.pen u⟩
theorem NumQ.pen {CR CP CQo : Addr} {H H' : Hp} {v : V} {pn cl : Addr} {n : Nat} {x : List Int × List Int} (h : NumQ CR CP CQo H v x) (hp : PenC H pn cl n) (u : But pn H H') : NumQ CR CP CQo H' v x := by
  rcases h with ⟨p, e, q⟩ | ⟨t, d, nn, h⟩
  · exact .inl ⟨p, e, q.pen hp u⟩
  · refine .inr ⟨t, d, ?_, h⟩
    rcases nn with ⟨p, e, dx, g⟩ | nn
    · exact .inl ⟨p, e, dx, ins_pen g hp u⟩
    · exact .inr nn
/-- the quotients that the law draws -/
def Drawn (x : List Int × List Int) : Prop := ∃ t l : Int, -4 ≤ t ∧ t ≤ 4 ∧ 1 ≤ l ∧ l ≤ 3 ∧ (x = (trim [t], [1]) ∨ x = (trim [lowT t l], [lowB t l]) ∨ x = ([t, 1], [l]) ∨ x = (trim [t], [l, 1]) ∨ x = ([], [1]))
def spLine (CL : Addr) : Sp := fun vs H Q _ => ∃ (pn cl : Addr) (n : Nat), vs = [.ref pn] ∧ PenC H pn cl n ∧ n < 90000 ∧ ∀ (q : Addr) (a b : Int) (H' : Hp), LineAt CL H' q a b → PenC H' pn cl (n + 2) → But pn H H' → H q = none → Q (.ref q) H'
def spNumber (CR CP CQo : Addr) : Sp := fun vs H Q _ => ∃ (pn cl : Addr) (n : Nat), vs = [.ref pn] ∧ PenC H pn cl n ∧ n < 90000 ∧ ∀ (v : V) (x : List Int × List Int) (H' : Hp), NumQ CR CP CQo H' v x → Drawn x → PenC H' pn cl (n + 3) → But pn H H' → Q v H'
def spAsq (CR CP CQo : Addr) : Sp := fun vs H Q _ => ∃ (v : V) (x : List Int × List Int), vs = [v] ∧ NumQ CR CP CQo H v x ∧ ∀ q H', QuoAt CQo CP H' q x.1 x.2 → Same H H' → Q (.ref q) H'
def spRising (CL : Addr) : Sp := fun vs H Q _ => ∃ (pn cl : Addr) (n : Nat), vs = [.ref pn] ∧ PenC H pn cl n ∧ n < 90000 ∧ ∀ (l p q : Addr) (a b c d : Int) (H' : Hp), LineAt CL H' p a b → LineAt CL H' q c d → a < c → H' l = some (.lst [.ref p, .ref q]) → PenC H' pn cl (n + 4) → But pn H H' → H l = none → Q (.ref l) H'
section
variable {P : Program} {w : World} {K : PySem.W.Frag} {mg : Str → Option Value} {base : Heap} {Cs : List Addr} {CL CR CP CQo CN CT CB fB : Addr}
theorem ok_line {f : Addr} {fd : FuncData} (F : Fun K "_law_line" "_law_line" s_line f fd) (T : LTx K mg CL) (D_draw : DefAt P w K mg base CX0 1 "_law_draw" ["_law_pen_here", "_law_many"] spDrawC)
    (M_Line : MakeAt P w K mg base (L2.CX P w) 3 "Line" CL ["self", "slope", "more"] (spLinit CL) []) : FnOk P w K mg base CX0 5 f fd ["_law_pen_here"] (spLine CL) := by
  refine F.ok sc_line (fun vs H Q E h => ?_) (fun cdv A outer s H vs Q E hr h => ?_)
  · obtain ⟨pn, cl, n, rfl, _⟩ := h
    rfl
  · obtain ⟨pn, cl, n, rfl, hp, hn, k⟩ := h
    refine ⟨_, (pss_one (ps_ret (My.pe_mk M_Line (hr.mono (by decide)) (by rfl) passL (pa_cons (pe_op op_sub (My.pe_d D_draw (hr.mono (by decide)) (by rfl) pass0 (pa_cons (pv 0) (pa_cons pe_int pa_nil))) pe_int) (pa_cons (pe_op op_sub (My.pe_d D_draw (hr.mono (by decide)) (by rfl) pass0 (pa_cons (pv 0) (pa_cons pe_int pa_nil))) pe_int) pa_nil))))), ?_⟩
    refine ⟨_, rfl, pn, cl, 5, n, rfl, by decide, by decide, hp, by omega, fun d1 H1 a1 b1 p1 u1 => ⟨_, _, rfl, rfl, ?_⟩⟩
    refine ⟨_, rfl, pn, cl, 9, _, rfl, by decide, by decide, p1, by omega, fun d2 H2 a2 b2 p2 u2 => ⟨_, _, rfl, rfl, ?_⟩⟩
    intro x dx hx hd ne
    have u12 := u1.trans u2
    have xp : x ≠ pn := pen_ne p2.pen hx
    have hx0 : H x = none := by
      cases e : H x with
      | none => rfl
      | some o =>
        rw [u12 x o e xp] at hx
        cases hx
    exact linit_at hx hd ne fun H3 l3 s3 => k x _ _ H3 l3 (p2.same s3) (u12.trans (but_same s3)) hx0
theorem ok_rising {f : Addr} {fd : FuncData} (F : Fun K "_law_rising" "_law_rising" s_rising f fd) (T : LTx K mg CL) (D_draw : DefAt P w K mg base CX0 1 "_law_draw" ["_law_pen_here", "_law_many"] spDrawC)
    (D_line : DefAt P w K mg base CX0 5 "_law_line" ["_law_pen_here"] (spLine CL)) (O_ladd : CmpAt P w K mg base CX0 6 CL "__add__" ["self", "other"] (spLadd CL)) (B_ladd : BinF K CL (Operator.info .Add).2)
    (M_Line : MakeAt P w K mg base (L2.CX P w) 3 "Line" CL ["self", "slope", "more"] (spLinit CL) []) : FnOk P w K mg base CX0 8 f fd ["_law_pen_here"] (spRising CL) := by
  refine F.ok sc_rising (fun vs H Q E h => ?_) (fun cdv A outer s H vs Q E hr h => ?_)
  · obtain ⟨pn, cl, n, rfl, _⟩ := h
    rfl
  · obtain ⟨pn, cl, n, rfl, hp, hn, k⟩ := h
    refine ⟨_, (pss_cons (ps_set (i := 1) sc_rising.nd rfl (Or.inl rfl) (My.pe_d D_line (hr.mono (by decide)) (by rfl) pass0 (pa_cons (pv 0) pa_nil)))
      (pss_one (ps_ret (pe_lst (pa_cons (pv 1) (pa_cons (pe_op (My.op_binO O_ladd B_ladd (hr.mono (by decide)) pass0) (pv 1) (My.pe_mk M_Line (hr.mono (by decide)) (by rfl) passL (pa_cons (pe_op op_add pe_int (My.pe_d D_draw (hr.mono (by decide)) (by rfl) pass0 (pa_cons (pv 0) (pa_cons pe_int pa_nil)))) (pa_cons (pe_op op_sub (My.pe_d D_draw (hr.mono (by decide)) (by rfl) pass0 (pa_cons (pv 0) (pa_cons pe_int pa_nil))) pe_int) pa_nil)))) pa_nil)))))), ?_⟩
    refine ⟨_, rfl, pn, cl, n, rfl, hp, by omega, fun q a b H1 l1 p1 u1 _ => ?_⟩
    refine ⟨_, rfl, _, rfl, _, rfl, pn, cl, 3, _, rfl, by decide, by decide, p1, by omega, fun d2 H2 a2 b2 p2 u2 => ⟨_, _, rfl, rfl, ?_⟩⟩
    refine ⟨_, rfl, pn, cl, 5, _, rfl, by decide, by decide, p2, by omega, fun d3 H3 a3 b3 p3 u3 => ⟨_, _, rfl, rfl, ?_⟩⟩
    have l3 := (l1.pen p1 u2).pen p2 u3
    intro x dx hx hd ne
    refine linit_at hx hd ne fun H4 m4 s4 => ?_
    have l4 := l3.same s4
    obtain ⟨dq, eq⟩ := id l4
    obtain ⟨dm, em⟩ := id m4
    refine ⟨q, dq, _, rfl, eq, .inl ⟨x, dm, _, rfl, em⟩, q, a, b, .ref x, _, _, rfl, l4, .inl ⟨x, rfl, m4⟩, fun z H5 m5 s5 => ?_⟩
    have p5 := (p3.same s4).same s5
    refine ⟨(by show 2 ≤ sizeLine; decide), fun l hl => ?_⟩
    have u5 : But pn H H5 := ((u1.trans u2).trans u3).trans (but_same (s4.trans s5))
    have hl0 : H l = none := by
      cases e : H l with
      | none => rfl
      | some o =>
        rw [u5 l o e (pen_ne p5.pen hl)] at hl
        cases hl
    have sl := same_new (o := .lst [.ref q, .ref z]) hl
    exact k l q z a b _ _ _ ((l4.same s5).same sl) (m5.same sl) (by omega) upd_same ((p5.same sl).le8 (by omega)) (u5.trans (but_same sl)) hl0
end
end My
set_option pp.maxSteps 1500
set_option pp.deepTerms.threshold 8
/-! ### numbers, other values -/
namespace My
open PySem PySem.Spec PyProof.Rows L2
theorem trim1 {d : Int} (h : d ≠ 0) : trim [d] = [d] := trim_is (fun j hj => by
  have hj : 1 = j + 1 := hj
  have : j = 0 := by omega
  subst this
  exact h) fun _ => rfl
theorem trim2 {t d : Int} (h : d ≠ 0) : trim [t, d] = [t, d] := trim_is (fun j hj => by
  have hj : 2 = j + 1 := hj
  have : j = 1 := by omega
  subst this
  exact h) fun _ => rfl
/-- a value that is no part of a run -/
def OddV (CP : Addr) (H : Hp) (v : V) : Prop := v = .non ∨ v = .bl true ∨ v = .str "1" ∨ v = .int 2 ∨ v = .int 7 ∨ ∃ a, v = .ref a ∧ (H a = some (.tup [.int 1]) ∨ H a = some (.lst []) ∨ H a = some (.dK []) ∨ ∃ ts, PolyAt CP H a ts)
theorem OddV.imp {CP : Addr} {H H' : Hp} {v : V} (h : OddV CP H v) (k : ∀ a, (H a = some (.tup [.int 1]) → H' a = some (.tup [.int 1])) ∧ (H a = some (.lst []) → H' a = some (.lst [])) ∧ (H a = some (.dK []) → H' a = some (.dK [])) ∧ ∀ ts, PolyAt CP H a ts → PolyAt CP H' a ts) : OddV CP H' v := by
  rcases h with h | h | h | h | h | ⟨a, e, h⟩
  · exact .inl h
  · exact .inr (.inl h)
  · exact .inr (.inr (.inl h))
  · exact .inr (.inr (.inr (.inl h)))
  · exact .inr (.inr (.inr (.inr (.inl h))))
  · obtain ⟨k1, k2, k3, k4⟩ := k a
    refine .inr (.inr (.inr (.inr (.inr ⟨a, e, ?_⟩))))
    rcases h with h | h | h | ⟨ts, h⟩
    · exact .inl (k1 h)
    · exact .inr (.inl (k2 h))
    · exact .inr (.inr (.inl (k3 h)))
    · exact .inr (.inr (.inr ⟨ts, k4 ts h⟩))
theorem OddV.ext {CP : Addr} {H H' : Hp} {v : V} (h : OddV CP H v) (x : LamX.ExtN H H') : OddV CP H' v := h.imp fun a => ⟨fun e => x _ _ e (by intro ps z; cases z), fun e => x _ _ e (by intro ps z; cases z), fun e => x _ _ e (by intro ps z; cases z), fun ts p => p.ext x⟩
theorem OddV.same {CP : Addr} {H H' : Hp} {v : V} (h : OddV CP H v) (s : Same H H') : OddV CP H' v := h.imp fun a => ⟨s _ _, s _ _, s _ _, fun ts p => p.same s⟩
theorem OddV.pen {CP : Addr} {H H' : Hp} {v : V} {pn cl : Addr} {n : Nat} (h : OddV CP H v) (hp : PenC H pn cl n) (u : But pn H H') : OddV CP H' v := by
  have hp' := hp
  obtain ⟨ns, a0, r0, g, _⟩ := hp'
  exact h.imp fun a => ⟨fun e => u _ _ e (ne_of e g (by intro z; cases z)), fun e => u _ _ e (ne_of e g (by intro z; cases z)), fun e => u _ _ e (ne_of e g (by intro z; cases z)), fun ts p => p.but hp.pen u⟩
/-- a list at l is changed that has items -/
theorem OddV.put {CP : Addr} {H : Hp} {v : V} {l : Addr} {y : V} {ys : List V} {o : HO} (h : OddV CP H v) (g : H l = some (.lst (y :: ys))) : OddV CP (upd H l o) v := h.imp fun a =>
  ⟨fun e => by rw [upd_ne (ne_of e g (by intro z; cases z))]; exact e, fun e => by rw [upd_ne (ne_of e g (by intro z; cases z))]; exact e, fun e => by rw [upd_ne (ne_of e g (by intro z; cases z))]; exact e, fun ts ⟨dx, t, e, et⟩ => ⟨dx, t, by rw [upd_ne (ne_of e g (by intro z; cases z))]; exact e, by rw [upd_ne (ne_of et g (by intro z; cases z))]; exact et⟩⟩
theorem OddV.put' {CP : Addr} {H : Hp} {v : V} {l : Addr} {ys : List V} {o : HO} (h : OddV CP H v) (g : H l = some (.lst ys)) (n : ∀ a, v = .ref a → H a = some (.lst []) → a ≠ l) : OddV CP (upd H l o) v := by
  rcases h with h | h | h | h | h | ⟨a, e, h⟩
  · exact .inl h
  · exact .inr (.inl h)
  · exact .inr (.inr (.inl h))
  · exact .inr (.inr (.inr (.inl h)))
  · exact .inr (.inr (.inr (.inr (.inl h))))
  · refine .inr (.inr (.inr (.inr (.inr ⟨a, e, ?_⟩))))
    rcases h with h | h | h | ⟨ts, dx, t, h, ht⟩
    · exact .inl (by rw [upd_ne (ne_of h g (by intro z; cases z))]; exact h)
    · exact .inr (.inl (by rw [upd_ne (n a e h)]; exact h))
    · exact .inr (.inr (.inl (by rw [upd_ne (ne_of h g (by intro z; cases z))]; exact h)))
    · exact .inr (.inr (.inr ⟨ts, dx, t, by rw [upd_ne (ne_of h g (by intro z; cases z))]; exact h, by rw [upd_ne (ne_of ht g (by intro z; cases z))]; exact ht⟩))
theorem OddV.any {Cs : List Addr} {CP : Addr} (inn : CP ∈ Cs) {H : Hp} {v : V} (h : OddV CP H v) : AnyF Cs H v ∧ ∀ C, C ≠ CP → notIns C H v := by
  have tyc : ∀ {t : String}, Ty0 H v t → AnyF Cs H v ∧ ∀ C, C ≠ CP → notIns C H v := fun {t} ty => ⟨.inl ⟨t, ty⟩, fun C _ a dx fs e e2 => by
    subst e
    cases ty with
    | lst g => rw [g] at e2; cases e2
    | tup g => rw [g] at e2; cases e2
    | dK g => rw [g] at e2; cases e2⟩
  rcases h with rfl | rfl | rfl | rfl | rfl | ⟨a, rfl, h | h | h | ⟨ts, dx, t, h, _⟩⟩
  · exact tyc .non
  · exact tyc (.bl _)
  · exact tyc (.str _)
  · exact tyc (.int _)
  · exact tyc (.int _)
  · exact tyc (.tup h)
  · exact tyc (.lst h)
  · exact tyc (.dK h)
  · refine ⟨.inr ⟨CP, inn, a, dx, _, rfl, h⟩, fun C ne b dy fs e e2 => ?_⟩
    cases e
    rw [h] at e2
    cases e2
    exact ne rfl
theorem OddV.int {CP : Addr} {H : Hp} {z : Int} (h : OddV CP H (.int z)) : z = 2 ∨ z = 7 := by
  rcases h with h | h | h | h | h | ⟨a, h, _⟩
  · cases h
  · cases h
  · cases h
  · exact .inl (V.int.inj h)
  · exact .inr (V.int.inj h)
  · cases h
def spOdd (CP : Addr) : Sp := fun vs H Q _ => ∃ (pn cl : Addr) (n : Nat), vs = [.ref pn] ∧ PenC H pn cl n ∧ n < 90000 ∧ ∀ (v : V) (H' : Hp), OddV CP H' v → (∀ a, v = .ref a → H' a = some (.lst []) → H a = none) → PenC H' pn cl (n + 1) → But pn H H' → Q v H'
section
variable {P : Program} {w : World} {K : PySem.W.Frag} {mg : Str → Option Value} {base : Heap} {Cs : List Addr} {CL CR CP CQo CN CT CB fB : Addr}
theorem ok_odd {f : Addr} {fd : FuncData} (F : Fun K "_law_odd" "_law_odd" s_odd f fd) (T : NTx P K mg Cs CL CR CP CQo CN CT CB fB) (D_pick : DefAt P w K mg base CX0 2 "_law_pick" ["_law_pen_here", "_law_some"] spPickC)
    (M_Poly : MakeR P w K mg base (L2.CX P w) 3 "Poly" CP (spPoly CP)) : FnOk P w K mg base CX0 5 f fd ["_law_pen_here"] (spOdd CP) := by
  refine F.ok sc_odd (fun vs H Q E h => ?_) (fun cdv A outer s H vs Q E hr h => ?_)
  · obtain ⟨pn, cl, n, rfl, _⟩ := h
    rfl
  · obtain ⟨pn, cl, n, rfl, hp, hn, k⟩ := h
    refine ⟨_, (pss_one (ps_ret (My.pe_d D_pick (hr.mono (by decide)) (by rfl) pass0 (pa_cons (pv 0) (pa_cons (pe_lst (pa_cons pe_non (pa_cons pe_bl (pa_cons pe_str (pa_cons pe_int (pa_cons (pe_tup (pa_cons pe_int pa_nil)) (pa_cons (pe_lst pa_nil) (pa_cons pe_dnewK (pa_cons (My.pe_mkR M_Poly (hr.mono (by decide)) (by rfl) passL (pa_cons pe_int pa_nil)) (pa_cons (My.pe_mkR0 M_Poly (hr.mono (by decide)) (by rfl) passL) (pa_cons pe_int pa_nil))))))))))) pa_nil))))), ?_⟩
    refine ⟨_, rfl, (by show 1 ≤ sizeLine; decide), fun a1 k1 => ⟨(by show 0 ≤ sizeLine; decide), fun a2 k2 => fun a3 k3 => ?_⟩⟩
    have q1 := same_new (o := .tup [.int 1]) k1
    have q2 := same_new (o := .lst []) k2
    have q3 := same_new (o := .dK []) k3
    have A1 := q3 _ _ (q2 _ _ (upd_same (H := H) (a := a1) (o := .tup [.int 1])))
    have A2 := q3 _ _ (upd_same (H := upd H a1 (.tup [.int 1])) (a := a2) (o := .lst []))
    have A3 := upd_same (H := upd (upd H a1 (.tup [.int 1])) a2 (.lst [])) (a := a3) (o := .dK [])
    have s3 := (q1.trans q2).trans q3
    generalize upd (upd (upd H a1 (.tup [.int 1])) a2 (.lst [])) a3 (.dK []) = H3 at A1 A2 A3 s3 ⊢
    refine poly_ints [1] (by show 1 ≤ 1000; decide) fun p4 H4 l4 s4 => poly_ints [] (by show 0 ≤ 1000; decide) fun p5 H5 l5 s5 => ⟨(by show 10 ≤ sizeLine; decide), fun l hl => ?_⟩
    have s45 := s4.trans s5
    have s35 := s3.trans s45
    have sl := same_new (o := .lst [.non, .bl true, .str "1", .int 2, .ref a1, .ref a2, .ref a3, .ref p4, .ref p5, .int 7]) hl
    have s46 := s45.trans sl
    refine ⟨pn, cl, l, n, _, rfl, upd_same, pen_ne (hp.same s35).pen hl, (by show 0 < 10; decide), (by show 10 ≤ 1000; decide), hp.same (s35.trans sl), by omega, fun v H6 hv p6 u6 => ?_⟩
    have pz := hp.same (s35.trans sl)
    have kp : ∀ {a : Addr} {o : HO}, upd H5 l (.lst [.non, .bl true, .str "1", .int 2, .ref a1, .ref a2, .ref a3, .ref p4, .ref p5, .int 7]) a = some o → (∀ xs, o ≠ .lst xs) → H6 a = some o := fun {a o} e no => by
      obtain ⟨ns, a0, r0, g, _⟩ := pz
      exact u6 _ _ e (ne_of e g (no _))
    suffices g : OddV CP (upd H5 l (.lst [.non, .bl true, .str "1", .int 2, .ref a1, .ref a2, .ref a3, .ref p4, .ref p5, .int 7])) v ∧ ∀ a, v = .ref a → H6 a = some (.lst []) → H a = none from k v H6 (g.1.pen pz u6) g.2 p6 ((but_same (s35.trans sl)).trans u6)
    have nr : ∀ {u : V}, (∀ a, u ≠ .ref a) → ∀ a, u = .ref a → H6 a = some (.lst []) → H a = none := fun h a e => absurd e (h a)
    have no : ∀ {b : Addr} {o : HO}, H6 b = some o → (∀ xs, o ≠ .lst xs) → ∀ a, V.ref b = .ref a → H6 a = some (.lst []) → H a = none := fun {b o} e n a ea el => by
      cases ea
      rw [e] at el
      cases el
      exact absurd rfl (n [])
    simp only [List.mem_cons, List.mem_nil_iff, or_false] at hv
    rcases hv with rfl | rfl | rfl | rfl | rfl | rfl | rfl | rfl | rfl | rfl
    · exact ⟨.inl rfl, nr fun a z => nomatch z⟩
    · exact ⟨.inr (.inl rfl), nr fun a z => nomatch z⟩
    · exact ⟨.inr (.inr (.inl rfl)), nr fun a z => nomatch z⟩
    · exact ⟨.inr (.inr (.inr (.inl rfl))), nr fun a z => nomatch z⟩
    · exact ⟨.inr (.inr (.inr (.inr (.inr ⟨a1, rfl, .inl (s46 _ _ A1)⟩)))), no (kp (s46 _ _ A1) fun xs z => nomatch z) fun xs z => nomatch z⟩
    · refine ⟨.inr (.inr (.inr (.inr (.inr ⟨a2, rfl, .inr (.inl (s46 _ _ A2))⟩)))), fun a ea _ => ?_⟩
      cases ea
      cases e : H a2 with
      | none => rfl
      | some o =>
        rw [q1 _ _ e] at k2
        cases k2
    · exact ⟨.inr (.inr (.inr (.inr (.inr ⟨a3, rfl, .inr (.inr (.inl (s46 _ _ A3)))⟩)))), no (kp (s46 _ _ A3) fun xs z => nomatch z) fun xs z => nomatch z⟩
    · have lz := (l4.same s5).same sl
      obtain ⟨dx, t, e, _⟩ := id lz
      exact ⟨.inr (.inr (.inr (.inr (.inr ⟨p4, rfl, .inr (.inr (.inr ⟨_, lz⟩))⟩)))), no (kp e fun xs z => nomatch z) fun xs z => nomatch z⟩
    · have lz := l5.same sl
      obtain ⟨dx, t, e, _⟩ := id lz
      exact ⟨.inr (.inr (.inr (.inr (.inr ⟨p5, rfl, .inr (.inr (.inr ⟨_, lz⟩))⟩)))), no (kp e fun xs z => nomatch z) fun xs z => nomatch z⟩
    · exact ⟨.inr (.inr (.inr (.inr (.inl rfl)))), nr fun a z => nomatch z⟩
theorem ok_number {f : Addr} {fd : FuncData} (F : Fun K "_law_number" "_law_number" s_number f fd) (T : NTx P K mg Cs CL CR CP CQo CN CT CB fB) (D_draw : DefAt P w K mg base CX0 1 "_law_draw" ["_law_pen_here", "_law_many"] spDrawC) (D_pick : DefAt P w K mg base CX0 2 "_law_pick" ["_law_pen_here", "_law_some"] spPickC)
    (M_Ratio : MakeAt P w K mg base (L2.CX P w) 3 "Ratio" CR ["self", "top", "bottom"] (spRinit CR) []) (M_Poly : MakeR P w K mg base (L2.CX P w) 3 "Poly" CP (spPoly CP)) (M_Quotient : MakeAt P w K mg base (L2.CX P w) 6 "Quotient" CQo ["self", "top", "bottom"] (spQinit CQo CP) []) :
    FnOk P w K mg base CX0 8 f fd ["_law_pen_here"] (spNumber CR CP CQo) := by
  refine F.ok sc_number (fun vs H Q E h => ?_) (fun cdv A outer s H vs Q E hr h => ?_)
  · obtain ⟨pn, cl, n, rfl, _⟩ := h
    rfl
  · obtain ⟨pn, cl, n, rfl, hp, hn, k⟩ := h
    refine ⟨_, (pss_cons (ps_par (i := 1) (j := 2) (by rfl) sc_number.nd rfl rfl (by decide) rfl rfl (pa_cons (pe_op op_sub (My.pe_d D_draw (hr.mono (by decide)) (by rfl) pass0 (pa_cons (pv 0) (pa_cons pe_int pa_nil))) pe_int) (pa_cons (pe_op op_add pe_int (My.pe_d D_draw (hr.mono (by decide)) (by rfl) pass0 (pa_cons (pv 0) (pa_cons pe_int pa_nil)))) pa_nil)) (by rfl))
      (pss_cons (ps_set (i := 3) sc_number.nd rfl (Or.inl rfl) (pe_lst (pa_cons (pv 1) (pa_cons (My.pe_mk M_Ratio (hr.mono (by decide)) (by rfl) passL (pa_cons (pv 1) (pa_cons (pv 2) pa_nil))) (pa_cons (My.pe_mk M_Quotient (hr.mono (by decide)) (by rfl) passL (pa_cons (My.pe_mkR M_Poly (hr.mono (by decide)) (by rfl) passL (pa_cons (pv 1) (pa_cons pe_int pa_nil))) (pa_cons (My.pe_mkR M_Poly (hr.mono (by decide)) (by rfl) passL (pa_cons (pv 2) pa_nil)) pa_nil))) (pa_cons (My.pe_mk M_Quotient (hr.mono (by decide)) (by rfl) passL (pa_cons (My.pe_mkR M_Poly (hr.mono (by decide)) (by rfl) passL (pa_cons (pv 1) pa_nil)) (pa_cons (My.pe_mkR M_Poly (hr.mono (by decide)) (by rfl) passL (pa_cons (pv 2) (pa_cons pe_int pa_nil))) pa_nil))) (pa_cons pe_int pa_nil)))))))
      (pss_one (ps_ret (My.pe_d D_pick (hr.mono (by decide)) (by rfl) pass0 (pa_cons (pv 0) (pa_cons (pv 3) pa_nil))))))), ?_⟩
    refine ⟨_, rfl, pn, cl, 9, n, rfl, by decide, by decide, hp, by omega, fun d1 H1 a1 b1 p1 u1 => ⟨_, _, rfl, rfl, ?_⟩⟩
    refine ⟨_, rfl, pn, cl, 3, _, rfl, by decide, by decide, p1, by omega, fun d2 H2 a2 b2 p2 u2 => ⟨_, _, rfl, rfl, _, _, rfl, ?_⟩⟩
    have m0 : 1 + d2 ≠ 0 := by omega
    have lm : (1 + d2).natAbs.log2 < 9000 := Nat.lt_of_lt_of_le (PySem.Flt.log2_lt_of (k := 20) (by decide) (by show _ < 1048576; omega)) (by decide)
    refine ⟨_, rfl, _, rfl, _, rfl, fun x3 dx hx hd ne => rinit_at m0 lm hx hd ne fun H3 l3 s3 => ?_⟩
    refine ⟨_, rfl, poly_ints [d1 - 4, 1] (by show 2 ≤ 1000; decide) fun q1 H4 l4 s4 => ⟨_, rfl, poly_ints [1 + d2] (by show 1 ≤ 1000; decide) fun q2 H5 l5 s5 => ?_⟩⟩
    rw [trim2 (by decide)] at l4
    rw [trim1 m0] at l5
    refine fun x6 dx6 hx6 hd6 ne6 => qinit_at (.inl ⟨q1, rfl, l4.same s5⟩) (.inl ⟨q2, rfl, l5⟩) (by simp) hx6 hd6 ne6 fun H6 l6 s6 => ?_
    refine ⟨_, rfl, poly_ints [d1 - 4] (by show 1 ≤ 1000; decide) fun q3 H7 l7 s7 => ⟨_, rfl, poly_ints [1 + d2, 1] (by show 2 ≤ 1000; decide) fun q4 H8 l8 s8 => ?_⟩⟩
    rw [trim2 (by decide)] at l8
    refine fun x9 dx9 hx9 hd9 ne9 => qinit_at (.inl ⟨q3, rfl, l7.same s8⟩) (.inl ⟨q4, rfl, l8⟩) (by simp) hx9 hd9 ne9 fun H9 l9 s9 => ?_
    refine ⟨(by show 5 ≤ sizeLine; decide), fun l hl => ?_⟩
    have sl := same_new (o := .lst [.int (d1 - 4), .ref x3, .ref x6, .ref x9, .int 0]) hl
    have s39 := ((((s4.trans s5).trans s6).trans s7).trans s8).trans s9
    have s29 := s3.trans s39
    refine ⟨_, rfl, _, rfl, pn, cl, l, _, _, rfl, upd_same, pen_ne (p2.same s29).pen hl, (by show 0 < 5; decide), (by show 5 ≤ 1000; decide), p2.same (s29.trans sl), by omega, fun v H10 hv p10 u10 => ?_⟩
    have pz := p2.same (s29.trans sl)
    have uz : But pn H H10 := ((u1.trans u2).trans (but_same (s29.trans sl))).trans u10
    have R3 : NumQ CR CP CQo H10 (.ref x3) (trim [lowT (d1 - 4) (1 + d2)], [lowB (d1 - 4) (1 + d2)]) := by
      refine NumQ.pen ?_ pz u10
      refine .inr ⟨_, _, .inl ⟨x3, rfl, l3.same (s39.trans sl)⟩, lowB_pos m0, low_cop m0, ?_, rfl⟩
      exact log_le (lowB_abs m0) lm (by have := lowB_pos (t := d1 - 4) m0; omega)
    have R6 : NumQ CR CP CQo H10 (.ref x6) ([d1 - 4, 1], [1 + d2]) := NumQ.pen (.inl ⟨x6, rfl, (((l6.same s7).same s8).same s9).same sl⟩) pz u10
    have R9 : NumQ CR CP CQo H10 (.ref x9) (trim [d1 - 4], [1 + d2, 1]) := NumQ.pen (.inl ⟨x9, rfl, l9.same sl⟩) pz u10
    have ri : ∀ i : Int, NumQ CR CP CQo H10 (.int i) (trim [i], [1]) := fun i => .inr ⟨i, 1, .inr ⟨rfl, rfl⟩, by decide, Int.gcd_one_right i, by decide, rfl⟩
    have b : -4 ≤ d1 - 4 ∧ d1 - 4 ≤ 4 ∧ 1 ≤ 1 + d2 ∧ 1 + d2 ≤ 3 := ⟨by omega, by omega, by omega, by omega⟩
    have dr : ∀ x : List Int × List Int, (x = (trim [d1 - 4], [1]) ∨ x = (trim [lowT (d1 - 4) (1 + d2)], [lowB (d1 - 4) (1 + d2)]) ∨ x = ([d1 - 4, 1], [1 + d2]) ∨ x = (trim [d1 - 4], [1 + d2, 1]) ∨ x = ([], [1])) → Drawn x := fun x h => ⟨_, _, b.1, b.2.1, b.2.2.1, b.2.2.2, h⟩
    simp only [List.mem_cons, List.mem_nil_iff, or_false] at hv
    rcases hv with rfl | rfl | rfl | rfl | rfl
    · exact k _ _ H10 (ri _) (dr _ (.inl rfl)) (p10.le8 (by omega)) uz
    · exact k _ _ H10 R3 (dr _ (.inr (.inl rfl))) (p10.le8 (by omega)) uz
    · exact k _ _ H10 R6 (dr _ (.inr (.inr (.inl rfl)))) (p10.le8 (by omega)) uz
    · exact k _ _ H10 R9 (dr _ (.inr (.inr (.inr (.inl rfl))))) (p10.le8 (by omega)) uz
    · exact k _ _ H10 (ri 0) (dr _ (.inr (.inr (.inr (.inr rfl))))) (p10.le8 (by omega)) uz
theorem ok_asq {f : Addr} {fd : FuncData} (F : Fun K "_law_as_quotient" "_law_as_quotient" s_asq f fd) (T : NTx P K mg Cs CL CR CP CQo CN CT CB fB)
    (M_Poly : MakeR P w K mg base (L2.CX P w) 3 "Poly" CP (spPoly CP)) (M_Quotient : MakeAt P w K mg base (L2.CX P w) 6 "Quotient" CQo ["self", "top", "bottom"] (spQinit CQo CP) []) (M_Quotient1 : MakeAt P w K mg base (L2.CX P w) 6 "Quotient" CQo ["self", "top", "bottom"] (spQinit CQo CP) [.int 1]) :
    FnOk P w K mg base CX0 8 f fd ["_law_number_here"] (spAsq CR CP CQo) := by
  refine F.ok sc_asq (fun vs H Q E h => ?_) (fun cdv A outer s H vs Q E hr h => ?_)
  · obtain ⟨v, x, rfl, _⟩ := h
    rfl
  · obtain ⟨v, x, rfl, hv, k⟩ := h
    refine ⟨_, (pss_cons (ps_if (pt_val (pe_callB call_isi (by rfl) T.z_isinstance boot_isinstance (pa_cons (pv 0) (pa_cons (pe_glob (v := .ref CQo) (by rfl) T.gQo rfl) pa_nil)))) (pss_one (ps_ret (pv 0))) pss_nil)
      (pss_cons (ps_if (pt_val (pe_callB call_isi (by rfl) T.z_isinstance boot_isinstance (pa_cons (pv 0) (pa_cons (pe_bltn (v := .ty "int") (by rfl) T.z_int boot_int rfl) pa_nil)))) (pss_one (ps_ret (My.pe_mk M_Quotient1 (hr.mono (by decide)) (by rfl) passL (pa_cons (My.pe_mkR M_Poly (hr.mono (by decide)) (by rfl) passL (pa_cons (pv 0) pa_nil)) pa_nil)))) pss_nil)
      (pss_one (ps_ret (My.pe_mk M_Quotient (hr.mono (by decide)) (by rfl) passL (pa_cons (My.pe_mkR M_Poly (hr.mono (by decide)) (by rfl) passL (pa_cons (pe_fld (pv 0) rfl) pa_nil)) (pa_cons (My.pe_mkR M_Poly (hr.mono (by decide)) (by rfl) passL (pa_cons (pe_fld (pv 0) rfl) pa_nil)) pa_nil))))))), ?_⟩
    have nd := T.nd
    simp only [List.nodup_cons, List.mem_cons, List.mem_nil_iff, or_false, not_or] at nd
    rcases hv with ⟨p, rfl, hq⟩ | ⟨t, d, hn, d0, hg, hl, rfl⟩
    · obtain ⟨dx, q, r, e, _, _⟩ := id hq
      exact ⟨_, rfl, _, _, _, _, true, rfl, .own _, T.ownQ.ty e, T.ownQ.me, _, rfl, iteT ⟨_, rfl, k p H hq fun _ _ e => e⟩⟩
    · rcases hn with ⟨p, rfl, dx, e⟩ | ⟨rfl, rfl⟩
      · refine ⟨_, rfl, _, _, _, _, false, rfl, .own _, T.tr.own.ty e, (T.fam.cross CR T.tr.inn CQo T.innQ nd.2.1.2.1).1, _, rfl, iteF ?_⟩
        refine ⟨_, rfl, _, _, _, _, false, rfl, .ty _, T.tr.own.ty e, T.tr.own.noInt, _, rfl, iteF ?_⟩
        have er : RatAt CR H p t d := ⟨dx, e⟩
        refine ⟨_, rfl, p, CR, dx, _, _, rfl, e, T.tr.cl, T.tr.nT, rfs_top _ _, poly_ints [t] (by show 1 ≤ 1000; decide) fun q1 H1 l1 s1 => ?_⟩
        refine ⟨_, rfl, p, CR, dx, _, _, rfl, s1 _ _ e, T.tr.cl, T.tr.nB, rfs_bot _ _, poly_ints [d] (by show 1 ≤ 1000; decide) fun q2 H2 l2 s2 => ?_⟩
        rw [trim1 (by omega)] at l2
        intro x dx3 hx hd ne
        exact qinit_at (.inl ⟨q1, rfl, l1.same s2⟩) (.inl ⟨q2, rfl, l2⟩) (by simp) hx hd ne fun H3 l3 s3 => k x H3 l3 ((s1.trans s2).trans s3)
      · refine ⟨_, rfl, _, _, _, _, false, rfl, .own _, (Ty0.int t).tyx, (T.ownQ.kn _ (.head _)).1, _, rfl, iteF ?_⟩
        refine ⟨_, rfl, _, _, _, _, true, rfl, .ty _, (Ty0.int t).tyx, kit_ty (by decide +kernel), _, rfl, iteT ?_⟩
        refine ⟨_, rfl, poly_ints [t] (by show 1 ≤ 1000; decide) fun q1 H1 l1 s1 => ?_⟩
        intro x dx3 hx hd ne
        exact qinit_at (bv := .int 1) (us := [1]) (.inl ⟨q1, rfl, l1⟩) (.inr ⟨1, rfl, (trim1 (by decide)).symm⟩) (by simp) hx hd ne fun H3 l3 s3 => k x H3 l3 (s1.trans s3)
end
end My
namespace My
open PySem PySem.Spec PyProof.Rows L2
abbrev s_heard : Stmt := topS 76
theorem sc_heard : FnScope ["_law_ask", "_law_shown", "error"] ["_law_ask"] (defScope s_heard) := ⟨rfl, rfl, rfl, by decide +kernel, rfl, by decide +kernel, by decide +kernel⟩
/-- isinstance(error, D) within the suite that has caught it -/
def rIsS (K : PySem.W.Frag) (a : Addr) (cls : Value) (d : Option Addr) : List V → Hp → VK → Prop := fun xs H Q => ∃ (C dd : Addr) (fs : List (Str × V)) (c : V) (cv : Value) (b : Bool), xs = [.ref a, c] ∧ cls = .ref C ∧ d = some dd ∧ H dd = some (.xd fs) ∧ ClsV c cv ∧ ExcK K C ∧ PySem.W.kitOne K (.ref C) cv = some b ∧ Q (.bl b) H
theorem call_isS {X : Cx} {a : Addr} {oe : Obj} {cls : Value} {d : Option Addr} {pn : List (Addr × Obj)} (hz : Zc cls d oe) (hf : ∃ vs, oe.data = .fields vs) : CallR (X.suite a ((a, oe) :: pn)) (.builtin "isinstance") (rIsS X.K a cls d) := by
  intro pins s σ H xs us Q I r h
  obtain ⟨C, dd, fs, c, cv, b, rfl, rfl, rfl, hx, k, T, e, q⟩ := h
  obtain ⟨u1, u2, rfl, r1, r2⟩ := vals2 r
  cases (show u1 = Value.ref a from r1)
  have e2 := k.eq r2
  subst e2
  obtain ⟨ha, _⟩ := I.pin (a, oe) (List.mem_append_left _ List.mem_cons_self)
  obtain ⟨vs, hd⟩ := hf
  obtain ⟨mA, hns, _⟩ := (show ObjOk X.prog X.w H s.heap dd (.xd fs) from I.hok dd _ hx)
  obtain ⟨od, ho, _⟩ := lookIn_ns hns
  have J : PySem.W.InstAt s.heap a oe C (some od) := ⟨ha, hz.1, by unfold PySem.W.notCls; rw [hd] <;> rfl, by rw [hz.2]; exact ho⟩
  exact PySem.W.kia_one (PySem.W.kitx_exc T.cl T.ga T.gg T.sb T.ha T.hn T.ht T.hm) I.kIn J e (fun z => nomatch z) fun t => ⟨.bl b, H, I.tok t, rfl, q⟩
/-- what the top has written of the errors' classes -/
structure HTx (P : Program) (K : PySem.W.Frag) (mg : Str → Option Value) (CE CB fB : Addr) : Prop extends BI mg where
  gClip : mg "ClipError" = some (.ref CE)
  e_BadTable : Sup.Err1 P K mg "BadTable" "part" CB fB
  xB : PySem.W.exmOne K (.ref CB) (.ref CE) = some true
  kB : ExcK K CB
  iBB : PySem.W.kitOne K (.ref CB) (.ref CB) = some true
/-- what heard hands back of an error -/
def WHeard (CB : Addr) (Q : VK) : XK := fun cls d H => ∃ dd v, cls = .ref CB ∧ d = some dd ∧ H dd = some (.xd [("part", v)]) ∧ Q v H
def THeard (CB : Addr) : (XK → Hp → VK → Prop) → Hp → VK → Prop := fun tl H Q => ∀ Q' : VK, (∀ v H', Q .non H' → Q' v H') → tl (WHeard CB Q) H Q'
theorem len3 {σ : List (Option V)} (h : σ.length = 3) : ∃ x y z, σ = [x, y, z] := by
  rcases σ with _ | ⟨x, _ | ⟨y, _ | ⟨z, _ | ⟨u, r⟩⟩⟩⟩
  · cases h
  · cases h
  · cases h
  · exact ⟨x, y, z, rfl⟩
  · simp at h
theorem heard_gives {X : Cx} {CE CB fB : Addr} (T : HTx X.prog X.K X.mg CE CB fB) {k : Nat} (hrX : Room (k + 1) X.A) (hgX : X.A.guards = some []) {g : Addr} {cdg : Value} {q : Str} :
    LamX.GivesTo X ["_law_ask", "_law_shown", "error"] "_law_heard" (defScope s_heard) g cdg (defBody s_heard) "_law_ask" q (THeard CB) := by
  intro f c' s H Q tl act hc h
  refine ⟨_, (pss_cons (ps_set (i := 1) sc_heard.nd rfl (Or.inl rfl) pe_non)
      (pss_cons (ps_try_mix (X := (cxOf C8.CX0 X.prog X.w X.K X.mg X.base ["_law_ask", "_law_shown", "error"] "_law_heard" (defScope s_heard) g cdg X.A X.stack s H C8.E0).nox)
    (tb := fun W D σ H => ∃ Ech : XK, (∀ cls d σ' H', Ech cls d H' → W cls d σ' H') ∧ σ[0]? = some (some (.ref f)) ∧ H c' = some (LamX.CodeO c' q) ∧ tl Ech H fun _ H' => D.nx σ H')
    (Wout := fun _ _ _ _ => False) rfl rfl sc_heard.nd LamX.takes0 (fun W pn xe tk _ => ?_) (Mixed.named (c := .ref CE) (i := 2) ⟨rfl, by decide, .inl T.gClip⟩ rfl rfl (fun a oe cls d pn hz hf => pss_one (ps_set (i := 1) sc_heard.nd rfl (Or.inl rfl) (pe_ifExp (pt_val (pe_callB (My.call_isS hz hf) (by rfl) T.z_isinstance boot_isinstance (pa_cons (pv 2) (pa_cons (pe_glob (v := .ref CB) (by rfl) T.e_BadTable.gC rfl) pa_nil)))) (pe_xf T.e_BadTable.rd T.e_BadTable.nf hz hf (pv 2)) pe_str))) Mixed.nil))
      (pss_one (ps_ret (pv 1))))), ?_⟩
  · refine ⟨fun pins s' σ H' D I h' => ?_⟩
    obtain ⟨Ech, hW, h1, h2, h3⟩ := h'
    exact (pss_one (ps_expr (act W pn xe Ech _ _ tk hW))).run pins s' σ H' D I ⟨h1, h2, h3⟩
  · refine ⟨WHeard CB Q, ?_, rfl, hc, ?_⟩
    · intro cls d σ' H' hw
      obtain ⟨dd, v, rfl, rfl, hd, kk⟩ := hw
      refine ⟨true, T.xB, fun _ a na hl => ?_, fun z => Bool.noConfusion z⟩
      obtain ⟨x0, x1, x2, rfl⟩ := len3 hl
      exact ⟨_, rfl, CB, dd, _, _, _, true, rfl, rfl, rfl, hd, .own _, T.kB, T.iBB, _, rfl, iteT ⟨_, rfl, rfl, rfl, dd, _, v, rfl, hd, by simp [List.lookup], _, rfl, kk⟩⟩
    · exact h _ fun v H' hq => ⟨_, rfl, hq⟩
/-- heard as it stands in the module -/
structure HeardAt (K : PySem.W.Frag) (mg : Str → Option Value) : Prop where
  ex : ∃ g fd, Fun K "_law_heard" "_law_heard" s_heard g fd ∧ mg "_law_heard" = some (.ref g) ∧ L2.Binds K fd ["_law_ask"] []
/-- heard(lambda: body) -/
theorem pe_heard {X : Cx} {CE CB fB : Addr} {TS : List (Addr × Str)} {c P : Addr} {k : Nat} {params : Arguments} {body : Expr} {scope : Scope} {t : XK → TE} {p lpos pos : Pos}
    (D : HeardAt X.K X.mg) (T : HTx X.prog X.K X.mg CE CB fB) (hgd : X.A.guards = some []) (hr : Room (k + 2) X.A) (TB : LamX.TabB X.base X.mg c P) (hcode : X.env.code = .ref c) (hmT : (P, X.env.qual ++ "<lambda>") ∈ TS) (hu : ∀ p ∈ TS, p.1 = P → p.2 = X.env.qual ++ "<lambda>")
    (hg : Gl X "_law_heard") (L : LamX.LamS X.env.scope scope) (hdef : defaultsOf params X.env = ([], []))
    (hbind : ∀ (q : Str) (cl : List (Str × Addr)) (pm cv ctv : Value), bindArgs (PySem.W.kla_fn "<lambda>" q params body scope cl pm cv ctv) ⟨[], []⟩ = pure [])
    (hbody : ∀ (A : Around) (outer : List Env) (s : Shared) (H : Hp) (E : XK) (f c' : Addr), Room k (A.deeper (LamX.lamEnv X scope s.heap.objs.size f c')) → PE (LamX.lamCx X A outer s H E scope f c') body (t E)) :
    PE X (.Call (.Name "_law_heard" p) [.Lambda params body scope lpos] [] pos) (LamX.tLam TS (THeard CB) t) := by
  obtain ⟨g, fd, F, hm, hb⟩ := D.ex
  have kp := F.kp
  obtain ⟨oc, od, kV, doc, pm, an, cdv, ct, osl, rfl, lk, hcd⟩ := F.ex
  exact LamX.pe_lamcall hg hm kp lk hcd hb sc_heard rfl (Or.inl rfl) (heard_gives (k := k) T (hr.mono (by omega)) hgd) TB hcode hmT hu hr L hdef hbind hbody (by decide) (by decide) (by decide)
end My
set_option pp.maxSteps 1500
set_option pp.deepTerms.threshold 8
/-! ### the law's runs -/
namespace My
open PySem PySem.Spec PyProof.Rows L2
abbrev s_lrun : Stmt := topS 78
theorem sc_lrun : FnScope ["_law_parts"] ["_law_parts"] (defScope s_lrun) := ⟨rfl, rfl, rfl, by decide +kernel, rfl, by decide +kernel, by decide +kernel⟩
theorem KS.same {Cs : List Addr} {H H' : Hp} {v : V} {o : Option Int} (h : KS Cs H v o) (s : Same H H') : KS Cs H' v o := by
  match o, h with
  | some z, h => exact h
  | none, ⟨a, n⟩ => exact ⟨a.same s, n⟩
theorem ninit_at {Cs : List Addr} {CL CR CP CQo CN CB : Addr} {H : Hp} {x dx : Addr} {sv hv fv lv bv gv : V} {s : Option Int} {sh fi la : Option (Addr × Int × Int)} {ba gr : Option (List Int × List Int)} {R : Hp → Prop} {E : XK}
    (kS : KS Cs H sv s) (kH : KL Cs CL H hv sh) (kF : KL Cs CL H fv fi) (kL : KL Cs CL H lv la) (kB : KN Cs CR CP CQo H bv ba) (kG : KN Cs CR CP CQo H gv gr) (hx : H x = none) (hd : H dx = none) (ne : dx ≠ x)
    (kE : ∀ nm, wrongN s sh fi la ba gr = some nm → Errs E CB "part" (.str nm) H)
    (kR : ∀ z a1 a2 a3 b g, s = some z → sh = some a1 → fi = some a2 → la = some a3 → ba = some b → gr = some g → a2.2.1 < a3.2.1 → ∀ qb qg H', RunAt CL CP CQo CN H' x ⟨z, a1.2, a2.2, a3.2, b, g⟩ a1.1 a2.1 a3.1 qb qg → Same H H' → R H') :
    spNinit Cs CL CR CP CQo CN CB [.ref x, sv, hv, fv, lv, bv, gv] (upd (upd H dx (.own x)) x (.ins CN dx [])) (fun v H2 => v = .non ∧ R H2) E := by
  have s0 : Same H (upd (upd H dx (.own x)) x (.ins CN dx [])) := fun b o e => by
    rw [upd_ne (ne_of_none e hx), upd_ne (ne_of_none e hd)]
    exact e
  have up : ∀ {H'}, (∀ c o, (upd (upd H dx (.own x)) x (.ins CN dx [])) c = some o → c ≠ x → H' c = some o) → Same H H' := fun {H'} k c o e => k c o (s0 _ _ e) (ne_of_none e hx)
  exact ⟨x, dx, sv, hv, fv, lv, bv, gv, s, sh, fi, la, ba, gr, rfl, upd_same, kS.same s0, kH.same s0, kF.same s0, kL.same s0, kB.same s0, kG.same s0, fun nm e H' k => (kE nm e).up (up k), fun z a1 a2 a3 b g e1 e2 e3 e4 e5 e6 lt qb qg H' rn k => ⟨rfl, kR z a1 a2 a3 b g e1 e2 e3 e4 e5 e6 lt qb qg H' rn (up k)⟩⟩
/-- six right parts of a run in a list -/
structure PartsAt (CL CR CP CQo : Addr) (H : Hp) (vs : List V) (r : RV) (ps pf pl : Addr) (bv gv : V) : Prop where
  eq : vs = [.int r.z, .ref ps, .ref pf, .ref pl, bv, gv]
  z : r.z = 1 ∨ r.z = -1
  s : LineAt CL H ps r.s.1 r.s.2
  f : LineAt CL H pf r.f.1 r.f.2
  l : LineAt CL H pl r.l.1 r.l.2
  lt : r.f.1 < r.l.1
  b : NumQ CR CP CQo H bv r.b
  g : NumQ CR CP CQo H gv r.g
theorem PartsAt.same {CL CR CP CQo : Addr} {H H' : Hp} {vs : List V} {r : RV} {ps pf pl : Addr} {bv gv : V} (h : PartsAt CL CR CP CQo H vs r ps pf pl bv gv) (k : Same H H') : PartsAt CL CR CP CQo H' vs r ps pf pl bv gv :=
  ⟨h.eq, h.z, h.s.same k, h.f.same k, h.l.same k, h.lt, h.b.same k, h.g.same k⟩
def spLrun (CL CR CP CQo CN : Addr) : Sp := fun vs H Q _ => ∃ (l : Addr) (xs : List V) (r : RV) (ps pf pl : Addr) (bv gv : V), vs = [.ref l] ∧ H l = some (.lst xs) ∧ PartsAt CL CR CP CQo H xs r ps pf pl bv gv ∧ ∀ q qb qg H', RunAt CL CP CQo CN H' q r ps pf pl qb qg → Same H H' → Q (.ref q) H'
section
variable {P : Program} {w : World} {K : PySem.W.Frag} {mg : Str → Option Value} {base : Heap} {Cs : List Addr} {CL CR CP CQo CN CT CB fB : Addr}
theorem ok_lrun {f : Addr} {fd : FuncData} (F : Fun K "_law_run" "_law_run" s_lrun f fd) (T : NTx P K mg Cs CL CR CP CQo CN CT CB fB)
    (M_Run1 : MakeAt P w K mg base (L2.CX P w) 9 "Run" CN ["self", "sign", "shift", "first", "last", "base", "grow"] (spNinit Cs CL CR CP CQo CN CB) [.int 0])
    (MK_Run : MakeK P w K mg base (L2.CX P w) 9 "Run" CN ["self", "sign", "shift", "first", "last", "base", "grow"] ["grow", "base", "last", "first", "shift", "sign"] (spNinit Cs CL CR CP CQo CN CB) gSw) :
    FnOk P w K mg base CX0 11 f fd ["_law_parts"] (spLrun CL CR CP CQo CN) := by
  refine F.ok sc_lrun (fun vs H Q E h => ?_) (fun cdv A outer s H vs Q E hr h => ?_)
  · obtain ⟨l, xs, r, ps, pf, pl, bv, gv, rfl, _⟩ := h
    rfl
  · obtain ⟨l, xs, r, ps, pf, pl, bv, gv, rfl, hl, ⟨rfl, hz, ls, lf, ll, lt, nb, ng⟩, k⟩ := h
    refine ⟨_, (pss_cons (ps_if (PW.pt (pw_and (pt_val (pe_callB call_isi (by rfl) T.z_isinstance boot_isinstance (pa_cons (pe_ix ix_list (pv 0) pe_int (fun _ _ => rfl)) (pa_cons (pe_bltn (v := .ty "int") (by rfl) T.z_int boot_int rfl) pa_nil)))) (pw_and1 (pt_cmpR op_eq (pe_ix ix_list (pv 0) pe_int (fun _ _ => rfl)) pe_int (nomark _))))) (pss_one (ps_ret (My.pe_mk M_Run1 (hr.mono (by decide)) (by rfl) passL (pa_cons (pe_ix ix_list (pv 0) pe_int (fun _ _ => rfl)) (pa_cons (pe_ix ix_list (pv 0) pe_int (fun _ _ => rfl)) (pa_cons (pe_ix ix_list (pv 0) pe_int (fun _ _ => rfl)) (pa_cons (pe_ix ix_list (pv 0) pe_int (fun _ _ => rfl)) (pa_cons (pe_ix ix_list (pv 0) pe_int (fun _ _ => rfl)) pa_nil)))))))) pss_nil)
      (pss_one (ps_ret (My.pe_mkK MK_Run (hr.mono (by decide)) (by rfl) passL (pk_cons (pe_ix ix_list (pv 0) pe_int (fun _ _ => rfl)) (pk_cons (pe_ix ix_list (pv 0) pe_int (fun _ _ => rfl)) (pk_cons (pe_ix ix_list (pv 0) pe_int (fun _ _ => rfl)) (pk_cons (pe_ix ix_list (pv 0) pe_int (fun _ _ => rfl)) (pk_cons (pe_ix ix_list (pv 0) pe_int (fun _ _ => rfl)) (pk_cons (pe_ix ix_list (pv 0) pe_int (fun _ _ => rfl)) pk_nil)))))))))), ?_⟩
    have i0 : atI [V.int r.z, .ref ps, .ref pf, .ref pl, bv, gv] (0 : Int) = some (.int r.z) := at_of (j := 0) rfl rfl
    have i1 : atI [V.int r.z, .ref ps, .ref pf, .ref pl, bv, gv] (1 : Int) = some (.ref ps) := at_of (j := 1) rfl rfl
    have i2 : atI [V.int r.z, .ref ps, .ref pf, .ref pl, bv, gv] (2 : Int) = some (.ref pf) := at_of (j := 2) rfl rfl
    have i3 : atI [V.int r.z, .ref ps, .ref pf, .ref pl, bv, gv] (3 : Int) = some (.ref pl) := at_of (j := 3) rfl rfl
    have i4 : atI [V.int r.z, .ref ps, .ref pf, .ref pl, bv, gv] (4 : Int) = some bv := at_of (j := 4) rfl rfl
    have i5 : atI [V.int r.z, .ref ps, .ref pf, .ref pl, bv, gv] (5 : Int) = some gv := at_of (j := 5) rfl rfl
    have fin : ∀ {E2 : XK} {x dx : Addr}, H x = none → H dx = none → dx ≠ x → spNinit Cs CL CR CP CQo CN CB [.ref x, .int r.z, .ref ps, .ref pf, .ref pl, bv, gv] (upd (upd H dx (.own x)) x (.ins CN dx [])) (fun v H2 => v = .non ∧ Q (.ref x) H2) E2 := fun {E2 x dx} hx hd ne =>
      ninit_at (s := some r.z) (sh := some (ps, r.s)) (fi := some (pf, r.f)) (la := some (pl, r.l)) (ba := some r.b) (gr := some r.g) ⟨rfl, hz⟩ ⟨rfl, ls⟩ ⟨rfl, lf⟩ ⟨rfl, ll⟩ nb ng hx hd ne (fun nm e => by
        have e : (if r.l.1 ≤ r.f.1 then some ("last" : Str) else none) = some nm := e
        rw [if_neg (by omega)] at e
        cases e) (fun z a1 a2 a3 b g e1 e2 e3 e4 e5 e6 _ qb qg H' rn sm => by
        cases e1
        cases e2
        cases e3
        cases e4
        cases e5
        cases e6
        exact k x qb qg H' rn sm)
    rcases id ng with ⟨p, rfl, dx, q, q', e, _⟩ | ⟨t, d, hn, _, _, _, ex⟩
    · refine ⟨_, rfl, l, _, _, _, rfl, rfl, SqL.of hl, i5, _, _, _, _, false, rfl, .ty _, T.ownQ.ty e, T.ownQ.noInt, _, rfl, iteF (iteF ?_)⟩
      exact ⟨_, rfl, l, _, _, _, rfl, rfl, SqL.of hl, i5, _, rfl, l, _, _, _, rfl, rfl, SqL.of hl, i4, _, rfl, l, _, _, _, rfl, rfl, SqL.of hl, i3, _, rfl, l, _, _, _, rfl, rfl, SqL.of hl, i2, _, rfl, l, _, _, _, rfl, rfl, SqL.of hl, i1, _, rfl, l, _, _, _, rfl, rfl, SqL.of hl, i0, rfl, rfl, fun x dx hx hd ne => fin hx hd ne⟩
    · rcases hn with ⟨p, rfl, dx, e⟩ | ⟨rfl, _⟩
      · refine ⟨_, rfl, l, _, _, _, rfl, rfl, SqL.of hl, i5, _, _, _, _, false, rfl, .ty _, T.tr.own.ty e, T.tr.own.noInt, _, rfl, iteF (iteF ?_)⟩
        exact ⟨_, rfl, l, _, _, _, rfl, rfl, SqL.of hl, i5, _, rfl, l, _, _, _, rfl, rfl, SqL.of hl, i4, _, rfl, l, _, _, _, rfl, rfl, SqL.of hl, i3, _, rfl, l, _, _, _, rfl, rfl, SqL.of hl, i2, _, rfl, l, _, _, _, rfl, rfl, SqL.of hl, i1, _, rfl, l, _, _, _, rfl, rfl, SqL.of hl, i0, rfl, rfl, fun x dx hx hd ne => fin hx hd ne⟩
      · refine ⟨_, rfl, l, _, _, _, rfl, rfl, SqL.of hl, i5, _, _, _, _, true, rfl, .ty _, (Ty0.int t).tyx, kit_ty (by decide +kernel), _, rfl, iteT ?_⟩
        refine ⟨_, rfl, l, _, _, _, rfl, rfl, SqL.of hl, i5, rfl, _, rfl, ite2 (fun c => ?_) (fun c => ?_)⟩
        · have t0 : t = 0 := V.int.inj (of_decide_eq_true c)
          subst t0
          refine ⟨_, rfl, l, _, _, _, rfl, rfl, SqL.of hl, i0, _, rfl, l, _, _, _, rfl, rfl, SqL.of hl, i1, _, rfl, l, _, _, _, rfl, rfl, SqL.of hl, i2, _, rfl, l, _, _, _, rfl, rfl, SqL.of hl, i3, _, rfl, l, _, _, _, rfl, rfl, SqL.of hl, i4, fun x dx hx hd ne => fin hx hd ne⟩
        · exact ⟨_, rfl, l, _, _, _, rfl, rfl, SqL.of hl, i5, _, rfl, l, _, _, _, rfl, rfl, SqL.of hl, i4, _, rfl, l, _, _, _, rfl, rfl, SqL.of hl, i3, _, rfl, l, _, _, _, rfl, rfl, SqL.of hl, i2, _, rfl, l, _, _, _, rfl, rfl, SqL.of hl, i1, _, rfl, l, _, _, _, rfl, rfl, SqL.of hl, i0, rfl, rfl, fun x dx hx hd ne => fin hx hd ne⟩
end
end My
/-! != of two lists whose items are equal, some by their own ==. -/
namespace My
open PySem PySem.SeqAt
section
variable {prog : Program} {w : World} {A : Around} {R : Result → Shared → Prop}
theorem ne_loop9 (l b : Addr) (N : Nat) (J : Nat → Shared → Prop) (step : GQ.ListI prog w A (fun e z => R (.error e) z) l b N J) (last : ∀ z, J N z → R (.ok (.ret (.bool false))) z) :
    ∀ (m i : Nat), N - i = m → i ≤ N → ∀ z, J i z → wpAny (model prog w) A.in1 (Builtin.«list.__eq__.loop» ⟨[.ref l, .ref b, rawInt i, rawInt 3], []⟩) (GQ.FinOf prog w A R) (fun e z => R (.error e) z) z := by
  intro m
  induction m with
  | zero =>
    intro i em le z q
    obtain ⟨xs, ys, c1, c2, gx, gy, zx, zy, _⟩ := step _ _ q
    have ei : i = N := by omega
    have stop := last z (ei ▸ q)
    obtain ⟨z1, z2, z3, z4, z5⟩ := z
    wp_walk using AutoSeq1.wpAny_loadPart' gx, AutoSeq1.wpAny_loadPart' gy
    have n1 : xs[((i : Nat) : Int).toNat]? = none := by rw [Int.toNat_natCast]; exact Array.getElem?_eq_none (by omega)
    have n2 : ys[((i : Nat) : Int).toNat]? = none := by rw [Int.toNat_natCast]; exact Array.getElem?_eq_none (by omega)
    rw [n1, n2]
    wp_walk using AutoSeq1.wpAny_loadPart' gx, AutoSeq1.wpAny_loadPart' gy
    show R (.ok (.ret (.bool (xs.size != ys.size)))) _
    rw [zx, zy, bne_self_eq_false]
    exact stop
  | succ m rec =>
    intro i em le z q
    obtain ⟨xs, ys, c1, c2, gx, gy, zx, zy, same⟩ := step _ _ q
    have ix : i < xs.size := by omega
    have iy : i < ys.size := by omega
    have one := same ix iy
    obtain ⟨z1, z2, z3, z4, z5⟩ := z
    wp_walk using AutoSeq1.wpAny_loadPart' gx, AutoSeq1.wpAny_loadPart' gy
    have n1 : xs[((i : Nat) : Int).toNat]? = some xs[i] := by rw [Int.toNat_natCast]; exact Array.getElem?_eq_getElem ix
    have n2 : ys[((i : Nat) : Int).toNat]? = some ys[i] := by rw [Int.toNat_natCast]; exact Array.getElem?_eq_getElem iy
    rw [n1, n2]
    refine wpAny_bind (wpAny_mono one (fun t y hy => ?_) fun _ _ u => u)
    obtain ⟨rfl, qy⟩ := hy
    have more := rec (i + 1) (by omega) (by omega) y qy
    obtain ⟨y1, y2, y3, y4, y5⟩ := y
    wp_walk
    have ec : ((i : Int) + 1) = ((i + 1 : Nat) : Int) := by omega
    rw [ec]
    refine ⟨plainId_quiet MeetsSeq3.plain_eq_loop _, codeAny_builtin MeetsSeq3.entry_eq_loop ?_⟩
    rw [Around.under_plainId MeetsSeq3.plain_eq_loop _]
    exact more
theorem ne_body9 (l b : Addr) (N : Nat) (J : Nat → Shared → Prop) (step : GQ.ListI prog w A (fun e z => R (.error e) z) l b N J) (last : ∀ z, J N z → R (.ok (.ret (.bool false))) z) {z : Shared} (q : J 0 z) :
    wpAny (model prog w) A.in1 (Builtin.«list.__ne__» ⟨[.ref l, .ref b], []⟩) (GQ.FinOf prog w A R) (fun e z => R (.error e) z) z := by
  obtain ⟨xs, ys, c1, c2, gx, gy, zx, zy, _⟩ := step _ _ q
  have run := ne_loop9 (A := A) (R := R) l b N J step last _ 0 rfl (Nat.zero_le _) z q
  obtain ⟨z1, z2, z3, z4, z5⟩ := z
  have kinds := AutoSeq1.sub_list_list
  have alike : ¬ (xs.size != ys.size) = true := by rw [zx, zy, bne_self_eq_false]; decide
  wp_walk using AutoSeq1.wpAny_loadPart' gx, AutoSeq1.wpAny_loadPart' gy
  refine ⟨plainId_quiet MeetsSeq3.plain_eq_loop _, codeAny_builtin MeetsSeq3.entry_eq_loop ?_⟩
  rw [Around.under_plainId MeetsSeq3.plain_eq_loop _]
  exact run
theorem rc_ne9 {E : Value → Shared → Prop} {s : Shared} {l b : Addr} {N : Nat} {Q : Value → Shared → Prop} (hu : A.units < cLine) (J : Nat → Shared → Prop) (step : GQ.ListI prog w A E l b N J) (last : ∀ z, J N z → Q (.bool false) z) (q : J 0 s) :
    wpAny (model prog w) A (richCompare .NotEq (.ref l) (.ref b)) Q E s := by
  obtain ⟨xs, ys, c1, c2, gx, gy, _⟩ := step _ _ q
  have tl : s.TypeIs (.ref l) "list" := ⟨_, gx, rfl⟩
  have tb : s.TypeIs (.ref b) "list" := ⟨_, gy, rfl⟩
  refine wpAny_richCompare_same_room (op := .NotEq) tl tb F.slot_list_ne ?_ hu
  refine GQ.call_here F.slot_list_ne tl F.entry_list_ne (F.args_list_ne_2 _ _) ?_
  exact ne_body9 (R := wants (fun v z => v ≠ .notImplemented ∧ Q v z) E) l b N J step (fun z h => ⟨(fun x => nomatch x), last z h⟩) q
end
section
open PySem.Spec PyProof.Rows L2
variable {X : Cx} {n : Nat} {D : Eqv}
/-- xs != ys, lists whose items are all equal -/
def rNeG (D : Eqv) : R2 := fun x y H Q => ∃ a b xs ys, x = .ref a ∧ y = .ref b ∧ H a = some (.lst xs) ∧ H b = some (.lst ys) ∧ Prs D xs ys H ∧ ∀ H', Ext H H' → Q (.bl false) H'
theorem op_neG (mon : Mon D) (each : EqG X n D) (hr : Room (n + 1) X.A) : OpR X (compareOp .NotEq) (rNeG D) := by
  intro pins s σ H x y v u Q I rx ry h
  obtain ⟨a, b, xs, ys, rfl, rfl, ha, hb, prs, q⟩ := h
  cases (show v = Value.ref a from rx)
  cases (show u = Value.ref b from ry)
  show wpAny (model X.prog X.w) X.A (richCompare .NotEq (.ref a) (.ref b)) (EP X pins σ Q) X.xe s
  have sub : Sub X (n + 1) X.A := ⟨hr, rfl⟩
  refine rc_ne9 (N := xs.length) sub.room.units0 (fun _ z => LoopI X pins σ H z) (fun i z g => ?_) (fun z g => ?_) ⟨H, I, Ext.rfl'⟩
  · obtain ⟨H1, I1, e1⟩ := id g
    obtain ⟨_, its, c1, r1, o1⟩ := I1.hok a _ (e1 _ _ ha)
    obtain ⟨_, its2, c2, r2, o2⟩ := I1.hok b _ (e1 _ _ hb)
    exact ⟨its.toArray, its2.toArray, c1, c2, o1, o2, by rw [List.size_toArray, ← r1.length], by rw [List.size_toArray, ← r2.length, ← prs.1], fun h1 h2 => turnG mon each sub prs r1 r2 i h1 h2 z g⟩
  · obtain ⟨H1, I1, e1⟩ := g
    exact ⟨.bl false, H1, I1, rfl, q H1 e1⟩
end
end My
/-! == of lists of tuples whose items are the same objects; == of lists of unlike lengths. -/
namespace My
open PySem PySem.Spec PyProof.Rows L2
/-- flat and equal, or the same object -/
def DSelf : Eqv := fun x y H => DFlat x y H ∨ ∃ a, x = .ref a ∧ y = .ref a
theorem mon_self : Mon DSelf := fun _ _ _ _ _ d => d
theorem eqG_self {X : Cx} : EqG X 0 DSelf := by
  intro A pins s σ H x y u v sb I rx ry d
  rcases d with d | ⟨a, rfl, rfl⟩
  · exact eqG_flat A pins s σ H x y u v sb I rx ry d
  · cases rx
    cases ry
    exact SeqAt.EqAt.same (A := A) (s := s) (.ref a) X.prog X.w X.xe _ ⟨rfl, H, I, Ext.rfl'⟩
/-- two lists of tuples of such items -/
def rEqTs (K : PySem.W.Frag) : R2 := rEqG (DList (DTup K DSelf))
theorem op_eqTs {X : Cx} {n : Nat} (hr : Room n X.A) (hn : 2 ≤ n := by decide) : OpR X (compareOp .Eq) (rEqTs X.K) := op_eqG (rcG_list (mon_tup mon_self) (eqG_tup mon_self eqG_self)) (hr.mono hn)
theorem Prs.self {H : Hp} : ∀ {xs : List V}, (∀ v ∈ xs, flatV v = true ∨ ∃ a, v = .ref a) → Prs DSelf xs xs H
  | [], _ => Prs.nil
  | x :: xs, h => by
    refine Prs.cons ?_ (Prs.self fun v hv => h v (List.mem_cons_of_mem _ hv))
    rcases h x List.mem_cons_self with f | ⟨a, rfl⟩
    · refine .inl ⟨f, f, ?_⟩
      cases x with
      | non => rfl
      | bl b => exact beq_self_eq_true b
      | int i => exact beq_self_eq_true i
      | str t => exact beq_self_eq_true t
      | _ => cases f
    · exact .inr ⟨a, rfl, rfl⟩
theorem TyL.flat {C : Addr} {H : Hp} {v : V} (h : TyL C H v) : flatV v = true ∨ ∃ a, v = .ref a := by
  rcases h with ⟨t, h⟩ | ⟨a, _, _, e, _⟩
  · cases h with
    | lst _ => exact .inr ⟨_, rfl⟩
    | tup _ => exact .inr ⟨_, rfl⟩
    | dK _ => exact .inr ⟨_, rfl⟩
    | _ => exact .inl rfl
  · exact .inr ⟨a, e⟩
/-- l == m, of unlike lengths -/
def rEqLen (K : PySem.W.Frag) : R2 := fun x y H Q => ∃ a b xs ys, x = .ref a ∧ y = .ref b ∧ SqL K H a xs ∧ SqL K H b ys ∧ xs.length ≠ ys.length ∧ Q (.bl false) H
theorem op_eqLen {X : Cx} {n : Nat} (hr : Room n X.A) : OpR X (compareOp .Eq) (rEqLen X.K) := by
  intro pins s σ H x y v u Q I rx ry h
  obtain ⟨a, b, xs, ys, rfl, rfl, ha, hb, hl, q⟩ := h
  cases (show v = Value.ref a from rx)
  cases (show u = Value.ref b from ry)
  obtain ⟨us, r1, p1, _⟩ := I.list ha
  obtain ⟨ws, r2, p2, _⟩ := I.list hb
  have hz : (us.toArray.size != ws.toArray.size) = true := by
    rw [List.size_toArray, List.size_toArray, ← r1.length, ← r2.length]
    exact bne_iff_ne.mpr hl
  exact SeqAt.RcAt.lists_lengths p1.isList p2.isList hz hr.units0 X.prog X.w X.xe _ ⟨.bl false, H, I, rfl, q⟩
end My
/-! == and != of data with any texts. -/
namespace My
open PySem PySem.Spec PyProof.Rows L2
section
variable {X : Cx}
def rEqP (K : PySem.W.Frag) : R2 := fun x y H Q => ∃ d e, Dp K H x d ∧ Dp K H y e ∧ d.plain = true ∧ e.plain = true ∧ min d.depth e.depth ≤ 60 ∧ Q (.bl (PyData.eqv d e)) H
def rNeP (K : PySem.W.Frag) : R2 := fun x y H Q => ∃ d e, Dp K H x d ∧ Dp K H y e ∧ d.plain = true ∧ e.plain = true ∧ min d.depth e.depth ≤ 60 ∧ Q (.bl (!PyData.eqv d e)) H
theorem op_eqP (hu : X.A.units + 64 < cLine) : OpR X (compareOp .Eq) (rEqP X.K) := by
  intro pins s σ H x y v u Q I rx ry h
  obtain ⟨d, e, hd, he, sd, se, dp, q⟩ := h
  obtain ⟨as, r1⟩ := Dp.reads I d x v hd rx
  obtain ⟨bs, r2⟩ := Dp.reads I e y u he ry
  exact SeqAt.eq_plain r1 r2 sd se (by omega) ⟨.bl _, H, I, rfl, q⟩
theorem op_neP (hu : X.A.units + 64 < cLine) : OpR X (compareOp .NotEq) (rNeP X.K) := by
  intro pins s σ H x y v u Q I rx ry h
  obtain ⟨d, e, hd, he, sd, se, dp, q⟩ := h
  obtain ⟨as, r1⟩ := Dp.reads I d x v hd rx
  obtain ⟨bs, r2⟩ := Dp.reads I e y u he ry
  exact SeqAt.ne_plain r1 r2 sd se (by omega) ⟨.bl _, H, I, rfl, q⟩
theorem plain_strs : ∀ zs : List Str, PyData.plainAll (zs.map PyData.str) = true
  | [] => rfl
  | z :: zs => by
    show (true && PyData.plainAll (zs.map PyData.str)) = true
    rw [plain_strs zs]
    rfl
end
end My
set_option pp.maxSteps 1500
set_option pp.deepTerms.threshold 8
/-! ### what the law's walk over runs wants -/
namespace My
open PySem PySem.Spec PyProof.Rows L2
def RQ (CQo CP : Addr) : Addr → Addr → Hp → Prop := fun a b H => ∃ x y, QuoAt CQo CP H a x.1 x.2 ∧ QuoAt CQo CP H b y.1 y.2 ∧ Sz x ∧ Sz y ∧ Qeq x y
/-- alike: flat and equal, the same object, or quotients that are equal -/
def DQ (CQo CP : Addr) : Eqv := fun x y H => DSelf x y H ∨ DIns CQo (RQ CQo CP) x y H
theorem mon_rq {CQo CP : Addr} : ∀ a b H H', Ext H H' → RQ CQo CP a b H → RQ CQo CP a b H' := fun a b H H' e ⟨x, y, h1, h2, h3⟩ => ⟨x, y, h1.same e, h2.same e, h3⟩
theorem op_neQ {X : Cx} {CX : CXT} {k : Nat} {CQo CP : Addr} {ps : List Str} {E : XK} (M : CmpAt X.prog X.w X.K X.mg X.base CX k CQo "__eq__" ps (spQeq CQo CP)) (hr : Room (k + 1) X.A) (hx : Passes CX X E) : OpR X (compareOp .NotEq) (rNeG (DQ CQo CP)) := by
  obtain ⟨f, fd, hs, hf, F, hb⟩ := M.ex
  refine op_neG (Mon.or mon_self (mon_ins mon_rq)) (EqG.or (eqG_self.mono (Nat.zero_le _)) (eqG_ins (F.imp (sp' := spEq (RQ CQo CP)) fun vs H Q E h => ?_) hs hf hb hx)) hr
  obtain ⟨a, b, rfl, ⟨x, y, h1, h2, s1, s2, e⟩, q⟩ := h
  refine ⟨a, b, _, _, _, _, rfl, h1, h2, ⟨s1.1, s1.2.1, s2.1, s2.2.1⟩, ⟨s1.2.2.1, s1.2.2.2, s2.2.2.1, s2.2.2.2⟩, fun z H' s hz => ?_⟩
  rw [hz.mpr e]
  exact q H' s
theorem dq_ref {CQo CP : Addr} {a : Addr} {H : Hp} : DQ CQo CP (.ref a) (.ref a) H := .inl (.inr ⟨a, rfl, rfl⟩)
theorem dq_int {CQo CP : Addr} {i : Int} {H : Hp} : DQ CQo CP (.int i) (.int i) H := .inl (.inl ⟨rfl, rfl, beq_self_eq_true i⟩)
theorem dq_quo {CQo CP : Addr} {a b : Addr} {x : List Int × List Int} {H : Hp} (h1 : QuoAt CQo CP H a x.1 x.2) (h2 : QuoAt CQo CP H b x.1 x.2) (s : Sz x) : DQ CQo CP (.ref a) (.ref b) H := by
  obtain ⟨dx, q, r, e, _⟩ := id h1
  obtain ⟨dy, q', r', e', _⟩ := id h2
  exact .inr ⟨a, b, dx, dy, _, _, rfl, rfl, e, e', x, x, h1, h2, s, s, fun _ => rfl⟩
/-! sizes -/
theorem bd_small {xs : List Int} (h : ∀ v ∈ xs, v.natAbs < 2 ^ 10) : Bd xs 400000 := fun k => by
  have z : (cf xs k).natAbs < 2 ^ 10 := by
    unfold cf
    cases e : xs[k]? with
    | none => exact Nat.two_pow_pos 10
    | some v => exact h v (List.mem_of_getElem? e)
  exact Nat.lt_of_lt_of_le z (Nat.pow_le_pow_right (by decide) (by decide))
theorem sz_small {x : List Int × List Int} (h1 : ∀ v ∈ x.1, v.natAbs < 2 ^ 10) (h2 : ∀ v ∈ x.2, v.natAbs < 2 ^ 10) (l1 : x.1.length ≤ 400) (l2 : x.2.length ≤ 400) : Sz x := ⟨l1, l2, bd_small h1, bd_small h2⟩
theorem trim_leN (ts : List Int) : (trim ts).length ≤ ts.length := by
  unfold trim
  rw [List.length_take]
  exact Nat.min_le_right _ _
theorem drawn_parts {x : List Int × List Int} (h : Drawn x) : ∃ t l : Int, -4 ≤ t ∧ t ≤ 4 ∧ 1 ≤ l ∧ l ≤ 3 ∧ (x = (trim [t], [l]) ∨ x = ([t, 1], [l]) ∨ x = (trim [t], [l, 1])) := by
  obtain ⟨t, l, a, b, c, d, h⟩ := h
  rcases h with h | h | h | h | h
  · exact ⟨t, 1, a, b, by decide, by decide, .inl h⟩
  · have l0 : l ≠ 0 := by omega
    have h1 := lowT_abs (t := t) l0
    have h2 := lowB_abs (t := t) l0
    have h3 := lowB_pos (t := t) l0
    exact ⟨lowT t l, lowB t l, by omega, by omega, by omega, by omega, .inl h⟩
  · exact ⟨t, l, a, b, c, d, .inr (.inl h)⟩
  · exact ⟨t, l, a, b, c, d, .inr (.inr h)⟩
  · exact ⟨0, 1, by decide, by decide, by decide, by decide, .inl h⟩
theorem sz_drawn {x : List Int × List Int} (h : Drawn x) : Sz x := by
  obtain ⟨t, l, a, b, c, d, h⟩ := drawn_parts h
  have k1 : ∀ v ∈ trim [t], v.natAbs < 2 ^ 10 := fun v hv => by
    have := List.mem_singleton.mp (trim_mem hv)
    omega
  have lt1 : (trim [t]).length ≤ 400 := Nat.le_trans (trim_leN _) (by show 1 ≤ 400; decide)
  rcases h with rfl | rfl | rfl
  · exact sz_small k1 (fun v hv => by have := List.mem_singleton.mp hv; omega) lt1 (by show 1 ≤ 400; decide)
  · refine sz_small (fun v hv => ?_) (fun v hv => by have := List.mem_singleton.mp hv; omega) (by show 2 ≤ 400; decide) (by show 1 ≤ 400; decide)
    rcases List.mem_cons.mp hv with rfl | hv
    · omega
    · have := List.mem_singleton.mp hv; omega
  · refine sz_small k1 (fun v hv => ?_) lt1 (by show 2 ≤ 400; decide)
    rcases List.mem_cons.mp hv with rfl | hv
    · omega
    · have := List.mem_singleton.mp hv; omega
theorem cf_t (t : Int) : cf (trim [t]) 0 = t ∧ cf (trim [t]) 1 = 0 := by
  rw [cf_trim, cf_trim]
  exact ⟨rfl, rfl⟩
theorem S0 (a b : List Int) : S a b 0 = cf a 0 * cf b 0 := by
  show 0 + cf a 0 * cf b 0 = _
  omega
theorem S1 (a b : List Int) : S a b 1 = cf a 0 * cf b 1 + cf a 1 * cf b 0 := by
  show 0 + cf a 0 * cf b 1 + cf a 1 * cf b 0 = _
  omega
/-- a constant that is no drawn one -/
theorem const_ne {x : List Int × List Int} (h : Drawn x) {t l : Int} (ht : 0 < t) (hl : 0 < l) (far : 4 * l < t ∨ 3 * t < l) : ¬ Qeq ([t], [l]) x ∧ ¬ Qeq x ([t], [l]) := by
  obtain ⟨u, m, a, b, c, d, h⟩ := drawn_parts h
  have ex : ∀ {P : Prop}, (∀ k, S [t] x.2 k = S x.1 [l] k → S x.1 [l] k = S [t] x.2 k) := fun {P} k e => e.symm
  suffices g : ¬ ∀ k, S [t] x.2 k = S x.1 [l] k from ⟨g, fun q => g fun k => (q k).symm⟩
  intro q
  have q0 := q 0
  have q1 := q 1
  rw [S0, S0] at q0
  rw [S1, S1] at q1
  rcases h with rfl | rfl | rfl
  · have q0 : t * m = cf (trim [u]) 0 * l := q0
    rw [(cf_t u).1] at q0
    rcases far with f | f
    · have : t * 1 ≤ t * m := Int.mul_le_mul_of_nonneg_left c (by omega)
      have : u * l ≤ 4 * l := Int.mul_le_mul_of_nonneg_right b (by omega)
      omega
    · have u1 : 1 ≤ u := by
        by_cases u0 : 1 ≤ u
        · exact u0
        · have : 0 < t * m := Int.mul_pos ht (by omega)
          have : u * l ≤ 0 * l := Int.mul_le_mul_of_nonneg_right (by omega) (by omega)
          omega
      have : 1 * l ≤ u * l := Int.mul_le_mul_of_nonneg_right u1 (by omega)
      have : t * m ≤ t * 3 := Int.mul_le_mul_of_nonneg_left d (by omega)
      omega
  · have q1 : t * 0 + 0 * m = u * 0 + 1 * l := q1
    omega
  · have q1 : t * 1 + 0 * m = cf (trim [u]) 0 * 0 + cf (trim [u]) 1 * l := q1
    rw [(cf_t u).2] at q1
    omega
/-! parts, wrong parts -/
theorem NumQ.ext {CR CP CQo : Addr} {H H' : Hp} {v : V} {x : List Int × List Int} (h : NumQ CR CP CQo H v x) (s : LamX.ExtN H H') : NumQ CR CP CQo H' v x := by
  rcases h with ⟨p, e, q⟩ | ⟨t, d, n, h⟩
  · exact .inl ⟨p, e, q.ext s⟩
  · refine .inr ⟨t, d, ?_, h⟩
    rcases n with ⟨a, e, dx, g⟩ | n
    · exact .inl ⟨a, e, dx, s _ _ g (by intro ps z; cases z)⟩
    · exact .inr n
theorem PartsAt.ext {CL CR CP CQo : Addr} {H H' : Hp} {vs : List V} {r : RV} {ps pf pl : Addr} {bv gv : V} (h : PartsAt CL CR CP CQo H vs r ps pf pl bv gv) (k : LamX.ExtN H H') : PartsAt CL CR CP CQo H' vs r ps pf pl bv gv :=
  ⟨h.eq, h.z, h.s.ext k, h.f.ext k, h.l.ext k, h.lt, h.b.ext k, h.g.ext k⟩
theorem PartsAt.pen {CL CR CP CQo : Addr} {H H' : Hp} {vs : List V} {r : RV} {ps pf pl : Addr} {bv gv : V} {pn cl : Addr} {n : Nat} (h : PartsAt CL CR CP CQo H vs r ps pf pl bv gv) (hp : PenC H pn cl n) (u : But pn H H') : PartsAt CL CR CP CQo H' vs r ps pf pl bv gv :=
  ⟨h.eq, h.z, h.s.pen hp u, h.f.pen hp u, h.l.pen hp u, h.lt, h.b.pen hp u, h.g.pen hp u⟩
/-- a list is changed at l -/
theorem LineAt.put {C : Addr} {H : Hp} {p l : Addr} {a b : Int} {ys : List V} {o : HO} (h : LineAt C H p a b) (g : H l = some (.lst ys)) : LineAt C (upd H l o) p a b := by
  obtain ⟨dx, e⟩ := h
  exact ⟨dx, by rw [upd_ne (ne_of e g (by intro z; cases z))]; exact e⟩
theorem PolyAt.put {C : Addr} {H : Hp} {p l : Addr} {ts : List Int} {ys : List V} {o : HO} (h : PolyAt C H p ts) (g : H l = some (.lst ys)) : PolyAt C (upd H l o) p ts := by
  obtain ⟨dx, t, e, et⟩ := h
  exact ⟨dx, t, by rw [upd_ne (ne_of e g (by intro z; cases z))]; exact e, by rw [upd_ne (ne_of et g (by intro z; cases z))]; exact et⟩
theorem NumQ.put {CR CP CQo : Addr} {H : Hp} {v : V} {l : Addr} {x : List Int × List Int} {ys : List V} {o : HO} (h : NumQ CR CP CQo H v x) (g : H l = some (.lst ys)) : NumQ CR CP CQo (upd H l o) v x := by
  rcases h with ⟨p, e, dx, q, r, e1, h1, h2⟩ | ⟨t, d, n, h⟩
  · exact .inl ⟨p, e, dx, q, r, by rw [upd_ne (ne_of e1 g (by intro z; cases z))]; exact e1, h1.put g, h2.put g⟩
  · refine .inr ⟨t, d, ?_, h⟩
    rcases n with ⟨a, e, dx, e1⟩ | n
    · exact .inl ⟨a, e, dx, by rw [upd_ne (ne_of e1 g (by intro z; cases z))]; exact e1⟩
    · exact .inr n
theorem PartsAt.put {CL CR CP CQo : Addr} {H : Hp} {vs : List V} {r : RV} {ps pf pl l : Addr} {bv gv : V} {ys : List V} {o : HO} (h : PartsAt CL CR CP CQo H vs r ps pf pl bv gv) (g : H l = some (.lst ys)) : PartsAt CL CR CP CQo (upd H l o) vs r ps pf pl bv gv :=
  ⟨h.eq, h.z, h.s.put g, h.f.put g, h.l.put g, h.lt, h.b.put g, h.g.put g⟩
/-- the parts bs: those of xs, but other values at ws -/
structure BentAt (CP : Addr) (H : Hp) (xs bs : List V) (ws : List Nat) : Prop where
  len : bs.length = 6
  all : ∀ w ∈ ws, w < 6
  at' : ∀ j v, bs[j]? = some v → (j ∈ ws → OddV CP H v ∧ (4 ≤ j → isI v = false)) ∧ (j ∉ ws → xs[j]? = some v)
theorem BentAt.imp {CP : Addr} {H H' : Hp} {xs bs : List V} {ws : List Nat} (h : BentAt CP H xs bs ws) (k : ∀ v, OddV CP H v → OddV CP H' v) : BentAt CP H' xs bs ws :=
  ⟨h.len, h.all, fun j v e => ⟨fun m => ⟨k v ((h.at' j v e).1 m).1, ((h.at' j v e).1 m).2⟩, (h.at' j v e).2⟩⟩
theorem BentAt.set {CP : Addr} {H : Hp} {xs bs : List V} {ws : List Nat} (h : BentAt CP H xs bs ws) {j : Nat} {v : V} (hj : j < 6) (o : OddV CP H v) (i : 4 ≤ j → isI v = false) : BentAt CP H xs (bs.set j v) (ws ++ [j]) := by
  refine ⟨by rw [List.length_set]; exact h.len, fun w hw => ?_, fun m u e => ?_⟩
  · rcases List.mem_append.mp hw with hw | hw
    · exact h.all w hw
    · rw [List.mem_singleton.mp hw]
      exact hj
  · by_cases c : m = j
    · subst c
      rw [List.getElem?_set_self (by rw [h.len]; exact hj)] at e
      cases e
      exact ⟨fun _ => ⟨o, i⟩, fun z => absurd (List.mem_append_right _ (List.mem_singleton.mpr rfl)) z⟩
    · rw [List.getElem?_set_ne (fun z => c z.symm)] at e
      have q := h.at' m u e
      refine ⟨fun z => ?_, fun z => q.2 fun z2 => z (List.mem_append_left _ z2)⟩
      rcases List.mem_append.mp z with z | z
      · exact q.1 z
      · exact absurd (List.mem_singleton.mp z) c
theorem BentAt.putw {CP : Addr} {H : Hp} {xs bs : List V} {ws : List Nat} {l : Addr} {o : HO} (h : BentAt CP H xs bs ws) (g : H l = some (.lst (ws.map fun w : Nat => V.int w))) : BentAt CP (upd H l o) xs bs ws := by
  refine ⟨h.len, h.all, fun j v e => ⟨fun m => ?_, (h.at' j v e).2⟩⟩
  have q := (h.at' j v e).1 m
  cases ws with
  | nil => cases m
  | cons w ws => exact ⟨q.1.put g, q.2⟩
/-- the first wrong part by the indexes -/
def wq (ws : List Nat) (r : RV) (ps pf pl : Addr) : Option Str := wrongN (if 0 ∈ ws then none else some r.z) (if 1 ∈ ws then none else some (ps, r.s)) (if 2 ∈ ws then none else some (pf, r.f)) (if 3 ∈ ws then none else some (pl, r.l)) (if 4 ∈ ws then none else some r.b) (if 5 ∈ ws then none else some r.g)
def namesN : List Str := ["sign", "shift", "first", "last", "base", "grow"]
theorem wq_nil {r : RV} {ps pf pl : Addr} (lt : r.f.1 < r.l.1) : wq [] r ps pf pl = none := by
  show (if r.l.1 ≤ r.f.1 then some ("last" : Str) else none) = none
  rw [if_neg (by omega)]
theorem wq_min {ws : List Nat} {r : RV} {ps pf pl : Addr} {m : Nat} (hm : m ∈ ws) (le : ∀ y ∈ ws, m ≤ y) (h6 : m < 6) : ∃ nm, namesN[m]? = some nm ∧ wq ws r ps pf pl = some nm := by
  have no : ∀ j, j < m → j ∉ ws := fun j hj z => by
    have := le j z
    omega
  unfold wq
  match m, h6, hm, no with
  | 0, _, hm, no => exact ⟨_, rfl, by rw [if_pos hm]; rfl⟩
  | 1, _, hm, no => exact ⟨_, rfl, by rw [if_neg (no 0 (by decide)), if_pos hm]; rfl⟩
  | 2, _, hm, no => exact ⟨_, rfl, by rw [if_neg (no 0 (by decide)), if_neg (no 1 (by decide)), if_pos hm]; rfl⟩
  | 3, _, hm, no => exact ⟨_, rfl, by rw [if_neg (no 0 (by decide)), if_neg (no 1 (by decide)), if_neg (no 2 (by decide)), if_pos hm]; rfl⟩
  | 4, _, hm, no => exact ⟨_, rfl, by rw [if_neg (no 0 (by decide)), if_neg (no 1 (by decide)), if_neg (no 2 (by decide)), if_neg (no 3 (by decide)), if_pos hm]; rfl⟩
  | 5, _, hm, no => exact ⟨_, rfl, by rw [if_neg (no 0 (by decide)), if_neg (no 1 (by decide)), if_neg (no 2 (by decide)), if_neg (no 3 (by decide)), if_neg (no 4 (by decide)), if_pos hm]; rfl⟩
theorem OddV.ks {Cs : List Addr} {CP : Addr} (inn : CP ∈ Cs) {H : Hp} {v : V} (h : OddV CP H v) : KS Cs H v none := ⟨(h.any inn).1, fun z e => by
  subst e
  rcases h.int with rfl | rfl <;> decide⟩
theorem OddV.kl {Cs : List Addr} {CP CL : Addr} (inn : CP ∈ Cs) (ne : CL ≠ CP) {H : Hp} {v : V} (h : OddV CP H v) : KL Cs CL H v none := ⟨(h.any inn).1, (h.any inn).2 CL ne⟩
theorem OddV.kn {Cs : List Addr} {CR CP CQo : Addr} (inn : CP ∈ Cs) (n1 : CQo ≠ CP) (n2 : CR ≠ CP) {H : Hp} {v : V} (h : OddV CP H v) (i : isI v = false) : KN Cs CR CP CQo H v none := ⟨(h.any inn).1, (h.any inn).2 CQo n1, (h.any inn).2 CR n2, i⟩
/-- the bent parts as they stand for Run -/
structure BentK (Cs : List Addr) (CL CR CP CQo : Addr) (H : Hp) (ws : List Nat) (r : RV) (ps pf pl : Addr) (b0 b1 b2 b3 b4 b5 : V) : Prop where
  s : KS Cs H b0 (if 0 ∈ ws then none else some r.z)
  h : KL Cs CL H b1 (if 1 ∈ ws then none else some (ps, r.s))
  f : KL Cs CL H b2 (if 2 ∈ ws then none else some (pf, r.f))
  l : KL Cs CL H b3 (if 3 ∈ ws then none else some (pl, r.l))
  b : KN Cs CR CP CQo H b4 (if 4 ∈ ws then none else some r.b)
  g : KN Cs CR CP CQo H b5 (if 5 ∈ ws then none else some r.g)
theorem bent_k {Cs : List Addr} {CL CR CP CQo : Addr} {H : Hp} {xs bs : List V} {ws : List Nat} {r : RV} {ps pf pl : Addr} {bv gv : V} (inn : CP ∈ Cs) (n1 : CL ≠ CP) (n2 : CR ≠ CP) (n3 : CQo ≠ CP) (P : PartsAt CL CR CP CQo H xs r ps pf pl bv gv) (B : BentAt CP H xs bs ws) :
    ∃ b0 b1 b2 b3 b4 b5, bs = [b0, b1, b2, b3, b4, b5] ∧ BentK Cs CL CR CP CQo H ws r ps pf pl b0 b1 b2 b3 b4 b5 := by
  obtain ⟨len, all, at'⟩ := B
  obtain ⟨rfl, hz, ls, lf, ll, lt, nb, ng⟩ := P
  match bs, len, at' with
  | [b0, b1, b2, b3, b4, b5], _, at' =>
    refine ⟨b0, b1, b2, b3, b4, b5, rfl, ?_, ?_, ?_, ?_, ?_, ?_⟩
    · have q := at' 0 b0 rfl
      split
      · next c => exact (q.1 c).1.ks inn
      · next c => cases Option.some.inj (q.2 c); exact ⟨rfl, hz⟩
    · have q := at' 1 b1 rfl
      split
      · next c => exact (q.1 c).1.kl inn n1
      · next c => cases Option.some.inj (q.2 c); exact ⟨rfl, ls⟩
    · have q := at' 2 b2 rfl
      split
      · next c => exact (q.1 c).1.kl inn n1
      · next c => cases Option.some.inj (q.2 c); exact ⟨rfl, lf⟩
    · have q := at' 3 b3 rfl
      split
      · next c => exact (q.1 c).1.kl inn n1
      · next c => cases Option.some.inj (q.2 c); exact ⟨rfl, ll⟩
    · have q := at' 4 b4 rfl
      split
      · next c => exact (q.1 c).1.kn inn n3 n2 ((q.1 c).2 (by decide))
      · next c =>
        have e : bv = b4 := Option.some.inj (q.2 c)
        subst e
        exact nb
    · have q := at' 5 b5 rfl
      split
      · next c => exact (q.1 c).1.kn inn n3 n2 ((q.1 c).2 (by decide))
      · next c =>
        have e : gv = b5 := Option.some.inj (q.2 c)
        subst e
        exact ng
  | [], h, _ => cases h
  | [_], h, _ => cases h
  | [_, _], h, _ => cases h
  | [_, _, _], h, _ => cases h
  | [_, _, _, _], h, _ => cases h
  | [_, _, _, _, _], h, _ => cases h
  | _ :: _ :: _ :: _ :: _ :: _ :: _ :: _, h, _ =>
    simp at h
theorem ix_listK {X : Cx} {K : PySem.W.Frag} (hK : X.K = K) : IxR X (rIxL K) := hK ▸ ix_list
/-- one part is put for another one -/
theorem near_parts {CL CR CP CQo : Addr} {H : Hp} {r : RV} {ps pf pl p1 p2 p3 x : Addr} {bv gv : V} {d : Int} (pa : PartsAt CL CR CP CQo H [.int r.z, .ref ps, .ref pf, .ref pl, bv, gv] r ps pf pl bv gv) (l1 : LineAt CL H p1 (r.s.1 + 0) (r.s.2 + 1)) (l2 : LineAt CL H p2 (r.f.1 - 0) (r.f.2 - 1)) (l3 : LineAt CL H p3 (r.l.1 + 0) (r.l.2 + 1)) (lx : RatAt CR H x (lowT 1 9) (lowB 1 9)) (db : Drawn r.b) (dg : Drawn r.g) (d0 : 0 ≤ d) (d6 : d < 6) :
    ∃ (j : Nat) (v : V) (r' : RV) (ps' pf' pl' : Addr) (bv' gv' : V), atI [.int (-r.z), .ref p1, .ref p2, .ref p3, .int 9, .ref x] d = some v ∧ ixN 6 d = some j ∧ PartsAt CL CR CP CQo H ([V.int r.z, .ref ps, .ref pf, .ref pl, bv, gv].set j v) r' ps' pf' pl' bv' gv' ∧ ¬ REq r' r ∧ Sz r'.b ∧ Sz r'.g := by
  obtain ⟨_, hz, ls, lf, ll, lt, nb, ng⟩ := pa
  have sb := sz_drawn db
  have sg := sz_drawn dg
  have e9 : lowT 1 9 = 1 ∧ lowB 1 9 = 9 := low_self (by decide) (by decide)
  have tr : ∀ {i : Int}, i ≠ 0 → trim [i] = [i] := trim1
  have s9 : Sz ([9], [1]) := sz_small (fun v hv => by have := List.mem_singleton.mp hv; omega) (fun v hv => by have := List.mem_singleton.mp hv; omega) (by show 1 ≤ 400; decide) (by show 1 ≤ 400; decide)
  have s1 : Sz ([1], [9]) := sz_small (fun v hv => by have := List.mem_singleton.mp hv; omega) (fun v hv => by have := List.mem_singleton.mp hv; omega) (by show 1 ≤ 400; decide) (by show 1 ≤ 400; decide)
  have cs : d = 0 ∨ d = 1 ∨ d = 2 ∨ d = 3 ∨ d = 4 ∨ d = 5 := by omega
  rcases cs with rfl | rfl | rfl | rfl | rfl | rfl
  · refine ⟨0, _, { r with z := -r.z }, ps, pf, pl, bv, gv, rfl, rfl, ⟨rfl, (by show -r.z = 1 ∨ -r.z = -1; omega), ls, lf, ll, lt, nb, ng⟩, fun z => ?_, sb, sg⟩
    have : -r.z = r.z := z.1
    omega
  · refine ⟨1, _, { r with s := (r.s.1 + 0, r.s.2 + 1) }, p1, pf, pl, bv, gv, rfl, rfl, ⟨rfl, hz, l1, lf, ll, lt, nb, ng⟩, fun z => ?_, sb, sg⟩
    have : r.s.2 + 1 = r.s.2 := congrArg Prod.snd z.2.1
    omega
  · refine ⟨2, _, { r with f := (r.f.1 - 0, r.f.2 - 1) }, ps, p2, pl, bv, gv, rfl, rfl, ⟨rfl, hz, ls, l2, ll, (by show r.f.1 - 0 < r.l.1; omega), nb, ng⟩, fun z => ?_, sb, sg⟩
    have : r.f.2 - 1 = r.f.2 := congrArg Prod.snd z.2.2.1
    omega
  · refine ⟨3, _, { r with l := (r.l.1 + 0, r.l.2 + 1) }, ps, pf, p3, bv, gv, rfl, rfl, ⟨rfl, hz, ls, lf, l3, (by show r.f.1 < r.l.1 + 0; omega), nb, ng⟩, fun z => ?_, sb, sg⟩
    have : r.l.2 + 1 = r.l.2 := congrArg Prod.snd z.2.2.2.1
    omega
  · refine ⟨4, _, { r with b := ([9], [1]) }, ps, pf, pl, .int 9, gv, rfl, rfl, ⟨rfl, hz, ls, lf, ll, lt, .inr ⟨9, 1, .inr ⟨rfl, rfl⟩, by decide, by decide, by decide, by rw [tr (by decide)]⟩, ng⟩, fun z => ?_, s9, sg⟩
    exact (const_ne db (t := 9) (l := 1) (by decide) (by decide) (.inl (by decide))).1 z.2.2.2.2.1
  · rw [e9.1, e9.2] at lx
    refine ⟨5, _, { r with g := ([1], [9]) }, ps, pf, pl, bv, .ref x, rfl, rfl, ⟨rfl, hz, ls, lf, ll, lt, nb, .inr ⟨1, 9, .inl ⟨x, rfl, lx⟩, by decide, by decide, by decide, by rw [tr (by decide)]⟩⟩, fun z => ?_, sb, s1⟩
    exact (const_ne dg (t := 1) (l := 9) (by decide) (by decide) (.inr (by decide))).1 z.2.2.2.2.2
/-- two runs compared -/
theorem cmp_runs {P : Program} {K : PySem.W.Frag} {mg : Str → Option Value} {Cs : List Addr} {CL CR CP CQo CN CT CB fB : Addr} (T : NTx P K mg Cs CL CR CP CQo CN CT CB fB) {H : Hp} {a b : Addr} {r t : RV} {ps pf pl qb qg ps' pf' pl' qb' qg' : Addr} {Q : VK} {E : XK} (ha : RunAt CL CP CQo CN H a r ps pf pl qb qg) (hb : RunAt CL CP CQo CN H b t ps' pf' pl' qb' qg')
    (s1 : Sz r.b) (s2 : Sz r.g) (s3 : Sz t.b) (s4 : Sz t.g) (k : ∀ z H', Same H H' → (z = true ↔ REq r t) → Q (.bl z) H') : rCmpO K CN (spNeq Cs CL CP CQo CN) E (.ref a) (.ref b) H Q := by
  obtain ⟨dx, e⟩ := id ha.1
  obtain ⟨dy, e'⟩ := id hb.1
  have ow := T.fam.own CN T.innN
  exact ⟨a, dx, _, _, rfl, e, ow.ty e', ow.sf, a, r, ps, pf, pl, qb, qg, _, rfl, ha, s1, s2, .inl ⟨b, t, ps', pf', pl', qb', qg', rfl, hb, s3, s4, k⟩⟩
theorem cmp_runs_no {P : Program} {K : PySem.W.Frag} {mg : Str → Option Value} {Cs : List Addr} {CL CR CP CQo CN CT CB fB : Addr} (T : NTx P K mg Cs CL CR CP CQo CN CT CB fB) {H : Hp} {a : Addr} {r : RV} {ps pf pl qb qg : Addr} {v : V} {Q : VK} {E : XK} (ha : RunAt CL CP CQo CN H a r ps pf pl qb qg)
    (s1 : Sz r.b) (s2 : Sz r.g) (av : AnyF Cs H v) (ni : notIns CN H v) (k : Q (.bl false) H) : rCmpO K CN (spNeq Cs CL CP CQo CN) E (.ref a) v H Q := by
  obtain ⟨dx, e⟩ := id ha.1
  obtain ⟨tt, tx, _, nf⟩ := T.fam.isi T.innN av ni
  exact ⟨a, dx, _, _, rfl, e, tx, nf, a, r, ps, pf, pl, qb, qg, _, rfl, ha, s1, s2, .inr ⟨av, ni, k⟩⟩
theorem ne_runs {P : Program} {K : PySem.W.Frag} {mg : Str → Option Value} {Cs : List Addr} {CL CR CP CQo CN CT CB fB : Addr} (T : NTx P K mg Cs CL CR CP CQo CN CT CB fB) {H : Hp} {a b : Addr} {r t : RV} {ps pf pl qb qg ps' pf' pl' qb' qg' : Addr} {Q : VK} {E : XK} (ha : RunAt CL CP CQo CN H a r ps pf pl qb qg) (hb : RunAt CL CP CQo CN H b t ps' pf' pl' qb' qg')
    (s1 : Sz r.b) (s2 : Sz r.g) (s3 : Sz t.b) (s4 : Sz t.g) (k : ∀ z H', Same H H' → (z = true ↔ REq r t) → Q (.bl (!z)) H') : rNeO K CN (spNeq Cs CL CP CQo CN) E (.ref a) (.ref b) H Q := by
  obtain ⟨dx, e⟩ := id ha.1
  obtain ⟨dy, e'⟩ := id hb.1
  have ow := T.fam.own CN T.innN
  exact ⟨a, dx, _, _, rfl, e, ow.ty e', ow.sf, a, r, ps, pf, pl, qb, qg, _, rfl, ha, s1, s2, .inl ⟨b, t, ps', pf', pl', qb', qg', rfl, hb, s3, s4, fun z H' s hz => ⟨z, rfl, k z H' s hz⟩⟩⟩
theorem REq.rfl' (r : RV) : REq r r := ⟨rfl, rfl, rfl, rfl, fun _ => rfl, fun _ => rfl⟩
theorem dp_nats {K : PySem.W.Frag} {H : Hp} : ∀ ws : List Nat, DpAll K H (ws.map fun w : Nat => V.int w) (ws.map fun w : Nat => PyData.int w)
  | [] => .nil
  | w :: ws => .cons (.int _) (dp_nats ws)
theorem plain_nats : ∀ ws : List Nat, PyData.plainAll (ws.map fun w : Nat => PyData.int w) = true
  | [] => rfl
  | w :: ws => by
    show (true && PyData.plainAll (ws.map fun w : Nat => PyData.int w)) = true
    rw [plain_nats ws]
    rfl
/-! what heard hands back of Run(..) -/
def strO : Option Str → V
  | none => .non
  | some z => .str z
theorem heardN {CB : Addr} {H : Hp} {Q : VK} {nm : Str} (k : ∀ H', Same H H' → Q (.str nm) H') : Errs (WHeard CB Q) CB "part" (.str nm) H := fun d H' hd hx s => ⟨d, .str nm, rfl, rfl, hx, k H' s⟩
theorem run_heard {Cs : List Addr} {CL CR CP CQo CN CB : Addr} {H : Hp} {x dx : Addr} {sv hv fv lv bv gv : V} {s : Option Int} {sh fi la : Option (Addr × Int × Int)} {ba gr : Option (List Int × List Int)} {Q Q' : VK}
    (kS : KS Cs H sv s) (kH : KL Cs CL H hv sh) (kF : KL Cs CL H fv fi) (kL : KL Cs CL H lv la) (kB : KN Cs CR CP CQo H bv ba) (kG : KN Cs CR CP CQo H gv gr) (hx : H x = none) (hd : H dx = none) (ne : dx ≠ x)
    (imp : ∀ v H', Q .non H' → Q' v H') (k : ∀ H', Same H H' → Q (strO (wrongN s sh fi la ba gr)) H') :
    spNinit Cs CL CR CP CQo CN CB [.ref x, sv, hv, fv, lv, bv, gv] (upd (upd H dx (.own x)) x (.ins CN dx [])) (fun v H2 => v = .non ∧ Q' (.ref x) H2) (WHeard CB Q) := by
  refine ninit_at kS kH kF kL kB kG hx hd ne (fun nm e => heardN fun H' sm => ?_) fun z a1 a2 a3 b g e1 e2 e3 e4 e5 e6 lt qb qg H' rn sm => imp _ _ ?_
  · have := k H' sm
    rw [e] at this
    exact this
  · have := k H' sm
    subst e1
    subst e2
    subst e3
    subst e4
    subst e5
    subst e6
    have e : wrongN (some z) (some a1) (some a2) (some a3) (some b) (some g) = none := by
      show (if a3.2.1 ≤ a2.2.1 then some ("last" : Str) else none) = none
      rw [if_neg (by omega)]
    rw [e] at this
    exact this
/-- what stays while the refusals are heard -/
structure RestAt (CL CR CP CQo : Addr) (TS : List (Addr × Str)) (H : Hp) (r : RV) (ps pf pl : Addr) (v4 v5 : V) (pn cl L lf lr : Addr) (n : Nat) (zs : List Str) : Prop where
  pa : PartsAt CL CR CP CQo H [V.int r.z, .ref ps, .ref pf, .ref pl, v4, v5] r ps pf pl v4 v5
  gL : H L = some (.lst [V.int r.z, .ref ps, .ref pf, .ref pl, v4, v5])
  gf : H lf = some (.lst [V.int r.z, .ref ps, .ref pl, .ref pf, v4, v5])
  gr : H lr = some (.lst (zs.map V.str))
  pen : PenC H pn cl n
  tab : LamX.Tabs TS H
theorem RestAt.ext {CL CR CP CQo : Addr} {TS : List (Addr × Str)} {H H' : Hp} {r : RV} {ps pf pl : Addr} {v4 v5 : V} {pn cl L lf lr : Addr} {n : Nat} {zs : List Str} (h : RestAt CL CR CP CQo TS H r ps pf pl v4 v5 pn cl L lf lr n zs) (x : LamX.ExtN H H') (t : LamX.Tabs TS H') : RestAt CL CR CP CQo TS H' r ps pf pl v4 v5 pn cl L lf lr n zs := by
  refine ⟨h.pa.ext x, x _ _ h.gL (by intro ps z; cases z), x _ _ h.gf (by intro ps z; cases z), x _ _ h.gr (by intro ps z; cases z), ?_, t⟩
  obtain ⟨ns, a0, r0, h1, h2, h3⟩ := h.pen
  exact ⟨ns, a0, r0, x _ _ h1 (by intro ps z; cases z), x _ _ h2 (by intro ps z; cases z), h3⟩
theorem RestAt.same {CL CR CP CQo : Addr} {TS : List (Addr × Str)} {H H' : Hp} {r : RV} {ps pf pl : Addr} {v4 v5 : V} {pn cl L lf lr : Addr} {n : Nat} {zs : List Str} (h : RestAt CL CR CP CQo TS H r ps pf pl v4 v5 pn cl L lf lr n zs) (s : Same H H') : RestAt CL CR CP CQo TS H' r ps pf pl v4 v5 pn cl L lf lr n zs := h.ext (ext_same s) (h.tab.ext s)
theorem RestAt.put {CL CR CP CQo : Addr} {TS : List (Addr × Str)} {H : Hp} {r : RV} {ps pf pl : Addr} {v4 v5 : V} {pn cl L lf lr : Addr} {n : Nat} {z y : Str} {zs : List Str} (h : RestAt CL CR CP CQo TS H r ps pf pl v4 v5 pn cl L lf lr n (z :: zs)) : RestAt CL CR CP CQo TS (upd H lr (.lst ((z :: zs).map V.str ++ [strO (some y)]))) r ps pf pl v4 v5 pn cl L lf lr n (z :: zs ++ [y]) := by
  refine ⟨h.pa.put h.gr, ?_, ?_, ?_, ?_, tabs_put h.tab h.gr⟩
  · rw [upd_ne (ne_of h.gL h.gr (by intro z; cases z))]
    exact h.gL
  · rw [upd_ne (ne_of h.gf h.gr (by intro z; cases z))]
    exact h.gf
  · rw [List.map_append]
    exact upd_same
  · have p := h.pen
    obtain ⟨ns, a0, r0, h1, h2, h3⟩ := id p
    refine p.put (ne_of h1 h.gr (by intro z; cases z)) (ne_of h2 h.gr ?_)
    cases ns with
    | nil => intro z; cases z
    | cons a b => intro z; cases z
theorem numq_int {CR CP CQo : Addr} {H : Hp} {i : Int} : NumQ CR CP CQo H (.int i) (trim [i], [1]) := .inr ⟨i, 1, .inr ⟨rfl, rfl⟩, by decide, Int.gcd_one_right i, by decide, rfl⟩
theorem kn_lst {Cs : List Addr} {CR CP CQo : Addr} {H : Hp} {a : Addr} {xs : List V} (g : H a = some (.lst xs)) : KN Cs CR CP CQo H (.ref a) none := by
  have n : ∀ C, notIns C H (.ref a) := fun C b dx fs e e2 => by
    cases e
    rw [g] at e2
    cases e2
  exact ⟨.inl ⟨_, .lst g⟩, n _, n _, rfl⟩
theorem kn_non {Cs : List Addr} {CR CP CQo : Addr} {H : Hp} : KN Cs CR CP CQo H .non none := ⟨.inl ⟨_, .non⟩, (fun _ _ _ z => nomatch z), (fun _ _ _ z => nomatch z), rfl⟩
end My
set_option pp.maxSteps 1500
set_option pp.deepTerms.threshold 8
/-! ### runs as the law tries them -/
namespace My
open PySem PySem.Spec PyProof.Rows L2
abbrev s_runsR : Stmt := topS 79
theorem sc_runsR : FnScope ["_law_pen_here", "_law_parts", "_law_made", "_law_shown", "_law_at", "_law_near", "_law_bent", "_law_wrong", "_law_turn", "_law_odd_here", "_law_names", "_law_heard_here", "_law_one", "_law_flat"] ["_law_pen_here"] (defScope s_runsR) := ⟨rfl, rfl, rfl, by decide +kernel, rfl, by decide +kernel, by decide +kernel⟩
def spRunsR (TS : List (Addr × Str)) : Sp := fun vs H Q _ => ∃ (pn cl : Addr) (n : Nat), vs = [.ref pn] ∧ PenC H pn cl n ∧ n < 60000 ∧ LamX.Tabs TS H ∧ ∀ H', PenC H' pn cl (n + 30) → LamX.Tabs TS H' → Q (.bl true) H'
section
variable {P : Program} {w : World} {K : PySem.W.Frag} {mg : Str → Option Value} {base : Heap} {Cs : List Addr} {CE CL CR CP CQo CN CT CB fB : Addr}
theorem ok_runsR {f c tb : Addr} {fd : FuncData} {TS : List (Addr × Str)} (F : FunC K "_law_runs_right" "_law_runs_right" s_runsR f fd c) (T : NTx P K mg Cs CL CR CP CQo CN CT CB fB) (TH : HTx P K mg CE CB fB) (DH : HeardAt K mg)
    (hmN : PySem.W.mroIn K CN (.type "object") = some true) (neN : PySem.W.findIn K (.ref CN) "__ne__" = some (some (.builtin "object.__ne__")))
    (TB : LamX.TabB base mg c tb) (hmT : (tb, (("_law_runs_right" : Str) ++ ".<locals>.") ++ "<lambda>") ∈ TS) (hu : ∀ p ∈ TS, p.1 = tb → p.2 = (("_law_runs_right" : Str) ++ ".<locals>.") ++ "<lambda>")
    (D_draw : DefAt P w K mg base CX0 1 "_law_draw" ["_law_pen_here", "_law_many"] spDrawC) (D_line : DefAt P w K mg base CX0 5 "_law_line" ["_law_pen_here"] (spLine CL)) (D_rising : DefAt P w K mg base CX0 8 "_law_rising" ["_law_pen_here"] (spRising CL))
    (D_number : DefAt P w K mg base CX0 8 "_law_number" ["_law_pen_here"] (spNumber CR CP CQo)) (D_asq : DefAt P w K mg base CX0 8 "_law_as_quotient" ["_law_number_here"] (spAsq CR CP CQo)) (D_odd : DefAt P w K mg base CX0 5 "_law_odd" ["_law_pen_here"] (spOdd CP))
    (D_lrun : DefAt P w K mg base CX0 11 "_law_run" ["_law_parts"] (spLrun CL CR CP CQo CN)) (PR_sign : PropAt P w K mg base CN "sign" "own_sign")
    (CE_neq : CmpAt P w K mg base CX0 9 CN "__eq__" ["self", "other"] (spNeq Cs CL CP CQo CN)) (CE_qeq : CmpAt P w K mg base CX0 7 CQo "__eq__" ["self", "other"] (spQeq CQo CP))
    (O_ladd : CmpAt P w K mg base CX0 6 CL "__add__" ["self", "other"] (spLadd CL)) (B_ladd : BinF K CL (Operator.info .Add).2) (O_lsub : CmpAt P w K mg base CX0 7 CL "__sub__" ["self", "other"] (spLsub CL)) (B_lsub : BinF K CL (Operator.info .Sub).2)
    (M_Ratio : MakeAt P w K mg base (L2.CX P w) 3 "Ratio" CR ["self", "top", "bottom"] (spRinit CR) [])
    (M_Run : MakeAt P w K mg base (L2.CX P w) 9 "Run" CN ["self", "sign", "shift", "first", "last", "base", "grow"] (spNinit Cs CL CR CP CQo CN CB) [])
    (M_Run1 : MakeAt P w K mg base (L2.CX P w) 9 "Run" CN ["self", "sign", "shift", "first", "last", "base", "grow"] (spNinit Cs CL CR CP CQo CN CB) [.int 0]) :
    FnG P w K mg base CX0 13 f fd ["_law_pen_here"] (spRunsR TS) := by
  refine okGc F sc_runsR (fun vs H Q E h => ?_) (fun A outer s H vs Q E hgd hr h => ?_)
  · obtain ⟨pn, cl, n, rfl, _⟩ := h
    rfl
  · obtain ⟨pn, cl, n, rfl, hp, hn, ht, k⟩ := h
    refine ⟨_, (pss_cons (ps_set (i := 1) sc_runsR.nd rfl (Or.inr rfl) (pe_op op_cat (pe_op op_cat (pe_lst (pa_cons (pe_op op_sub pe_int (pe_op op_mul pe_int (My.pe_d D_draw (hr.mono (by decide)) (by rfl) pass0 (pa_cons (pv 0) (pa_cons pe_int pa_nil))))) (pa_cons (My.pe_d D_line (hr.mono (by decide)) (by rfl) pass0 (pa_cons (pv 0) pa_nil)) pa_nil))) (My.pe_d D_rising (hr.mono (by decide)) (by rfl) pass0 (pa_cons (pv 0) pa_nil))) (pe_lst (pa_cons (My.pe_d D_number (hr.mono (by decide)) (by rfl) pass0 (pa_cons (pv 0) pa_nil)) (pa_cons (My.pe_d D_number (hr.mono (by decide)) (by rfl) pass0 (pa_cons (pv 0) pa_nil)) pa_nil)))))
      (pss_cons (ps_set (i := 2) sc_runsR.nd rfl (Or.inl rfl) (My.pe_d D_lrun (hr.mono (by decide)) (by rfl) pass0 (pa_cons (pv 1) pa_nil)))
      (pss_cons (ps_set (i := 3) sc_runsR.nd rfl (Or.inl rfl) (pe_lst (pa_cons (My.pe_pr PR_sign T.clN (hr.mono (by decide)) pass0 (pv 2) rfl) (pa_cons (pe_fld (pv 2) rfl) (pa_cons (pe_fld (pv 2) rfl) (pa_cons (pe_fld (pv 2) rfl) (pa_cons (pe_fld (pv 2) rfl) (pa_cons (pe_fld (pv 2) rfl) pa_nil))))))))
      (pss_cons (ps_if (PW.pt (pw_or (pt_cmpR (My.op_neQ CE_qeq (hr.mono (by decide)) pass0) (pv 3) (pe_op op_cat (pe_slice sl_list (pv 1) po_none (po_some pe_int)) (pe_lst (pa_cons (My.pe_d D_asq (hr.mono (by decide)) (by rfl) pass0 (pa_cons (pe_ix ix_list (pv 1) pe_int (fun _ _ => rfl)) pa_nil)) (pa_cons (My.pe_d D_asq (hr.mono (by decide)) (by rfl) pass0 (pa_cons (pe_ix ix_list (pv 1) pe_int (fun _ _ => rfl)) pa_nil)) pa_nil)))) (nomark _)) (pw_or1 (pt_cmpR (My.op_neO CE_neq hmN neN (hr.mono (by decide)) pass0) (pv 2) (My.pe_d D_lrun (hr.mono (by decide)) (by rfl) pass0 (pa_cons (pv 1) pa_nil)) (nomark _))))) (pss_one (ps_ret pe_bl)) pss_nil)
      (pss_cons (ps_set (i := 4) sc_runsR.nd rfl (Or.inl rfl) (My.pe_d D_draw (hr.mono (by decide)) (by rfl) pass0 (pa_cons (pv 0) (pa_cons pe_int pa_nil))))
      (pss_cons (ps_set (i := 5) sc_runsR.nd rfl (Or.inl rfl) (pe_callTy call_list_of (by rfl) T.z_list boot_list (pa_cons (pv 1) pa_nil)))
      (pss_cons (ps_asg (pe_ix ix_list (pe_lst (pa_cons (pe_un un_neg (pe_ix ix_list (pv 1) pe_int (fun _ _ => rfl))) (pa_cons (pe_op (My.op_binO O_ladd B_ladd (hr.mono (by decide)) pass0) (pe_ix ix_list (pv 1) pe_int (fun _ _ => rfl)) pe_int) (pa_cons (pe_op (My.op_binO O_lsub B_lsub (hr.mono (by decide)) pass0) (pe_ix ix_list (pv 1) pe_int (fun _ _ => rfl)) pe_int) (pa_cons (pe_op (My.op_binO O_ladd B_ladd (hr.mono (by decide)) pass0) (pe_ix ix_list (pv 1) pe_int (fun _ _ => rfl)) pe_int) (pa_cons pe_int (pa_cons (My.pe_mk M_Ratio (hr.mono (by decide)) (by rfl) passL (pa_cons pe_int (pa_cons pe_int pa_nil))) pa_nil))))))) (pv 4) (fun _ _ => rfl)) (pg_sub (pv 5) (pv 4) set_list))
      (pss_cons (ps_if (PW.pt (pw_or (pt_cmpR (My.op_cmpO CE_neq (hr.mono (by decide)) pass0) (My.pe_d D_lrun (hr.mono (by decide)) (by rfl) pass0 (pa_cons (pv 5) pa_nil)) (pv 2) (nomark _)) (pw_or (pt_cmpR (My.op_cmpO CE_neq (hr.mono (by decide)) pass0) (pv 2) (pe_callTy call_tuple_of (by rfl) T.z_tuple boot_tuple (pa_cons (pv 1) pa_nil)) (nomark _)) (pw_or (pt_cmpR (My.op_cmpO CE_neq (hr.mono (by decide)) pass0) (pv 2) pe_non (nomark _)) (pw_or1 (pt_not (pt_cmpR (My.op_cmpO CE_neq (hr.mono (by decide)) pass0) (pv 2) (My.pe_d D_lrun (hr.mono (by decide)) (by rfl) pass0 (pa_cons (pe_callTy call_list_of (by rfl) T.z_list boot_list (pa_cons (pv 1) pa_nil)) pa_nil)) (nomark _)))))))) (pss_one (ps_ret pe_bl)) pss_nil)
      (pss_cons (ps_asg (pe_tup (pa_cons (pe_callTy call_list_of (by rfl) T.z_list boot_list (pa_cons (pv 1) pa_nil)) (pa_cons (pe_lst pa_nil) pa_nil))) (pg_tup rfl (pgs_cons (pg_name (i := 6) sc_runsR.nd rfl (Or.inr rfl)) (pgs_cons (pg_name (i := 7) sc_runsR.nd rfl (Or.inl rfl)) pgs_nil))))
      (pss_cons (ps_for PassesOwn.never rfl (pi_range1 rfl T.z_range (pa_cons (pe_op op_add pe_int (My.pe_d D_draw (hr.mono (by decide)) (by rfl) pass0 (pa_cons (pv 0) (pa_cons pe_int pa_nil)))) pa_nil)) (pg_name (i := 8) sc_runsR.nd rfl (Or.inl rfl)) (pss_cons (ps_set (i := 4) sc_runsR.nd rfl (Or.inl rfl) (My.pe_d D_draw (hr.mono (by decide)) (by rfl) pass0 (pa_cons (pv 0) (pa_cons pe_int pa_nil))))
      (pss_cons (ps_set (i := 9) sc_runsR.nd rfl (Or.inl rfl) (My.pe_d D_odd (hr.mono (by decide)) (by rfl) pass0 (pa_cons (pv 0) pa_nil)))
      (pss_one (ps_if (PW.pt (pw_or (pt_cmpR op_lt (pv 4) pe_int (nomark _)) (pw_or (pt_not (pt_val (pe_callB call_isi (by rfl) T.z_isinstance boot_isinstance (pa_cons (pv 9) (pa_cons (pe_bltn (v := .ty "int") (by rfl) T.z_int boot_int rfl) pa_nil))))) (pw_or1 (pt_val (pe_callB call_isi (by rfl) T.z_isinstance boot_isinstance (pa_cons (pv 9) (pa_cons (pe_bltn (v := .ty "bool") (by rfl) T.z_bool boot_bool rfl) pa_nil)))))))) (pss_cons (ps_asg (pv 9) (pg_sub (pv 6) (pv 4) set_list))
      (pss_one (ps_expr (pe_bm PySem.F.plainAttrs_list PySem.F.slot_list_append PySem.F.type_list_append mt_append (pv 7) (pa_cons (pv 4) pa_nil))))) pss_nil)))))
      (pss_cons (ps_set (i := 10) sc_runsR.nd rfl (Or.inl rfl) (pe_lst (pa_cons pe_str (pa_cons pe_str (pa_cons pe_str (pa_cons pe_str (pa_cons pe_str (pa_cons pe_str pa_nil))))))))
      (pss_cons (ps_set (i := 11) sc_runsR.nd rfl (Or.inl rfl) (My.pe_heard (k := 10) DH TH hgd (hr.mono (by decide)) TB rfl hmT hu (by rfl) (LamX.lamS_by (by show LamX.lamSB (defScope s_runsR) _ = true; decide +kernel)) rfl (fun _ _ _ _ _ => rfl) (fun A outer s H E f c hrl => (My.pe_mk M_Run (hrl.mono (by decide)) (by rfl) (passes_call (takes_of rfl rfl rfl rfl) (fun _ _ _ _ h => h)) (pa_cons (pe_ix (My.ix_listK (K := K) rfl) (pv 6) pe_int (fun _ _ => rfl)) (pa_cons (pe_ix (My.ix_listK (K := K) rfl) (pv 6) pe_int (fun _ _ => rfl)) (pa_cons (pe_ix (My.ix_listK (K := K) rfl) (pv 6) pe_int (fun _ _ => rfl)) (pa_cons (pe_ix (My.ix_listK (K := K) rfl) (pv 6) pe_int (fun _ _ => rfl)) (pa_cons (pe_ix (My.ix_listK (K := K) rfl) (pv 6) pe_int (fun _ _ => rfl)) (pa_cons (pe_ix (My.ix_listK (K := K) rfl) (pv 6) pe_int (fun _ _ => rfl)) pa_nil))))))))))
      (C8.pss_cut (ps_if (pt_cmpR op_ne (pv 11) (pe_ifExp (pt_cmpR (My.op_eqP hr.units) (pv 7) (pe_lst pa_nil) (nomark _)) pe_non (pe_ix ix_list (pv 10) (pe_callB (cr_min rfl) (by rfl) T.z_min boot_min (pa_cons (pe_lc (own := [("_law_one", 12)]) rfl sc_runsR.nd (pi_list (pv 7)) (blkOk_by (by show blkC ["_law_pen_here", "_law_parts", "_law_made", "_law_shown", "_law_at", "_law_near", "_law_bent", "_law_wrong", "_law_turn", "_law_odd_here", "_law_names", "_law_heard_here", "_law_one", "_law_flat"] (defScope s_runsR) _ _ = true; decide +kernel)) (fun _ _ _ _ _ => (pg_name (i := 12) sc_runsR.nd rfl (Or.inl rfl))) (fun _ _ _ _ _ => pts_nil) (fun _ _ _ _ _ => (pe_callTy call_int1 (by rfl) T.z_int boot_int (pa_cons (pv 12) pa_nil)))) pa_nil)) (fun _ _ => rfl))) (nomark _)) (pss_one (ps_ret pe_bl)) pss_nil)
      (pss_cons (ps_set (i := 13) sc_runsR.nd rfl (Or.inr rfl) (pe_lst (pa_cons (pe_ix ix_list (pv 1) pe_int (fun _ _ => rfl)) (pa_cons (pe_ix ix_list (pv 1) pe_int (fun _ _ => rfl)) (pa_cons (pe_ix ix_list (pv 1) pe_int (fun _ _ => rfl)) (pa_cons (pe_ix ix_list (pv 1) pe_int (fun _ _ => rfl)) (pa_cons (pe_ix ix_list (pv 1) pe_int (fun _ _ => rfl)) (pa_cons (pe_ix ix_list (pv 1) pe_int (fun _ _ => rfl)) pa_nil))))))))
      (pss_cons (ps_set (i := 11) sc_runsR.nd rfl (Or.inl rfl) (pe_lst (pa_cons (My.pe_heard (k := 10) DH TH hgd (hr.mono (by decide)) TB rfl hmT hu (by rfl) (LamX.lamS_by (by show LamX.lamSB (defScope s_runsR) _ = true; decide +kernel)) rfl (fun _ _ _ _ _ => rfl) (fun A outer s H E f c hrl => (My.pe_mk M_Run (hrl.mono (by decide)) (by rfl) (passes_call (takes_of rfl rfl rfl rfl) (fun _ _ _ _ h => h)) (pa_cons (pe_ix (My.ix_listK (K := K) rfl) (pv 13) pe_int (fun _ _ => rfl)) (pa_cons (pe_ix (My.ix_listK (K := K) rfl) (pv 13) pe_int (fun _ _ => rfl)) (pa_cons (pe_ix (My.ix_listK (K := K) rfl) (pv 13) pe_int (fun _ _ => rfl)) (pa_cons (pe_ix (My.ix_listK (K := K) rfl) (pv 13) pe_int (fun _ _ => rfl)) (pa_cons (pe_ix (My.ix_listK (K := K) rfl) (pv 13) pe_int (fun _ _ => rfl)) (pa_cons (pe_ix (My.ix_listK (K := K) rfl) (pv 13) pe_int (fun _ _ => rfl)) pa_nil))))))))) pa_nil)))
      (pss_cons (ps_expr (pe_bm PySem.F.plainAttrs_list PySem.F.slot_list_append PySem.F.type_list_append mt_append (pv 11) (pa_cons (My.pe_heard (k := 10) DH TH hgd (hr.mono (by decide)) TB rfl hmT hu (by rfl) (LamX.lamS_by (by show LamX.lamSB (defScope s_runsR) _ = true; decide +kernel)) rfl (fun _ _ _ _ _ => rfl) (fun A outer s H E f c hrl => (My.pe_mk M_Run1 (hrl.mono (by decide)) (by rfl) (passes_call (takes_of rfl rfl rfl rfl) (fun _ _ _ _ h => h)) (pa_cons pe_int (pa_cons (pe_ix (My.ix_listK (K := K) rfl) (pv 1) pe_int (fun _ _ => rfl)) (pa_cons (pe_ix (My.ix_listK (K := K) rfl) (pv 1) pe_int (fun _ _ => rfl)) (pa_cons (pe_op (My.op_binO O_ladd B_ladd (hrl.mono (by decide)) pass0) (pe_ix (My.ix_listK (K := K) rfl) (pv 1) pe_int (fun _ _ => rfl)) pe_int) (pa_cons pe_int pa_nil)))))))) pa_nil)))
      (pss_cons (ps_expr (pe_bm PySem.F.plainAttrs_list PySem.F.slot_list_append PySem.F.type_list_append mt_append (pv 11) (pa_cons (My.pe_heard (k := 10) DH TH hgd (hr.mono (by decide)) TB rfl hmT hu (by rfl) (LamX.lamS_by (by show LamX.lamSB (defScope s_runsR) _ = true; decide +kernel)) rfl (fun _ _ _ _ _ => rfl) (fun A outer s H E f c hrl => (My.pe_mk M_Run (hrl.mono (by decide)) (by rfl) (passes_call (takes_of rfl rfl rfl rfl) (fun _ _ _ _ h => h)) (pa_cons (pe_ix (My.ix_listK (K := K) rfl) (pv 13) pe_int (fun _ _ => rfl)) (pa_cons (pe_ix (My.ix_listK (K := K) rfl) (pv 13) pe_int (fun _ _ => rfl)) (pa_cons (pe_ix (My.ix_listK (K := K) rfl) (pv 13) pe_int (fun _ _ => rfl)) (pa_cons (pe_ix (My.ix_listK (K := K) rfl) (pv 13) pe_int (fun _ _ => rfl)) (pa_cons pe_non (pa_cons (pe_lst pa_nil) pa_nil))))))))) pa_nil)))
      (pss_cons (ps_expr (pe_bm PySem.F.plainAttrs_list PySem.F.slot_list_append PySem.F.type_list_append mt_append (pv 11) (pa_cons (My.pe_heard (k := 10) DH TH hgd (hr.mono (by decide)) TB rfl hmT hu (by rfl) (LamX.lamS_by (by show LamX.lamSB (defScope s_runsR) _ = true; decide +kernel)) rfl (fun _ _ _ _ _ => rfl) (fun A outer s H E f c hrl => (My.pe_mk M_Run (hrl.mono (by decide)) (by rfl) (passes_call (takes_of rfl rfl rfl rfl) (fun _ _ _ _ h => h)) (pa_cons (pe_ix (My.ix_listK (K := K) rfl) (pv 13) pe_int (fun _ _ => rfl)) (pa_cons (pe_ix (My.ix_listK (K := K) rfl) (pv 13) pe_int (fun _ _ => rfl)) (pa_cons (pe_ix (My.ix_listK (K := K) rfl) (pv 13) pe_int (fun _ _ => rfl)) (pa_cons (pe_ix (My.ix_listK (K := K) rfl) (pv 13) pe_int (fun _ _ => rfl)) (pa_cons (pe_ix (My.ix_listK (K := K) rfl) (pv 13) pe_int (fun _ _ => rfl)) (pa_cons (pe_lst pa_nil) pa_nil))))))))) pa_nil)))
      (pss_one (ps_ret (pe_cmpR (My.op_eqP hr.units) (pv 11) (pe_lst (pa_cons pe_str (pa_cons pe_str (pa_cons pe_str (pa_cons pe_str pa_nil))))) (nomark _)))))))))))))))))))))), ?_⟩
    refine ⟨_, rfl, pn, cl, 2, n, rfl, by decide, by decide, hp, by omega, fun d1 H1 a1 b1 p1 u1 => ⟨_, _, rfl, rfl, .inl ⟨by decide, by decide⟩, _, _, rfl, rfl, ?_⟩⟩
    refine ⟨_, rfl, pn, cl, _, rfl, p1, by omega, fun ps sa sb H2 ls2 p2 u2 _ => ⟨(by show 2 ≤ sizeLine; decide), fun l1 hl1 => ?_⟩⟩
    have s3 := same_new (o := .lst [.int (1 - 2 * d1), .ref ps]) hl1
    have p3 := p2.same s3
    have ls3 := ls2.same s3
    have g1 : upd H2 l1 (.lst [.int (1 - 2 * d1), .ref ps]) l1 = some (.lst [.int (1 - 2 * d1), .ref ps]) := upd_same
    have n1 : l1 ≠ pn := pen_ne p2.pen hl1
    have t3 := (tabs_but (tabs_but ht hp.pen u1) p1.pen u2).ext s3
    generalize upd H2 l1 (.lst [.int (1 - 2 * d1), .ref ps]) = H3 at s3 p3 ls3 g1 t3 ⊢
    refine ⟨_, rfl, pn, cl, _, rfl, p3, by omega, fun l2 pf pl fa fb la lb H4 lf4 ll4 lt g2 p4 u4 hl2 => ?_⟩
    have n2 : l2 ≠ pn := pen_ne p3.pen hl2
    refine ⟨l1, l2, _, _, rfl, rfl, u4 _ _ g1 n1, g2, (by show 2 + 2 ≤ sizeLine; decide), fun l3 hl3 => ?_⟩
    have s5 := same_new (o := .lst ([.int (1 - 2 * d1), .ref ps] ++ [.ref pf, .ref pl])) hl3
    have p5 := p4.same s5
    have ls5 := (ls3.pen p3 u4).same s5
    have lf5 := lf4.same s5
    have ll5 := ll4.same s5
    have t5 := (tabs_but t3 p3.pen u4).ext s5
    have n3 : l3 ≠ pn := pen_ne p4.pen hl3
    have g3 : upd H4 l3 (.lst ([.int (1 - 2 * d1), .ref ps] ++ [.ref pf, .ref pl])) l3 = some (.lst ([.int (1 - 2 * d1), .ref ps] ++ [.ref pf, .ref pl])) := upd_same
    generalize upd H4 l3 (.lst ([.int (1 - 2 * d1), .ref ps] ++ [.ref pf, .ref pl])) = H5 at s5 p5 ls5 lf5 ll5 t5 g3 ⊢
    refine ⟨_, rfl, pn, cl, _, rfl, p5, by omega, fun v4 x4 H6 m4 dr4 p6 u6 => ?_⟩
    refine ⟨_, rfl, pn, cl, _, rfl, p6, by omega, fun v5 x5 H7 m5 dr5 p7 u7 => ⟨(by show 2 ≤ sizeLine; decide), fun l4 hl4 => ?_⟩⟩
    have u57 := u6.trans u7
    have s8 := same_new (o := .lst [v4, v5]) hl4
    refine ⟨l3, l4, _, _, rfl, rfl, s8 _ _ (u57 _ _ g3 n3), upd_same, (by show 4 + 2 ≤ sizeLine; decide), fun L hL => ?_⟩
    have s9 := s8.trans (same_new (o := .lst ([.int (1 - 2 * d1), .ref ps] ++ [.ref pf, .ref pl] ++ [v4, v5])) hL)
    have hz : 1 - 2 * d1 = 1 ∨ 1 - 2 * d1 = -1 := by omega
    have pa : PartsAt CL CR CP CQo (upd (upd H7 l4 (.lst [v4, v5])) L (.lst ([.int (1 - 2 * d1), .ref ps] ++ [.ref pf, .ref pl] ++ [v4, v5]))) [.int (1 - 2 * d1), .ref ps, .ref pf, .ref pl, v4, v5] ⟨1 - 2 * d1, (sa, sb), (fa, fb), (la, lb), x4, x5⟩ ps pf pl v4 v5 :=
      ⟨rfl, hz, (ls5.pen p5 u57).same s9, (lf5.pen p5 u57).same s9, (ll5.pen p5 u57).same s9, lt, (m4.pen p6 u7).same s9, m5.same s9⟩
    have gL : (upd (upd H7 l4 (.lst [v4, v5])) L (.lst ([.int (1 - 2 * d1), .ref ps] ++ [.ref pf, .ref pl] ++ [v4, v5]))) L = some (.lst [.int (1 - 2 * d1), .ref ps, .ref pf, .ref pl, v4, v5]) := upd_same
    have nL : L ≠ pn := pen_ne (p7.same s8).pen hL
    have pen0 := (p7.same s9).le8 (show n + 1 + 2 + 4 + 3 + 3 ≤ n + 13 by omega)
    have tab0 := (tabs_but (tabs_but t5 p5.pen u6) p6.pen u7).ext s9
    generalize hH : upd (upd H7 l4 (.lst [v4, v5])) L (.lst ([.int (1 - 2 * d1), .ref ps] ++ [.ref pf, .ref pl] ++ [v4, v5])) = G0 at pa gL pen0 tab0 ⊢
    generalize hxs : [V.int (1 - 2 * d1), .ref ps, .ref pf, .ref pl, v4, v5] = xs at pa gL ⊢
    generalize hr0 : RV.mk (1 - 2 * d1) (sa, sb) (fa, fb) (la, lb) x4 x5 = r at pa ⊢
    have db : Drawn r.b := by rw [← hr0]; exact dr4
    have dg : Drawn r.g := by rw [← hr0]; exact dr5
    have ex : xs = [V.int r.z, .ref ps, .ref pf, .ref pl, v4, v5] := pa.eq
    clear hH hxs hr0 s9 s8 u57 m4 m5 dr4 dr5 p6 p7 u6 u7 p5 ls5 lf5 ll5 t5 g3 n3 s5 n2 g2 u4 p4 lt lf4 ll4 n1 g1 ls3 p3 s3 t3 u2 p2 ls2 u1 p1 hz hl1 hl2 hl3 hl4 hL ht hp
    refine ⟨_, rfl, L, xs, r, ps, pf, pl, v4, v5, rfl, gL, pa, fun q qb qg G1 R1 s1 => ?_⟩
    obtain ⟨⟨dx, eq⟩, _, _, _, qb1, qg1⟩ := id R1
    obtain ⟨f1, f2, f3, f4, f5, f6⟩ := nfs_all r.z ps pf pl qb qg
    refine ⟨_, rfl, q, dx, _, rfl, eq, q, dx, _, _, rfl, eq, f3, _, rfl, q, CN, dx, _, _, rfl, eq, T.clN, T.noN _ (by simp), f4, _, rfl, q, CN, dx, _, _, rfl, eq, T.clN, T.noN _ (by simp), f5, _, rfl, q, CN, dx, _, _, rfl, eq, T.clN, T.noN _ (by simp), f6, _, rfl, q, CN, dx, _, _, rfl, eq, T.clN, T.noN _ (by simp), f1, _, rfl, q, CN, dx, _, _, rfl, eq, T.clN, T.noN _ (by simp), f2, (by show 6 ≤ sizeLine; decide), fun ls hls => ?_⟩
    have s2 := same_new (o := .lst [.int r.z, .ref ps, .ref pf, .ref pl, .ref qb, .ref qg]) hls
    have g2 : upd G1 ls (.lst [.int r.z, .ref ps, .ref pf, .ref pl, .ref qb, .ref qg]) ls = some (.lst [.int r.z, .ref ps, .ref pf, .ref pl, .ref qb, .ref qg]) := upd_same
    have R2 := R1.same s2
    have s02 := s1.trans s2
    generalize upd G1 ls (.lst [.int r.z, .ref ps, .ref pf, .ref pl, .ref qb, .ref qg]) = G2 at s2 g2 R2 s02 ⊢
    have pa2 := pa.same s02
    subst ex
    have i0 : atI [V.int r.z, .ref ps, .ref pf, .ref pl, v4, v5] (0 : Int) = some (.int r.z) := at_of (j := 0) rfl rfl
    have i1 : atI [V.int r.z, .ref ps, .ref pf, .ref pl, v4, v5] (1 : Int) = some (.ref ps) := at_of (j := 1) rfl rfl
    have i2 : atI [V.int r.z, .ref ps, .ref pf, .ref pl, v4, v5] (2 : Int) = some (.ref pf) := at_of (j := 2) rfl rfl
    have i3 : atI [V.int r.z, .ref ps, .ref pf, .ref pl, v4, v5] (3 : Int) = some (.ref pl) := at_of (j := 3) rfl rfl
    have i4 : atI [V.int r.z, .ref ps, .ref pf, .ref pl, v4, v5] (4 : Int) = some v4 := at_of (j := 4) rfl rfl
    have i5 : atI [V.int r.z, .ref ps, .ref pf, .ref pl, v4, v5] (5 : Int) = some v5 := at_of (j := 5) rfl rfl
    refine ⟨_, rfl, _, rfl, _, rfl, L, _, rfl, SqL.of (s02 _ _ gL), fun l5 hl5 => ?_⟩
    have s3 := same_new (o := .lst (cutV [V.int r.z, .ref ps, .ref pf, .ref pl, v4, v5] none (some 4))) hl5
    have g5 : upd G2 l5 (.lst (cutV [V.int r.z, .ref ps, .ref pf, .ref pl, v4, v5] none (some 4))) l5 = some (.lst [V.int r.z, .ref ps, .ref pf, .ref pl]) := upd_same
    generalize upd G2 l5 (.lst (cutV [V.int r.z, .ref ps, .ref pf, .ref pl, v4, v5] none (some 4))) = G3 at s3 g5 ⊢
    have s03 := s02.trans s3
    refine ⟨_, rfl, L, _, _, _, rfl, rfl, SqL.of (s03 _ _ gL), i4, v4, r.b, rfl, (pa.same s03).b, fun qb' G4 hb4 s4 => ?_⟩
    have s04 := s03.trans s4
    refine ⟨_, rfl, L, _, _, _, rfl, rfl, SqL.of (s04 _ _ gL), i5, v5, r.g, rfl, (pa.same s04).g, fun qg' G5 hg5 s5 => ⟨(by show 2 ≤ sizeLine; decide), fun l6 hl6 => ?_⟩⟩
    have s6 := same_new (o := .lst [V.ref qb', .ref qg']) hl6
    have s36 := (s4.trans s5).trans s6
    refine ⟨l5, l6, _, _, rfl, rfl, s36 _ _ g5, upd_same, (by show 4 + 2 ≤ sizeLine; decide), fun l7 hl7 => ?_⟩
    have s7 := same_new (o := .lst ([V.int r.z, .ref ps, .ref pf, .ref pl] ++ [V.ref qb', .ref qg'])) hl7
    have s27 := (s3.trans s36).trans s7
    have R7 := R2.same s27
    refine ⟨ls, l7, _, _, rfl, rfl, s27 _ _ g2, upd_same, ?_, fun G8 s8 => ⟨_, rfl, iteF ?_⟩⟩
    · refine Prs.cons dq_int (Prs.cons dq_ref (Prs.cons dq_ref (Prs.cons dq_ref (Prs.cons ?_ (Prs.cons ?_ Prs.nil)))))
      · exact dq_quo R7.2.2.2.2.1 (hb4.same ((s5.trans s6).trans s7)) (sz_drawn db)
      · exact dq_quo R7.2.2.2.2.2 (hg5.same (s6.trans s7)) (sz_drawn dg)
    have s08 := (s02.trans s27).trans s8
    have R8 := R7.same s8
    have pa8 := pa.same s08
    have gL8 := s08 _ _ gL
    have pen8 := pen0.same s08
    have tab8 := tab0.ext s08
    clear R7 R2 R1 qb1 qg1 eq s27 s7 s36 s6 s5 s4 s3 s2 s1 g5 g2 pa2 pa gL s02 s03 s04 s08 s8 hb4 hg5 hls hl5 hl6 hl7 pen0 tab0
    refine ⟨_, rfl, _, rfl, L, _, r, ps, pf, pl, v4, v5, rfl, gL8, pa8, fun q' qb2 qg2 G9 R9 s9 => ?_⟩
    have sb := sz_drawn db
    have sg := sz_drawn dg
    refine ne_runs T (R8.same s9) R9 sb sg sb sg fun z H10 s10 hz => ⟨_, rfl, ?_⟩
    rw [hz.mpr (REq.rfl' r)]
    refine iteF ?_
    clear hz z
    have s810 := s9.trans s10
    have R10 := R8.same s810
    have pa10 := pa8.same s810
    have gL10 := s810 _ _ gL8
    have pen10 := pen8.same s810
    have tab10 := tab8.ext s810
    clear R8 pa8 gL8 pen8 tab8 s9 s10 s810 R9
    refine ⟨_, rfl, pn, cl, 6, _, rfl, by decide, by decide, pen10, by omega, fun d2 G11 a2 b2 p11 u11 => ?_⟩
    have R11 : RunAt CL CP CQo CN G11 q r ps pf pl qb qg := by
      obtain ⟨⟨dx, e⟩, h1, h2, h3, h4, h5⟩ := R10
      exact ⟨⟨dx, ins_pen e pen10 u11⟩, h1.pen pen10 u11, h2.pen pen10 u11, h3.pen pen10 u11, h4.pen pen10 u11, h5.pen pen10 u11⟩
    have pa11 := pa10.pen pen10 u11
    have gL11 := u11 _ _ gL10 nL
    have tab11 := tabs_but tab10 pen10.pen u11
    clear R10 pa10 gL10 tab10
    refine ⟨_, rfl, L, _, rfl, .inl (SqL.of gL11), fun ln hln => ?_⟩
    have s12 := same_new (o := .lst [V.int r.z, .ref ps, .ref pf, .ref pl, v4, v5]) hln
    have gn12 : upd G11 ln (.lst [V.int r.z, .ref ps, .ref pf, .ref pl, v4, v5]) ln = some (.lst [V.int r.z, .ref ps, .ref pf, .ref pl, v4, v5]) := upd_same
    have nn : ln ≠ pn := pen_ne p11.pen hln
    have nLn : L ≠ ln := fun z => by
      rw [z, hln] at gL11
      cases gL11
    have ncl : ln ≠ cl := fun z => by
      obtain ⟨_, _, _, _, hc, _⟩ := p11
      rw [z, hc] at hln
      cases hln
    generalize upd G11 ln (.lst [V.int r.z, .ref ps, .ref pf, .ref pl, v4, v5]) = G12 at s12 gn12 ⊢
    have pa12 := pa11.same s12
    have gL12 := s12 _ _ gL11
    refine ⟨_, rfl, L, _, _, _, rfl, rfl, SqL.of gL12, i0, _, rfl, ?_⟩
    obtain ⟨dps, eps⟩ := id pa12.s
    refine ⟨_, rfl, L, _, _, _, rfl, rfl, SqL.of gL12, i1, ps, dps, _, rfl, eps, .inr ⟨1, rfl⟩, ps, _, _, .int 1, 0, 1, rfl, pa12.s, .inr ⟨rfl, rfl⟩, fun p1 G13 l13 s13 => ?_⟩
    have pa13 := pa12.same s13
    obtain ⟨dpf, epf⟩ := id pa13.f
    refine ⟨_, rfl, L, _, _, _, rfl, rfl, SqL.of (s13 _ _ gL12), i2, pf, dpf, _, rfl, epf, .inr ⟨1, rfl⟩, pf, _, _, .int 1, 0, 1, rfl, pa13.f, .inr ⟨rfl, rfl⟩, fun p2 G14 l14 s14 => ?_⟩
    have pa14 := pa13.same s14
    obtain ⟨dpl, epl⟩ := id pa14.l
    refine ⟨_, rfl, L, _, _, _, rfl, rfl, SqL.of (s14 _ _ (s13 _ _ gL12)), i3, pl, dpl, _, rfl, epl, .inr ⟨1, rfl⟩, pl, _, _, .int 1, 0, 1, rfl, pa14.l, .inr ⟨rfl, rfl⟩, fun p3 G15 l15 s15 => ?_⟩
    intro x dxx hx hd ne
    refine rinit_at (by decide) (by decide) hx hd ne fun G16 lx s16 => ⟨(by show 6 ≤ sizeLine; decide), fun l6 hl6 => ?_⟩
    have s17 := same_new (o := .lst [.int (-r.z), .ref p1, .ref p2, .ref p3, .int 9, .ref x]) hl6
    have g6 : upd G16 l6 (.lst [.int (-r.z), .ref p1, .ref p2, .ref p3, .int 9, .ref x]) l6 = some (.lst [.int (-r.z), .ref p1, .ref p2, .ref p3, .int 9, .ref x]) := upd_same
    generalize upd G16 l6 (.lst [.int (-r.z), .ref p1, .ref p2, .ref p3, .int 9, .ref x]) = G17 at s17 g6 ⊢
    have t67 := s16.trans s17
    have t57 := s15.trans t67
    have t47 := s14.trans t57
    have t27 := s13.trans t47
    have t17 := s12.trans t27
    obtain ⟨j, v, r', ps', pf', pl', bv', gv', hv, hj, pa', nr, sb', sg'⟩ := near_parts (pa12.same t27) (l13.same t47) (l14.same t57) (l15.same t67) (lx.same s17) db dg a2 b2
    refine ⟨_, rfl, l6, _, _, _, rfl, rfl, SqL.of g6, hv, ?_⟩
    have gn17 := t27 _ _ gn12
    refine ⟨_, rfl, _, rfl, ln, _, d2, j, rfl, rfl, gn17, hj, ?_⟩
    have R18 : RunAt CL CP CQo CN (upd G17 ln (.lst ([V.int r.z, .ref ps, .ref pf, .ref pl, v4, v5].set j v))) q r ps pf pl qb qg := by
      obtain ⟨⟨dx, e⟩, h1, h2, h3, ⟨dy, y1, y2, e4, h41, h42⟩, ⟨dz, z1, z2, e5, h51, h52⟩⟩ := R11.same t17
      exact ⟨⟨dx, by rw [upd_ne (ne_of e gn17 (by intro z; cases z))]; exact e⟩, h1.put gn17, h2.put gn17, h3.put gn17, ⟨dy, y1, y2, by rw [upd_ne (ne_of e4 gn17 (by intro z; cases z))]; exact e4, h41.put gn17, h42.put gn17⟩, ⟨dz, z1, z2, by rw [upd_ne (ne_of e5 gn17 (by intro z; cases z))]; exact e5, h51.put gn17, h52.put gn17⟩⟩
    have pa18 := (pa12.same t27).put (o := .lst ([V.int r.z, .ref ps, .ref pf, .ref pl, v4, v5].set j v)) gn17
    have pb18 := pa'.put (o := .lst ([V.int r.z, .ref ps, .ref pf, .ref pl, v4, v5].set j v)) gn17
    have gL18 : upd G17 ln (.lst ([V.int r.z, .ref ps, .ref pf, .ref pl, v4, v5].set j v)) L = some (.lst [V.int r.z, .ref ps, .ref pf, .ref pl, v4, v5]) := by
      rw [upd_ne nLn]
      exact t27 _ _ gL12
    have gn18 : upd G17 ln (.lst ([V.int r.z, .ref ps, .ref pf, .ref pl, v4, v5].set j v)) ln = some (.lst ([V.int r.z, .ref ps, .ref pf, .ref pl, v4, v5].set j v)) := upd_same
    have tab18 := tabs_put (o := .lst ([V.int r.z, .ref ps, .ref pf, .ref pl, v4, v5].set j v)) (tab11.ext t17) gn17
    have pen18 := (p11.same t17).put (o := .lst ([V.int r.z, .ref ps, .ref pf, .ref pl, v4, v5].set j v)) nn.symm ncl.symm
    generalize upd G17 ln (.lst ([V.int r.z, .ref ps, .ref pf, .ref pl, v4, v5].set j v)) = G18 at R18 pa18 pb18 gL18 gn18 tab18 pen18 ⊢
    clear R11 pa11 gL11 tab11 p11 s12 gn12 pa12 gL12 pa13 pa14 l13 l14 l15 lx s13 s14 s15 s16 s17 t67 t57 t47 t27 t17 g6 gn17 hl6 hx hd ne hln pa' pen10 u11 eps epf epl
    refine ⟨_, rfl, ln, _, r', ps', pf', pl', bv', gv', rfl, gn18, pb18, fun q3 qb3 qg3 G19 R19 s19 => ⟨_, rfl, ?_⟩⟩
    refine cmp_runs T R19 (R18.same s19) sb' sg' sb sg fun z G20 s20 hz => ⟨_, rfl, ?_⟩
    have z0 : z = false := by
      cases z with
      | false => rfl
      | true => exact absurd (hz.mp rfl) nr
    subst z0
    refine iteF ?_
    have s1820 := s19.trans s20
    have R20 := R18.same s1820
    refine ⟨_, rfl, _, rfl, L, _, rfl, .inl ⟨SqL.of (s1820 _ _ gL18), fun lt hlt => ?_⟩⟩
    have s21 := same_new (o := .tup [V.int r.z, .ref ps, .ref pf, .ref pl, v4, v5]) hlt
    have gt : upd G20 lt (.tup [V.int r.z, .ref ps, .ref pf, .ref pl, v4, v5]) lt = some (.tup [V.int r.z, .ref ps, .ref pf, .ref pl, v4, v5]) := upd_same
    refine cmp_runs_no T (R20.same s21) sb sg (.inl ⟨_, .tup gt⟩) (fun a dx fs e e2 => by cases e; rw [gt] at e2; cases e2) ⟨_, rfl, iteF ?_⟩
    refine ⟨_, rfl, cmp_runs_no T (R20.same s21) sb sg (.inl ⟨_, .non⟩) (fun a dx fs e => nomatch e) ⟨_, rfl, iteF ?_⟩⟩
    have s1821 := s1820.trans s21
    refine ⟨_, rfl, _, rfl, L, _, rfl, .inl (SqL.of (s1821 _ _ gL18)), fun l9 hl9 => ?_⟩
    have s22 := same_new (o := .lst [V.int r.z, .ref ps, .ref pf, .ref pl, v4, v5]) hl9
    have s1822 := s1821.trans s22
    refine ⟨l9, _, r, ps, pf, pl, v4, v5, rfl, upd_same, pa18.same s1822, fun q4 qb4 qg4 G23 R23 s23 => ?_⟩
    have s1823 := s1822.trans s23
    refine cmp_runs T (R18.same s1823) R23 sb sg sb sg fun z G24 s24 hz => ⟨_, rfl, ?_⟩
    rw [hz.mpr (REq.rfl' r)]
    refine iteF ?_
    have s1824 := s1823.trans s24
    have pa24 := pa18.same s1824
    have gL24 := s1824 _ _ gL18
    have pen24 := pen18.same s1824
    have tab24 := tab18.ext s1824
    clear R23 R18 R19 R20 pa18 pb18 gL18 gn18 tab18 pen18 s1824 s1823 s1822 s1821 s1820 s19 s20 s21 s22 s23 s24 hz z gt hlt hl9 nr sb' sg' hv hj
    refine ⟨_, rfl, L, _, rfl, .inl (SqL.of gL24), fun lb hlb => ⟨(by show 0 ≤ sizeLine; decide), fun lw hlw => ⟨(by show 2 ≤ sizeLine; decide), fun lt2 hlt2 => ?_⟩⟩⟩
    have hlb2 : upd G24 lb (.lst [V.int r.z, .ref ps, .ref pf, .ref pl, v4, v5]) lb = some (.lst [V.int r.z, .ref ps, .ref pf, .ref pl, v4, v5]) := upd_same
    have q1 := same_new (o := .lst [V.int r.z, .ref ps, .ref pf, .ref pl, v4, v5]) hlb
    have q2 := same_new (o := .lst []) hlw
    have q3 := same_new (o := .tup [.ref lb, .ref lw]) hlt2
    have q12 := q1.trans q2
    have q13 := q12.trans q3
    have bl : lb ≠ lw := fun z => by
      rw [← z, hlb2] at hlw
      cases hlw
    have bp : lb ≠ pn := pen_ne pen24.pen hlb
    have wp : lw ≠ pn := pen_ne (pen24.same q1).pen hlw
    have bL : L ≠ lb := fun z => by
      rw [← z, gL24] at hlb
      cases hlb
    have wL : L ≠ lw := fun z => by
      rw [← z, q1 _ _ gL24] at hlw
      cases hlw
    have bc : lb ≠ cl := fun z => by
      obtain ⟨_, _, _, _, hc, _⟩ := pen24
      rw [z, hc] at hlb
      cases hlb
    have wc : lw ≠ cl := fun z => by
      obtain ⟨_, _, _, _, hc, _⟩ := pen24.same q1
      rw [z, hc] at hlw
      cases hlw
    have gb : (upd (upd (upd G24 lb (.lst [V.int r.z, .ref ps, .ref pf, .ref pl, v4, v5])) lw (.lst [])) lt2 (.tup [.ref lb, .ref lw])) lb = some (.lst [V.int r.z, .ref ps, .ref pf, .ref pl, v4, v5]) := q3 _ _ (q2 _ _ hlb2)
    have gw : (upd (upd (upd G24 lb (.lst [V.int r.z, .ref ps, .ref pf, .ref pl, v4, v5])) lw (.lst [])) lt2 (.tup [.ref lb, .ref lw])) lw = some (.lst []) := q3 _ _ upd_same
    have gL := q13 _ _ gL24
    have pa := pa24.same q13
    have pen := pen24.same q13
    have tab := tab24.ext q13
    refine ⟨lt2, _, rfl, SqT.of upd_same, rfl, _, _, rfl, _, _, rfl, rfl, ?_⟩
    generalize upd (upd (upd G24 lb (.lst [V.int r.z, .ref ps, .ref pf, .ref pl, v4, v5])) lw (.lst [])) lt2 (.tup [.ref lb, .ref lw]) = G25 at gb gw gL pa pen tab ⊢
    clear q1 q2 q3 q12 q13 hlb2 hlb hlw hlt2 pa24 gL24 pen24 tab24
    refine ⟨_, rfl, pn, cl, 2, _, rfl, by decide, by decide, pen, by omega, fun d3 G26 a3 b3 p26 u26 => ⟨_, _, rfl, rfl, 1 + d3, rfl, by omega, by omega, ?_⟩⟩
    refine for_range (fun i σ H' => ∃ w4 w8 w9 bs ws, σ = [some (.ref pn), some (.ref L), some (.ref q), some (.ref ls), w4, some (.ref ln), some (.ref lb), some (.ref lw), w8, w9, none, none, none, none] ∧ H' lb = some (.lst bs) ∧ H' lw = some (.lst (ws.map fun w : Nat => V.int w)) ∧ BentAt CP H' [V.int r.z, .ref ps, .ref pf, .ref pl, v4, v5] bs ws ∧ ws.length ≤ i ∧
      PartsAt CL CR CP CQo H' [V.int r.z, .ref ps, .ref pf, .ref pl, v4, v5] r ps pf pl v4 v5 ∧ H' L = some (.lst [V.int r.z, .ref ps, .ref pf, .ref pl, v4, v5]) ∧ PenC H' pn cl (n + 15 + 2 * i) ∧ LamX.Tabs TS H') ?_ ?_ ?_
    · refine ⟨_, _, _, _, [], rfl, u26 _ _ gb bp, u26 _ _ gw wp, ⟨rfl, (fun w hw => nomatch hw), fun j v e => ⟨(fun z => nomatch z), fun _ => e⟩⟩, Nat.le_refl _, pa.pen pen u26, u26 _ _ gL nL, p26.le8 (by omega), tabs_but tab pen.pen u26⟩
    · clear gb gw gL pa pen tab u26 p26
      rintro i σ Hi hi ⟨w4, w8, w9, bs, ws, rfl, gb, gw, B, wl, pa, gL, pen, tab⟩
      have i2 : i < 2 := by omega
      refine ⟨_, rfl, pn, cl, 6, _, rfl, by decide, by decide, pen, by omega, fun d H1 a b p1 u1 => ?_⟩
      refine ⟨_, rfl, pn, cl, _, rfl, p1, by omega, fun ov H2 od fr p2 u2 => ?_⟩
      have u12 := u1.trans u2
      have gw1 := u1 _ _ gw wp
      have gb2 := u12 _ _ gb bp
      have gw2 := u12 _ _ gw wp
      have B2 := B.imp fun v o => o.pen pen u12
      have pa2 := pa.pen pen u12
      have gL2 := u12 _ _ gL nL
      have tab2 := tabs_but (tabs_but tab pen.pen u1) p1.pen u2
      have pen2 := p2.le8 (show n + 15 + 2 * i + 1 + 1 ≤ n + 15 + 2 * (i + 1) by omega)
      clear gb gw B pa gL tab pen p1 u1 p2 u2 u12
      obtain ⟨j, rfl⟩ : ∃ j : Nat, d = j := ⟨d.toNat, by omega⟩
      have j6 : j < 6 := by omega
      have hix : ixN bs.length (j : Int) = some j := by
        rw [B2.len]
        unfold ixN
        rw [if_pos (by omega), if_pos (by omega)]
        simp
      obtain ⟨y, ys, hys⟩ : ∃ y ys, bs = y :: ys := by
        have := B2.len
        cases bs with
        | nil => cases this
        | cons y ys => exact ⟨y, ys, rfl⟩
      have gw3 : upd H2 lb (.lst (bs.set j ov)) lw = some (.lst (ws.map fun w : Nat => V.int w)) := by
        rw [upd_ne bl.symm]
        exact gw2
      have od3 : OddV CP (upd H2 lb (.lst (bs.set j ov))) ov := od.put (by rw [gb2, hys])
      have od4 := od3.put' (o := .lst ((ws.map fun w : Nat => V.int w) ++ [.int j])) gw3 fun a e el z => by
        rw [z, upd_ne bl.symm] at el
        have := fr a e (by rw [z]; exact el)
        rw [z, gw1] at this
        cases this
      have B3 : BentAt CP (upd H2 lb (.lst (bs.set j ov))) [V.int r.z, .ref ps, .ref pf, .ref pl, v4, v5] bs ws := B2.imp fun v o => o.put (by rw [gb2, hys])
      have B4 := B3.putw (o := .lst ((ws.map fun w : Nat => V.int w) ++ [.int j])) gw3
      have go : (4 ≤ j → isI ov = false) → ∀ (w8 w9 : Option V), ∃ (w4 w8' w9' : Option V) (bs' : List V) (ws' : List Nat), ([some (.ref pn), some (.ref L), some (.ref q), some (.ref ls), some (.int (j : Int)), some (.ref ln), some (.ref lb), some (.ref lw), w8, w9, none, none, none, none] : L2.St) = [some (.ref pn), some (.ref L), some (.ref q), some (.ref ls), w4, some (.ref ln), some (.ref lb), some (.ref lw), w8', w9', none, none, none, none] ∧ upd (upd H2 lb (.lst (bs.set j ov))) lw (.lst ((ws.map fun w : Nat => V.int w) ++ [.int j])) lb = some (.lst bs') ∧
          upd (upd H2 lb (.lst (bs.set j ov))) lw (.lst ((ws.map fun w : Nat => V.int w) ++ [.int j])) lw = some (.lst (ws'.map fun w : Nat => V.int w)) ∧ BentAt CP (upd (upd H2 lb (.lst (bs.set j ov))) lw (.lst ((ws.map fun w : Nat => V.int w) ++ [.int j]))) [V.int r.z, .ref ps, .ref pf, .ref pl, v4, v5] bs' ws' ∧ ws'.length ≤ i + 1 ∧
          PartsAt CL CR CP CQo (upd (upd H2 lb (.lst (bs.set j ov))) lw (.lst ((ws.map fun w : Nat => V.int w) ++ [.int j]))) [V.int r.z, .ref ps, .ref pf, .ref pl, v4, v5] r ps pf pl v4 v5 ∧ upd (upd H2 lb (.lst (bs.set j ov))) lw (.lst ((ws.map fun w : Nat => V.int w) ++ [.int j])) L = some (.lst [V.int r.z, .ref ps, .ref pf, .ref pl, v4, v5]) ∧
          PenC (upd (upd H2 lb (.lst (bs.set j ov))) lw (.lst ((ws.map fun w : Nat => V.int w) ++ [.int j]))) pn cl (n + 15 + 2 * (i + 1)) ∧ LamX.Tabs TS (upd (upd H2 lb (.lst (bs.set j ov))) lw (.lst ((ws.map fun w : Nat => V.int w) ++ [.int j]))) := fun hi' w8 w9 => by
        refine ⟨_, _, _, bs.set j ov, ws ++ [j], rfl, ?_, ?_, B4.set j6 od4 hi', ?_, (pa2.put gb2).put gw3, ?_, (pen2.put bp.symm bc.symm).put wp.symm wc.symm, tabs_put (tabs_put tab2 gb2) gw3⟩
        · rw [upd_ne bl]
          exact upd_same
        · rw [List.map_append]
          exact upd_same
        · rw [List.length_append]
          show ws.length + 1 ≤ i + 1
          omega
        · rw [upd_ne wL, upd_ne bL]
          exact gL2
      have lws : (ws.map fun w : Nat => V.int w).length < sizeLine := by
        rw [List.length_map, sizeLine_eq]
        omega
      refine ⟨_, rfl, _, _, rfl, rfl, _, rfl, ite2 (fun c => ?_) (fun c => ?_)⟩
      · exact ⟨_, rfl, _, rfl, _, rfl, lb, _, _, j, rfl, rfl, gb2, hix, _, rfl, .inl ⟨rfl, _, SqL.of gw3⟩, _, rfl, lw, _, _, rfl, rfl, gw3, lws, go (fun z => by have := of_decide_eq_true c; omega) _ _⟩
      · obtain ⟨tt, b, tx, e1, e2, e3⟩ := T.fam.kint (od.any (Cs := Cs) T.inn).1
        refine ⟨_, rfl, ov, _, _, _, b, rfl, .ty _, tx, e1, _, rfl, ?_⟩
        cases b with
        | false => exact iteT (iteT ⟨_, rfl, _, rfl, _, rfl, lb, _, _, j, rfl, rfl, gb2, hix, _, rfl, .inl ⟨rfl, _, SqL.of gw3⟩, _, rfl, lw, _, _, rfl, rfl, gw3, lws, go (fun _ => e3 rfl) _ _⟩)
        | true =>
          obtain ⟨cc, e4, e5⟩ := e2 rfl
          refine iteF ⟨_, rfl, ov, _, _, _, cc, rfl, .ty _, tx, e4, _, rfl, ?_⟩
          cases cc with
          | true => exact iteT ⟨_, rfl, _, rfl, _, rfl, lb, _, _, j, rfl, rfl, gb2, hix, _, rfl, .inl ⟨rfl, _, SqL.of gw3⟩, _, rfl, lw, _, _, rfl, rfl, gw3, lws, go (fun _ => e5) _ _⟩
          | false => exact iteF ⟨_, _, _, bs, ws, rfl, gb2, gw2, B2, by omega, pa2, gL2, pen2, tab2⟩
    · rintro σ Hi ⟨w4, w8, w9, bs, ws, rfl, gb2, gw2, B2, wl, pa2, gL2, pen2, tab2⟩
      clear gb gw gL pa pen tab u26 p26
      refine ⟨(by show 6 ≤ sizeLine; decide), fun lm hlm => ?_⟩
      have s3 := same_new (o := .lst [.str "sign", .str "shift", .str "first", .str "last", .str "base", .str "grow"]) hlm
      have gm3 : upd Hi lm (.lst [.str "sign", .str "shift", .str "first", .str "last", .str "base", .str "grow"]) lm = some (.lst [.str "sign", .str "shift", .str "first", .str "last", .str "base", .str "grow"]) := upd_same
      have gb3 := s3 _ _ gb2
      have gw3 := s3 _ _ gw2
      have B3 := B2.imp fun v o => o.same s3
      have pa3 := pa2.same s3
      have gL3 := s3 _ _ gL2
      have pen3 := pen2.same s3
      have tab3 := tab2.ext s3
      generalize upd Hi lm (.lst [.str "sign", .str "shift", .str "first", .str "last", .str "base", .str "grow"]) = G3 at gm3 gb3 gw3 B3 pa3 gL3 pen3 tab3 ⊢
      clear s3 gb2 gw2 B2 pa2 gL2 pen2 tab2 hlm
      refine ⟨tab3, fun G4 x4 tab4 Q' hQ' => ?_⟩
      have nd := T.nd
      simp only [List.nodup_cons, List.mem_cons, List.mem_nil_iff, or_false, not_or] at nd
      have nP : CL ≠ CP ∧ CR ≠ CP ∧ CQo ≠ CP := ⟨nd.1.2.1, nd.2.1.1, fun z => nd.2.2.1.1 z.symm⟩
      obtain ⟨b0, b1, b2, b3, b4, b5, rfl, BK⟩ := bent_k T.inn nP.1 nP.2.1 nP.2.2 (pa3.ext x4) (B3.imp fun v o => o.ext x4)
      have gb4 := x4 _ _ gb3 (by intro ps z; cases z)
      refine ⟨_, rfl, lb, _, _, _, rfl, rfl, SqL.of gb4, at_of (j := 0) rfl rfl, _, rfl, lb, _, _, _, rfl, rfl, SqL.of gb4, at_of (j := 1) rfl rfl, _, rfl, lb, _, _, _, rfl, rfl, SqL.of gb4, at_of (j := 2) rfl rfl, _, rfl, lb, _, _, _, rfl, rfl, SqL.of gb4, at_of (j := 3) rfl rfl, _, rfl, lb, _, _, _, rfl, rfl, SqL.of gb4, at_of (j := 4) rfl rfl, _, rfl, lb, _, _, _, rfl, rfl, SqL.of gb4, at_of (j := 5) rfl rfl, ?_⟩
      refine fun x dx hx hd ne => run_heard BK.s BK.h BK.f BK.l BK.b BK.g hx hd ne hQ' fun H5 s5 => ?_
      rw [show wrongN (if 0 ∈ ws then none else some r.z) (if 1 ∈ ws then none else some (ps, r.s)) (if 2 ∈ ws then none else some (pf, r.f)) (if 3 ∈ ws then none else some (pl, r.l)) (if 4 ∈ ws then none else some r.b) (if 5 ∈ ws then none else some r.g) = wq ws r ps pf pl from rfl]
      have x5 : LamX.ExtN G3 H5 := x4.trans (ext_same s5)
      have gw5 := x5 _ _ gw3 (by intro ps z; cases z)
      have gm5 := x5 _ _ gm3 (by intro ps z; cases z)
      have pa5 := pa3.ext x5
      have gL5 := x5 _ _ gL3 (by intro ps z; cases z)
      have pen5 : PenC H5 pn cl (n + 19) := by
        obtain ⟨ns, a0, r0, h1, h2, h3⟩ := pen3
        exact PenC.le8 ⟨ns, a0, r0, x5 _ _ h1 (by intro ps z; cases z), x5 _ _ h2 (by intro ps z; cases z), h3⟩ (by omega)
      have tab5 := tab4.ext s5
      have all := B3.all
      clear BK gb4 gb3 B3 pa3 gL3 pen3 tab3 tab4 x4 x5 s5 hx hd ne x dx gw3 gm3 hQ'
      refine ⟨fun σ Hz => σ = [some (.ref pn), some (.ref L), some (.ref q), some (.ref ls), w4, some (.ref ln), some (.ref lb), some (.ref lw), w8, w9, some (.ref lm), some (strO (wq ws r ps pf pl)), none, none] ∧ Same H5 Hz, ?_, ?_⟩
      · refine ⟨_, rfl, _, rfl, (by show 0 ≤ sizeLine; decide), fun le hle => ?_⟩
        have s6 := same_new (o := .lst []) hle
        refine ⟨_, _, .lst (SqL.of (s6 _ _ gw5)) (dp_nats ws), .lst (SqL.of upd_same) .nil, plain_nats ws, rfl, Nat.le_trans (Nat.min_le_right _ _) (by show _ ≤ 60; exact (by decide : (1 : Nat) + 0 ≤ 60)), _, rfl, ?_⟩
        generalize upd H5 le (.lst []) = H6 at s6 ⊢
        cases ws with
        | nil =>
          refine iteT ?_
          rw [wq_nil pa5.lt]
          exact ⟨rfl, _, rfl, iteF ⟨rfl, s6⟩⟩
        | cons u ws =>
          refine iteF ?_
          refine ⟨_, rfl, _, rfl, lw, rfl, ⟨_, SqL.of (s6 _ _ gw5)⟩, fun D hD => ?_⟩
          refine lc_list (xs := (u :: ws).map fun w : Nat => V.int w) (fun i Hh => Hh D = some (.lst (((u :: ws).take i).map fun w : Nat => V.int w)) ∧ Same H6 Hh) ⟨upd_same, same_new hD⟩ (fun i Hh _ ⟨_, s⟩ => SqL.of (s _ _ (s6 _ _ gw5))) ?_ ?_
          · rintro i v Hh hv ⟨g1, g2⟩
            rw [List.getElem?_map] at hv
            obtain ⟨w, hw, rfl⟩ : ∃ w, (u :: ws)[i]? = some w ∧ v = V.int w := by
              cases e : (u :: ws)[i]? with
              | none => rw [e] at hv; cases hv
              | some w => rw [e] at hv; exact ⟨w, rfl, (Option.some.inj hv).symm⟩
            refine ⟨rfl, yes_go ⟨_, rfl, .inl ⟨_, rfl, _, g1, ?_, ?_, ?_⟩⟩⟩
            · rw [List.length_map, List.length_take, sizeLine_eq]
              have : (u :: ws).length ≤ (1 + d3 - 0).toNat := by simpa using wl
              have := Nat.min_le_right i (u :: ws).length
              omega
            · rw [take1 hw, List.map_append]
              exact upd_same
            · intro b o e
              rw [upd_ne (ne_of_none e hD)]
              exact g2 _ _ e
          rintro H7 ⟨g1, g2⟩
          rw [List.length_map, List.take_length] at g1
          refine ⟨D, (u :: ws).map fun w : Nat => (w : Int), rfl, SqL.of (by rw [List.map_map]; exact g1), Nat.zero_lt_succ _, fun m hm le => ?_⟩
          obtain ⟨w, hw, rfl⟩ := List.mem_map.mp hm
          obtain ⟨nm, n1, n2⟩ := wq_min (r := r) (ps := ps) (pf := pf) (pl := pl) hw (fun y hy => by
            have := le _ (List.mem_map.mpr ⟨y, hy, rfl⟩)
            omega) (all w hw)
          refine ⟨lm, _, _, _, rfl, rfl, SqL.of (g2 _ _ (s6 _ _ gm5)), at_of (j := w) (v := .str nm) rfl ?_, ?_⟩
          · show (namesN.map V.str)[w]? = _
            rw [List.getElem?_map, n1]
            rfl
          · rw [n2]
            refine ⟨rfl, _, rfl, ?_⟩
            rw [decide_eq_true (show strO (some nm) = V.str nm from rfl)]
            exact iteF ⟨rfl, s6.trans g2⟩
      rintro σ Hz ⟨rfl, s6⟩
      have pa6 := pa5.same s6
      have gL6 := s6 _ _ gL5
      have pen6 := pen5.same s6
      have tab6 := tab5.ext s6
      clear pa5 gL5 pen5 tab5 s6 gw5 gm5 all
      refine ⟨_, rfl, L, _, _, _, rfl, rfl, SqL.of gL6, i0, _, rfl, L, _, _, _, rfl, rfl, SqL.of gL6, i1, _, rfl, L, _, _, _, rfl, rfl, SqL.of gL6, i3, _, rfl, L, _, _, _, rfl, rfl, SqL.of gL6, i2, _, rfl, L, _, _, _, rfl, rfl, SqL.of gL6, i4, _, rfl, L, _, _, _, rfl, rfl, SqL.of gL6, i5, (by show 6 ≤ sizeLine; decide), fun lf hlf => ?_⟩
      have s7 := same_new (o := .lst [V.int r.z, .ref ps, .ref pl, .ref pf, v4, v5]) hlf
      have gf7 : upd Hz lf (.lst [V.int r.z, .ref ps, .ref pl, .ref pf, v4, v5]) lf = some (.lst [V.int r.z, .ref ps, .ref pl, .ref pf, v4, v5]) := upd_same
      have pa7 := pa6.same s7
      have gL7 := s7 _ _ gL6
      have pen7 := pen6.same s7
      have tab7 := tab6.ext s7
      generalize upd Hz lf (.lst [V.int r.z, .ref ps, .ref pl, .ref pf, v4, v5]) = H7 at s7 gf7 pa7 gL7 pen7 tab7 ⊢
      clear pa6 gL6 pen6 tab6 s7 hlf
      have k0 : atI [V.int r.z, .ref ps, .ref pl, .ref pf, v4, v5] (0 : Int) = some (.int r.z) := at_of (j := 0) rfl rfl
      have k1 : atI [V.int r.z, .ref ps, .ref pl, .ref pf, v4, v5] (1 : Int) = some (.ref ps) := at_of (j := 1) rfl rfl
      have k2 : atI [V.int r.z, .ref ps, .ref pl, .ref pf, v4, v5] (2 : Int) = some (.ref pl) := at_of (j := 2) rfl rfl
      have k3 : atI [V.int r.z, .ref ps, .ref pl, .ref pf, v4, v5] (3 : Int) = some (.ref pf) := at_of (j := 3) rfl rfl
      have k4 : atI [V.int r.z, .ref ps, .ref pl, .ref pf, v4, v5] (4 : Int) = some v4 := at_of (j := 4) rfl rfl
      have k5 : atI [V.int r.z, .ref ps, .ref pl, .ref pf, v4, v5] (5 : Int) = some v5 := at_of (j := 5) rfl rfl
      have eLast : wrongN (some r.z) (some (ps, r.s)) (some (pl, r.l)) (some (pf, r.f)) (some r.b) (some r.g) = some ("last" : Str) := by
        show (if r.f.1 ≤ r.l.1 then some ("last" : Str) else none) = some ("last" : Str)
        rw [if_pos (by have := pa7.lt; omega)]
      refine ⟨tab7, fun G8 x8 tab8 Q8 hQ8 => ?_⟩
      have gf8 := x8 _ _ gf7 (by intro ps z; cases z)
      have pa8 := pa7.ext x8
      refine ⟨_, rfl, lf, _, _, _, rfl, rfl, SqL.of gf8, k0, _, rfl, lf, _, _, _, rfl, rfl, SqL.of gf8, k1, _, rfl, lf, _, _, _, rfl, rfl, SqL.of gf8, k2, _, rfl, lf, _, _, _, rfl, rfl, SqL.of gf8, k3, _, rfl, lf, _, _, _, rfl, rfl, SqL.of gf8, k4, _, rfl, lf, _, _, _, rfl, rfl, SqL.of gf8, k5, ?_⟩
      refine fun x dx hx hd ne => run_heard (s := some r.z) (sh := some (ps, r.s)) (fi := some (pl, r.l)) (la := some (pf, r.f)) (ba := some r.b) (gr := some r.g) ⟨rfl, pa8.z⟩ ⟨rfl, pa8.s⟩ ⟨rfl, pa8.l⟩ ⟨rfl, pa8.f⟩ pa8.b pa8.g hx hd ne hQ8 fun H9 s9 => ?_
      rw [eLast]
      refine ⟨(by show 1 ≤ sizeLine; decide), fun lr hlr => ?_⟩
      have s10 := same_new (o := .lst [strO (some ("last" : Str))]) hlr
      have x10 : LamX.ExtN H7 (upd H9 lr (.lst [strO (some ("last" : Str))])) := x8.trans (ext_same (s9.trans s10))
      have R10 : RestAt CL CR CP CQo TS (upd H9 lr (.lst [strO (some ("last" : Str))])) r ps pf pl v4 v5 pn cl L lf lr (n + 19) ["last"] := by
        refine ⟨pa7.ext x10, x10 _ _ gL7 (by intro ps z; cases z), x10 _ _ gf7 (by intro ps z; cases z), upd_same, ?_, tab8.ext (s9.trans s10)⟩
        obtain ⟨ns, a0, r0, h1, h2, h3⟩ := pen7
        exact ⟨ns, a0, r0, x10 _ _ h1 (by intro ps z; cases z), x10 _ _ h2 (by intro ps z; cases z), h3⟩
      generalize upd H9 lr (.lst [strO (some ("last" : Str))]) = H10 at R10 ⊢
      clear x10 s10 hlr s9 hx hd ne hQ8 gf8 pa8 tab8 x8 gf7 pa7 gL7 pen7 tab7 eLast
      refine ⟨_, rfl, .inl ⟨rfl, _, SqL.of R10.gr⟩, R10.tab, fun G11 x11 tab11 Q11 hQ11 => ?_⟩
      have R11 := R10.ext x11 tab11
      obtain ⟨dpf, epf⟩ := id R11.pa.f
      refine ⟨_, rfl, L, _, _, _, rfl, rfl, SqL.of R11.gL, i2, _, rfl, L, _, _, _, rfl, rfl, SqL.of R11.gL, i2, _, rfl, L, _, _, _, rfl, rfl, SqL.of R11.gL, i2, pf, dpf, _, rfl, epf, .inr ⟨5, rfl⟩, pf, _, _, .int 5, 0, 5, rfl, R11.pa.f, .inr ⟨rfl, rfl⟩, fun p5 H12 l5 s12 => ?_⟩
      have R12 := R11.same s12
      refine fun x dx hx hd ne => run_heard (s := some 1) (sh := some (pf, r.f)) (fi := some (pf, r.f)) (la := some (p5, (r.f.1 + 0, r.f.2 + 5))) (ba := some (trim [1], [1])) (gr := some (trim [0], [1])) ⟨rfl, .inl rfl⟩ ⟨rfl, R12.pa.f⟩ ⟨rfl, R12.pa.f⟩ ⟨rfl, l5⟩ numq_int numq_int hx hd ne hQ11 fun H13 s13 => ?_
      have e2 : wrongN (some 1) (some (pf, r.f)) (some (pf, r.f)) (some (p5, (r.f.1 + 0, r.f.2 + 5))) (some (trim [1], [1])) (some (trim [0], [1])) = some ("last" : Str) := by
        show (if r.f.1 + 0 ≤ r.f.1 then some ("last" : Str) else none) = some ("last" : Str)
        rw [if_pos (by omega)]
      rw [e2]
      have R13 := R12.same s13
      refine ⟨lr, _, _, rfl, rfl, R13.gr, (by show 1 < sizeLine; decide), ?_⟩
      have R14 := R13.put (y := "last")
      generalize upd H13 lr (.lst (List.map V.str [("last" : Str)] ++ [strO (some ("last" : Str))])) = H14 at R14 ⊢
      clear R13 R12 R11 R10 x11 tab11 hQ11 s12 s13 l5 epf hx hd ne e2
      -- None, []
      refine ⟨_, rfl, .inl ⟨rfl, _, SqL.of R14.gr⟩, R14.tab, fun G15 x15 tab15 Q15 hQ15 => ?_⟩
      have R15 := R14.ext x15 tab15
      refine ⟨_, rfl, lf, _, _, _, rfl, rfl, SqL.of R15.gf, k0, _, rfl, lf, _, _, _, rfl, rfl, SqL.of R15.gf, k1, _, rfl, lf, _, _, _, rfl, rfl, SqL.of R15.gf, k2, _, rfl, lf, _, _, _, rfl, rfl, SqL.of R15.gf, k3, (by show 0 ≤ sizeLine; decide), fun le hle => ?_⟩
      have s16 := same_new (o := .lst []) hle
      have ge : upd G15 le (.lst []) le = some (.lst []) := upd_same
      generalize upd G15 le (.lst []) = G16 at s16 ge ⊢
      have R16 := R15.same s16
      refine fun x dx hx hd ne => run_heard (s := some r.z) (sh := some (ps, r.s)) (fi := some (pl, r.l)) (la := some (pf, r.f)) (ba := none) (gr := none) ⟨rfl, R16.pa.z⟩ ⟨rfl, R16.pa.s⟩ ⟨rfl, R16.pa.l⟩ ⟨rfl, R16.pa.f⟩ kn_non (kn_lst ge) hx hd ne hQ15 fun H17 s17 => ?_
      rw [show wrongN (some r.z) (some (ps, r.s)) (some (pl, r.l)) (some (pf, r.f)) none none = some ("base" : Str) from rfl]
      have R17 := R16.same s17
      refine ⟨lr, _, _, rfl, rfl, R17.gr, (by show 2 < sizeLine; decide), ?_⟩
      have R18 := RestAt.put (y := "base") (z := "last") (zs := ["last"]) R17
      change RestAt CL CR CP CQo TS (upd H17 lr (.lst (List.map V.str ([("last" : Str)] ++ [("last" : Str)]) ++ [strO (some ("base" : Str))]))) r ps pf pl v4 v5 pn cl L lf lr (n + 19) ["last", "last", "base"] at R18
      generalize upd H17 lr (.lst (List.map V.str ([("last" : Str)] ++ [("last" : Str)]) ++ [strO (some ("base" : Str))])) = H18 at R18 ⊢
      clear R17 R16 R15 R14 x15 tab15 hQ15 s16 s17 ge hle hx hd ne
      refine ⟨_, rfl, .inl ⟨rfl, _, SqL.of R18.gr⟩, R18.tab, fun G19 x19 tab19 Q19 hQ19 => ?_⟩
      have R19 := R18.ext x19 tab19
      refine ⟨_, rfl, lf, _, _, _, rfl, rfl, SqL.of R19.gf, k0, _, rfl, lf, _, _, _, rfl, rfl, SqL.of R19.gf, k1, _, rfl, lf, _, _, _, rfl, rfl, SqL.of R19.gf, k2, _, rfl, lf, _, _, _, rfl, rfl, SqL.of R19.gf, k3, _, rfl, lf, _, _, _, rfl, rfl, SqL.of R19.gf, k4, (by show 0 ≤ sizeLine; decide), fun le hle => ?_⟩
      have s20 := same_new (o := .lst []) hle
      have ge : upd G19 le (.lst []) le = some (.lst []) := upd_same
      generalize upd G19 le (.lst []) = G20 at s20 ge ⊢
      have R20 := R19.same s20
      refine fun x dx hx hd ne => run_heard (s := some r.z) (sh := some (ps, r.s)) (fi := some (pl, r.l)) (la := some (pf, r.f)) (ba := some r.b) (gr := none) ⟨rfl, R20.pa.z⟩ ⟨rfl, R20.pa.s⟩ ⟨rfl, R20.pa.l⟩ ⟨rfl, R20.pa.f⟩ R20.pa.b (kn_lst ge) hx hd ne hQ19 fun H21 s21 => ?_
      rw [show wrongN (some r.z) (some (ps, r.s)) (some (pl, r.l)) (some (pf, r.f)) (some r.b) none = some ("grow" : Str) from rfl]
      have R21 := R20.same s21
      refine ⟨lr, _, _, rfl, rfl, R21.gr, (by show 3 < sizeLine; decide), ?_⟩
      have R22 := RestAt.put (y := "grow") (z := "last") (zs := ["last", "base"]) R21
      change RestAt CL CR CP CQo TS (upd H21 lr (.lst (List.map V.str [("last" : Str), "last", "base"] ++ [strO (some ("grow" : Str))]))) r ps pf pl v4 v5 pn cl L lf lr (n + 19) ["last", "last", "base", "grow"] at R22
      generalize upd H21 lr (.lst (List.map V.str [("last" : Str), "last", "base"] ++ [strO (some ("grow" : Str))])) = H22 at R22 ⊢
      refine ⟨_, rfl, (by show 4 ≤ sizeLine; decide), fun lz hlz => ?_⟩
      have R23 := R22.same (same_new (o := .lst [.str "last", .str "last", .str "base", .str "grow"]) hlz)
      have dd : ∀ {H : Hp} {a : Addr}, H a = some (.lst [.str "last", .str "last", .str "base", .str "grow"]) → Dp K H (.ref a) (.list [.str "last", .str "last", .str "base", .str "grow"]) := fun h => .lst (SqL.of h) (.cons (.str _) (.cons (.str _) (.cons (.str _) (.cons (.str _) .nil))))
      refine ⟨_, _, dd R23.gr, dd upd_same, rfl, rfl, Nat.le_trans (Nat.min_le_right _ _) (by show _ ≤ 60; exact (by decide : (1 : Nat) + 0 ≤ 60)), ?_⟩
      rw [SeqAt.eqv_refl_plain _ rfl]
      exact k _ (R23.pen.le8 (by omega)) R23.tab
end
end My
set_option pp.maxSteps 1500
set_option pp.deepTerms.threshold 8
/-! ### what the law's walk over points wants -/
namespace My
open PySem PySem.Spec PyProof.Rows L2
theorem tinit_at {Cs : List Addr} {CL CR CP CQo CT CB : Addr} {H : Hp} {x dx : Addr} {sv plv qv : V} {so pl : Option (Addr × Int × Int)} {sh : Option (List Int × List Int)} {R : Hp → Prop} {E : XK}
    (kS : KL Cs CL H sv so) (kP : KL Cs CL H plv pl) (kN : KN Cs CR CP CQo H qv sh) (hx : H x = none) (hd : H dx = none) (ne : dx ≠ x)
    (kE : ∀ nm, wrongT so pl sh = some nm → Errs E CB "part" (.str nm) H)
    (kR : ∀ a1 a2 y, so = some a1 → pl = some a2 → sh = some y → ∀ q H', PtAt CL CP CQo CT H' x ⟨a1.2, a2.2, y⟩ a1.1 a2.1 q → Same H H' → R H') :
    spTinit Cs CL CR CP CQo CT CB [.ref x, sv, plv, qv] (upd (upd H dx (.own x)) x (.ins CT dx [])) (fun v H2 => v = .non ∧ R H2) E := by
  have s0 : Same H (upd (upd H dx (.own x)) x (.ins CT dx [])) := fun b o e => by
    rw [upd_ne (ne_of_none e hx), upd_ne (ne_of_none e hd)]
    exact e
  have up : ∀ {H'}, (∀ c o, (upd (upd H dx (.own x)) x (.ins CT dx [])) c = some o → c ≠ x → H' c = some o) → Same H H' := fun {H'} k c o e => k c o (s0 _ _ e) (ne_of_none e hx)
  exact ⟨x, dx, sv, plv, qv, so, pl, sh, rfl, upd_same, kS.same s0, kP.same s0, kN.same s0, fun nm e H' k => (kE nm e).up (up k), fun a1 a2 y e1 e2 e3 q H' rn k => ⟨rfl, kR a1 a2 y e1 e2 e3 q H' rn (up k)⟩⟩
theorem pt_heard {Cs : List Addr} {CL CR CP CQo CT CB : Addr} {H : Hp} {x dx : Addr} {sv plv qv : V} {so pl : Option (Addr × Int × Int)} {sh : Option (List Int × List Int)} {Q Q' : VK} {nm : Str}
    (kS : KL Cs CL H sv so) (kP : KL Cs CL H plv pl) (kN : KN Cs CR CP CQo H qv sh) (hx : H x = none) (hd : H dx = none) (ne : dx ≠ x) (w : wrongT so pl sh = some nm) (k : ∀ H', Same H H' → Q (.str nm) H') :
    spTinit Cs CL CR CP CQo CT CB [.ref x, sv, plv, qv] (upd (upd H dx (.own x)) x (.ins CT dx [])) (fun v H2 => v = .non ∧ Q' (.ref x) H2) (WHeard CB Q) := by
  refine tinit_at kS kP kN hx hd ne (fun nm' e => heardN fun H' sm => ?_) fun a1 a2 y e1 e2 e3 q H' rn sm => ?_
  · rw [w] at e
    cases e
    exact k H' sm
  · subst e1
    subst e2
    subst e3
    cases w
theorem cmp_pts {P : Program} {K : PySem.W.Frag} {mg : Str → Option Value} {Cs : List Addr} {CL CR CP CQo CN CT CB fB : Addr} (T : NTx P K mg Cs CL CR CP CQo CN CT CB fB) {H : Hp} {a b : Addr} {r t : TV} {ps pp q ps' pp' q' : Addr} {Q : VK} {E : XK} (ha : PtAt CL CP CQo CT H a r ps pp q) (hb : PtAt CL CP CQo CT H b t ps' pp' q')
    (s1 : Sz r.q) (s2 : Sz t.q) (k : ∀ z H', Same H H' → (z = true ↔ TEq r t) → Q (.bl z) H') : rCmpO K CT (spTeq Cs CL CP CQo CT) E (.ref a) (.ref b) H Q := by
  obtain ⟨dx, e⟩ := id ha.1
  obtain ⟨dy, e'⟩ := id hb.1
  have ow := T.fam.own CT T.innT
  exact ⟨a, dx, _, _, rfl, e, ow.ty e', ow.sf, a, r, ps, pp, q, _, rfl, ha, s1, .inl ⟨b, t, ps', pp', q', rfl, hb, s2, k⟩⟩
theorem cmp_pts_no {P : Program} {K : PySem.W.Frag} {mg : Str → Option Value} {Cs : List Addr} {CL CR CP CQo CN CT CB fB : Addr} (T : NTx P K mg Cs CL CR CP CQo CN CT CB fB) {H : Hp} {a : Addr} {r : TV} {ps pp q : Addr} {v : V} {Q : VK} {E : XK} (ha : PtAt CL CP CQo CT H a r ps pp q)
    (s1 : Sz r.q) (av : AnyF Cs H v) (ni : notIns CT H v) (k : Q (.bl false) H) : rCmpO K CT (spTeq Cs CL CP CQo CT) E (.ref a) v H Q := by
  obtain ⟨dx, e⟩ := id ha.1
  obtain ⟨tt, tx, _, nf⟩ := T.fam.isi T.innT av ni
  exact ⟨a, dx, _, _, rfl, e, tx, nf, a, r, ps, pp, q, _, rfl, ha, s1, .inr ⟨av, ni, k⟩⟩
theorem ne_pts {P : Program} {K : PySem.W.Frag} {mg : Str → Option Value} {Cs : List Addr} {CL CR CP CQo CN CT CB fB : Addr} (T : NTx P K mg Cs CL CR CP CQo CN CT CB fB) {H : Hp} {a b : Addr} {r t : TV} {ps pp q ps' pp' q' : Addr} {Q : VK} {E : XK} (ha : PtAt CL CP CQo CT H a r ps pp q) (hb : PtAt CL CP CQo CT H b t ps' pp' q')
    (s1 : Sz r.q) (s2 : Sz t.q) (k : ∀ z H', Same H H' → (z = true ↔ TEq r t) → Q (.bl (!z)) H') : rNeO K CT (spTeq Cs CL CP CQo CT) E (.ref a) (.ref b) H Q := by
  obtain ⟨dx, e⟩ := id ha.1
  obtain ⟨dy, e'⟩ := id hb.1
  have ow := T.fam.own CT T.innT
  exact ⟨a, dx, _, _, rfl, e, ow.ty e', ow.sf, a, r, ps, pp, q, _, rfl, ha, s1, .inl ⟨b, t, ps', pp', q', rfl, hb, s2, fun z H' s hz => ⟨z, rfl, k z H' s hz⟩⟩⟩
/-- the other wrong value -/
def OthV (CP : Addr) (H : Hp) (v : V) : Prop := v = .non ∨ v = .bl true ∨ v = .str "0" ∨ ∃ a, v = .ref a ∧ (H a = some (.lst []) ∨ ∃ ts, PolyAt CP H a ts)
theorem OthV.ext {CP : Addr} {H H' : Hp} {v : V} (h : OthV CP H v) (x : LamX.ExtN H H') : OthV CP H' v := by
  rcases h with h | h | h | ⟨a, e, h⟩
  · exact .inl h
  · exact .inr (.inl h)
  · exact .inr (.inr (.inl h))
  · refine .inr (.inr (.inr ⟨a, e, ?_⟩))
    rcases h with h | ⟨ts, h⟩
    · exact .inl (x _ _ h (by intro ps z; cases z))
    · exact .inr ⟨ts, h.ext x⟩
theorem OthV.any {Cs : List Addr} {CP : Addr} (inn : CP ∈ Cs) {H : Hp} {v : V} (h : OthV CP H v) : AnyF Cs H v ∧ (∀ C, C ≠ CP → notIns C H v) ∧ isI v = false := by
  rcases h with rfl | rfl | rfl | ⟨a, rfl, h | ⟨ts, dx, t, h, _⟩⟩
  · exact ⟨.inl ⟨_, .non⟩, (fun C _ _ _ _ z => nomatch z), rfl⟩
  · exact ⟨.inl ⟨_, .bl _⟩, (fun C _ _ _ _ z => nomatch z), rfl⟩
  · exact ⟨.inl ⟨_, .str _⟩, (fun C _ _ _ _ z => nomatch z), rfl⟩
  · refine ⟨.inl ⟨_, .lst h⟩, (fun C _ b dx fs e e2 => ?_), rfl⟩
    cases e
    rw [h] at e2
    cases e2
  · refine ⟨.inr ⟨CP, inn, a, dx, _, rfl, h⟩, (fun C ne b dy fs e e2 => ?_), rfl⟩
    cases e
    rw [h] at e2
    cases e2
    exact ne rfl
theorem OthV.kl {Cs : List Addr} {CP CL : Addr} (inn : CP ∈ Cs) (ne : CL ≠ CP) {H : Hp} {v : V} (h : OthV CP H v) : KL Cs CL H v none := ⟨(h.any inn).1, (h.any inn).2.1 CL ne⟩
theorem OthV.kn {Cs : List Addr} {CR CP CQo : Addr} (inn : CP ∈ Cs) (n1 : CQo ≠ CP) (n2 : CR ≠ CP) {H : Hp} {v : V} (h : OthV CP H v) : KN Cs CR CP CQo H v none := ⟨(h.any inn).1, (h.any inn).2.1 CQo n1, (h.any inn).2.1 CR n2, (h.any inn).2.2⟩
/-- what stays while the refusals are heard -/
structure RestP (CP CL : Addr) (TS : List (Addr × Str)) (H : Hp) (x y : Int × Int) (ps pp : Addr) (ov tv : V) (pn cl : Addr) (n : Nat) : Prop where
  s : LineAt CL H ps x.1 x.2
  p : LineAt CL H pp y.1 y.2
  o : OddV CP H ov
  t : OthV CP H tv
  pen : PenC H pn cl n
  tab : LamX.Tabs TS H
theorem RestP.ext {CP CL : Addr} {TS : List (Addr × Str)} {H H' : Hp} {x y : Int × Int} {ps pp : Addr} {ov tv : V} {pn cl : Addr} {n : Nat} (h : RestP CP CL TS H x y ps pp ov tv pn cl n) (k : LamX.ExtN H H') (t : LamX.Tabs TS H') : RestP CP CL TS H' x y ps pp ov tv pn cl n := by
  refine ⟨h.s.ext k, h.p.ext k, h.o.ext k, h.t.ext k, ?_, t⟩
  obtain ⟨ns, a0, r0, h1, h2, h3⟩ := h.pen
  exact ⟨ns, a0, r0, k _ _ h1 (by intro ps z; cases z), k _ _ h2 (by intro ps z; cases z), h3⟩
theorem RestP.same {CP CL : Addr} {TS : List (Addr × Str)} {H H' : Hp} {x y : Int × Int} {ps pp : Addr} {ov tv : V} {pn cl : Addr} {n : Nat} (h : RestP CP CL TS H x y ps pp ov tv pn cl n) (s : Same H H') : RestP CP CL TS H' x y ps pp ov tv pn cl n := h.ext (ext_same s) (h.tab.ext s)
/-- the list of what was heard grows -/
theorem RestP.put {CP CL : Addr} {TS : List (Addr × Str)} {H : Hp} {x y : Int × Int} {ps pp lr : Addr} {ov tv : V} {pn cl : Addr} {n : Nat} {z : Str} {zs : List Str} {o : HO} (h : RestP CP CL TS H x y ps pp ov tv pn cl n) (g : H lr = some (.lst ((z :: zs).map V.str))) : RestP CP CL TS (upd H lr o) x y ps pp ov tv pn cl n := by
  refine ⟨h.s.put g, h.p.put g, h.o.put g, ?_, ?_, tabs_put h.tab g⟩
  · rcases h.t with h | h | h | ⟨a, e, h⟩
    · exact .inl h
    · exact .inr (.inl h)
    · exact .inr (.inr (.inl h))
    · refine .inr (.inr (.inr ⟨a, e, ?_⟩))
      rcases h with h | ⟨ts, h⟩
      · exact .inl (by rw [upd_ne (ne_of h g (by intro z; cases z))]; exact h)
      · exact .inr ⟨ts, h.put g⟩
  · have p := h.pen
    obtain ⟨ns, a0, r0, h1, h2, h3⟩ := id p
    refine p.put (ne_of h1 g (by intro z; cases z)) (ne_of h2 g ?_)
    cases ns with
    | nil => intro z; cases z
    | cons a b => intro z; cases z
end My
set_option pp.maxSteps 1500
set_option pp.deepTerms.threshold 8
/-! ### points as the law tries them -/
namespace My
open PySem PySem.Spec PyProof.Rows L2
abbrev s_pointsR : Stmt := topS 80
theorem sc_pointsR : FnScope ["_law_pen_here", "_law_begin", "_law_spot", "_law_number_here", "_law_made", "_law_some", "_law_thing", "_law_odd_here", "_law_other", "_law_heard_here"] ["_law_pen_here"] (defScope s_pointsR) := ⟨rfl, rfl, rfl, by decide +kernel, rfl, by decide +kernel, by decide +kernel⟩
def spPointsR (TS : List (Addr × Str)) : Sp := fun vs H Q _ => ∃ (pn cl : Addr) (n : Nat), vs = [.ref pn] ∧ PenC H pn cl n ∧ n < 60000 ∧ LamX.Tabs TS H ∧ ∀ H', PenC H' pn cl (n + 20) → LamX.Tabs TS H' → Q (.bl true) H'
section
variable {P : Program} {w : World} {K : PySem.W.Frag} {mg : Str → Option Value} {base : Heap} {Cs : List Addr} {CE CL CR CP CQo CN CT CB fB : Addr}
theorem ok_pointsR {f c tb : Addr} {fd : FuncData} {TS : List (Addr × Str)} (F : FunC K "_law_points_right" "_law_points_right" s_pointsR f fd c) (T : NTx P K mg Cs CL CR CP CQo CN CT CB fB) (TH : HTx P K mg CE CB fB) (DH : HeardAt K mg)
    (hmP : PySem.W.mroIn K CT (.type "object") = some true) (neP : PySem.W.findIn K (.ref CT) "__ne__" = some (some (.builtin "object.__ne__")))
    (TB : LamX.TabB base mg c tb) (hmT : (tb, (("_law_points_right" : Str) ++ ".<locals>.") ++ "<lambda>") ∈ TS) (hu : ∀ p ∈ TS, p.1 = tb → p.2 = (("_law_points_right" : Str) ++ ".<locals>.") ++ "<lambda>")
    (D_line : DefAt P w K mg base CX0 5 "_law_line" ["_law_pen_here"] (spLine CL)) (D_pick : DefAt P w K mg base CX0 2 "_law_pick" ["_law_pen_here", "_law_some"] spPickC)
    (D_number : DefAt P w K mg base CX0 8 "_law_number" ["_law_pen_here"] (spNumber CR CP CQo)) (D_asq : DefAt P w K mg base CX0 8 "_law_as_quotient" ["_law_number_here"] (spAsq CR CP CQo)) (D_odd : DefAt P w K mg base CX0 5 "_law_odd" ["_law_pen_here"] (spOdd CP))
    (CE_teq : CmpAt P w K mg base CX0 9 CT "__eq__" ["self", "other"] (spTeq Cs CL CP CQo CT)) (CE_qeq : CmpAt P w K mg base CX0 7 CQo "__eq__" ["self", "other"] (spQeq CQo CP))
    (O_ladd : CmpAt P w K mg base CX0 6 CL "__add__" ["self", "other"] (spLadd CL)) (B_ladd : BinF K CL (Operator.info .Add).2) (O_lsub : CmpAt P w K mg base CX0 7 CL "__sub__" ["self", "other"] (spLsub CL)) (B_lsub : BinF K CL (Operator.info .Sub).2)
    (M_Poly : MakeR P w K mg base (L2.CX P w) 3 "Poly" CP (spPoly CP)) (M_Point : MakeAt P w K mg base (L2.CX P w) 9 "Point" CT ["self", "source", "place", "share"] (spTinit Cs CL CR CP CQo CT CB) [])
    (MK_Point : MakeK P w K mg base (L2.CX P w) 9 "Point" CT ["self", "source", "place", "share"] ["share", "place", "source"] (spTinit Cs CL CR CP CQo CT CB) gSw) :
    FnG P w K mg base CX0 13 f fd ["_law_pen_here"] (spPointsR TS) := by
  refine okGc F sc_pointsR (fun vs H Q E h => ?_) (fun A outer s H vs Q E hgd hr h => ?_)
  · obtain ⟨pn, cl, n, rfl, _⟩ := h
    rfl
  · obtain ⟨pn, cl, n, rfl, hp, hn, ht, k⟩ := h
    refine ⟨_, (pss_cons (ps_asg (pe_tup (pa_cons (My.pe_d D_line (hr.mono (by decide)) (by rfl) pass0 (pa_cons (pv 0) pa_nil)) (pa_cons (My.pe_d D_line (hr.mono (by decide)) (by rfl) pass0 (pa_cons (pv 0) pa_nil)) pa_nil))) (pg_tup rfl (pgs_cons (pg_name (i := 1) sc_pointsR.nd rfl (Or.inr rfl)) (pgs_cons (pg_name (i := 2) sc_pointsR.nd rfl (Or.inr rfl)) pgs_nil))))
      (pss_cons (ps_set (i := 3) sc_pointsR.nd rfl (Or.inl rfl) (My.pe_d D_number (hr.mono (by decide)) (by rfl) pass0 (pa_cons (pv 0) pa_nil)))
      (pss_cons (ps_set (i := 4) sc_pointsR.nd rfl (Or.inr rfl) (My.pe_mk M_Point (hr.mono (by decide)) (by rfl) passL (pa_cons (pv 1) (pa_cons (pv 2) (pa_cons (pv 3) pa_nil)))))
      (pss_cons (ps_if (pt_cmpR (My.op_neQ CE_qeq (hr.mono (by decide)) pass0) (pe_lst (pa_cons (pe_fld (pv 4) rfl) (pa_cons (pe_fld (pv 4) rfl) (pa_cons (pe_fld (pv 4) rfl) pa_nil)))) (pe_lst (pa_cons (pv 1) (pa_cons (pv 2) (pa_cons (My.pe_d D_asq (hr.mono (by decide)) (by rfl) pass0 (pa_cons (pv 3) pa_nil)) pa_nil)))) (nomark _)) (pss_one (ps_ret pe_bl)) pss_nil)
      (pss_cons (ps_set (i := 5) sc_pointsR.nd rfl (Or.inl rfl) (pe_lst (pa_cons (My.pe_mk M_Point (hr.mono (by decide)) (by rfl) passL (pa_cons (pe_op (My.op_binO O_ladd B_ladd (hr.mono (by decide)) pass0) (pv 1) pe_int) (pa_cons (pv 2) (pa_cons (pv 3) pa_nil)))) (pa_cons (My.pe_mk M_Point (hr.mono (by decide)) (by rfl) passL (pa_cons (pv 1) (pa_cons (pe_op (My.op_binO O_lsub B_lsub (hr.mono (by decide)) pass0) (pv 2) pe_int) (pa_cons (pv 3) pa_nil)))) (pa_cons (My.pe_mk M_Point (hr.mono (by decide)) (by rfl) passL (pa_cons (pv 1) (pa_cons (pv 2) (pa_cons pe_int pa_nil)))) (pa_cons pe_non (pa_cons (pv 2) pa_nil)))))))
      (pss_cons (ps_if (pt_cmpR (My.op_neP hr.units) (pe_lc (own := [("_law_thing", 6)]) rfl sc_pointsR.nd (pi_list (pv 5)) (blkOk_by (by show blkC ["_law_pen_here", "_law_begin", "_law_spot", "_law_number_here", "_law_made", "_law_some", "_law_thing", "_law_odd_here", "_law_other", "_law_heard_here"] (defScope s_pointsR) _ _ = true; decide +kernel)) (fun _ _ _ _ _ => (pg_name (i := 6) sc_pointsR.nd rfl (Or.inl rfl))) (fun _ _ _ _ _ => (pts_one (pt_cmpR (My.op_cmpB (K := K) rfl CE_teq (hr.mono (by decide)) pass0) (pv 4) (pv 6) (nomark _)))) (fun _ _ _ _ _ => (pv 6))) (pe_lst pa_nil) (nomark _)) (pss_one (ps_ret pe_bl)) pss_nil)
      (pss_cons (ps_if (pt_cmpR (My.op_neO CE_teq hmP neP (hr.mono (by decide)) pass0) (pv 4) (My.pe_mkK MK_Point (hr.mono (by decide)) (by rfl) passL (pk_cons (My.pe_d D_asq (hr.mono (by decide)) (by rfl) pass0 (pa_cons (pv 3) pa_nil)) (pk_cons (pv 2) (pk_cons (pv 1) pk_nil)))) (nomark _)) (pss_one (ps_ret pe_bl)) pss_nil)
      (pss_cons (ps_set (i := 7) sc_pointsR.nd rfl (Or.inr rfl) (My.pe_d D_odd (hr.mono (by decide)) (by rfl) pass0 (pa_cons (pv 0) pa_nil)))
      (pss_cons (ps_set (i := 8) sc_pointsR.nd rfl (Or.inr rfl) (My.pe_d D_pick (hr.mono (by decide)) (by rfl) pass0 (pa_cons (pv 0) (pa_cons (pe_lst (pa_cons pe_non (pa_cons pe_bl (pa_cons pe_str (pa_cons (pe_lst pa_nil) (pa_cons (My.pe_mkR M_Poly (hr.mono (by decide)) (by rfl) passL (pa_cons pe_int pa_nil)) pa_nil)))))) pa_nil))))
      (pss_cons (ps_set (i := 9) sc_pointsR.nd rfl (Or.inl rfl) (pe_lst (pa_cons (My.pe_heard (k := 10) DH TH hgd (hr.mono (by decide)) TB rfl hmT hu (by rfl) (LamX.lamS_by (by show LamX.lamSB (defScope s_pointsR) _ = true; decide +kernel)) rfl (fun _ _ _ _ _ => rfl) (fun A outer s H E f c hrl => (My.pe_mk M_Point (hrl.mono (by decide)) (by rfl) (passes_call (takes_of rfl rfl rfl rfl) (fun _ _ _ _ h => h)) (pa_cons (pv 7) (pa_cons (pv 8) (pa_cons (pv 8) pa_nil)))))) pa_nil)))
      (pss_cons (ps_expr (pe_bm PySem.F.plainAttrs_list PySem.F.slot_list_append PySem.F.type_list_append mt_append (pv 9) (pa_cons (My.pe_heard (k := 10) DH TH hgd (hr.mono (by decide)) TB rfl hmT hu (by rfl) (LamX.lamS_by (by show LamX.lamSB (defScope s_pointsR) _ = true; decide +kernel)) rfl (fun _ _ _ _ _ => rfl) (fun A outer s H E f c hrl => (My.pe_mk M_Point (hrl.mono (by decide)) (by rfl) (passes_call (takes_of rfl rfl rfl rfl) (fun _ _ _ _ h => h)) (pa_cons (pv 1) (pa_cons (pv 7) (pa_cons (pv 8) pa_nil)))))) pa_nil)))
      (pss_cons (ps_expr (pe_bm PySem.F.plainAttrs_list PySem.F.slot_list_append PySem.F.type_list_append mt_append (pv 9) (pa_cons (My.pe_heard (k := 10) DH TH hgd (hr.mono (by decide)) TB rfl hmT hu (by rfl) (LamX.lamS_by (by show LamX.lamSB (defScope s_pointsR) _ = true; decide +kernel)) rfl (fun _ _ _ _ _ => rfl) (fun A outer s H E f c hrl => (My.pe_mk M_Point (hrl.mono (by decide)) (by rfl) (passes_call (takes_of rfl rfl rfl rfl) (fun _ _ _ _ h => h)) (pa_cons (pv 1) (pa_cons (pv 2) (pa_cons (pv 8) pa_nil)))))) pa_nil)))
      (pss_one (ps_ret (pe_cmpR (My.op_eqP hr.units) (pv 9) (pe_lst (pa_cons pe_str (pa_cons pe_str (pa_cons pe_str pa_nil)))) (nomark _)))))))))))))))), ?_⟩
    refine ⟨_, rfl, pn, cl, _, rfl, hp, by omega, fun ps sa sb H1 ls1 p1 u1 _ => ⟨_, rfl, pn, cl, _, rfl, p1, by omega, fun pp pa pb H2 lp2 p2 u2 _ => ⟨(by show 2 ≤ sizeLine; decide), fun t0 ht0 => ⟨t0, _, rfl, SqT.of upd_same, rfl, _, _, rfl, _, _, rfl, rfl, ?_⟩⟩⟩⟩
    have s3 := same_new (o := .tup [.ref ps, .ref pp]) ht0
    have ls3 := (ls1.pen p1 u2).same s3
    have lp3 := lp2.same s3
    have p3 := p2.same s3
    have t3 := (tabs_but (tabs_but ht hp.pen u1) p1.pen u2).ext s3
    generalize upd H2 t0 (.tup [.ref ps, .ref pp]) = H3 at ls3 lp3 p3 t3 ⊢
    refine ⟨_, rfl, pn, cl, _, rfl, p3, by omega, fun nv xq H4 mq4 dr p4 u4 => ?_⟩
    have ls4 := ls3.pen p3 u4
    have lp4 := lp3.pen p3 u4
    have t4 := tabs_but t3 p3.pen u4
    have sq := sz_drawn dr
    clear ls3 lp3 t3 p3 u4 s3 ht0 u2 p2 lp2 u1 p1 ls1 ht hp
    refine ⟨_, rfl, _, rfl, _, rfl, fun x dx hx hd ne => tinit_at (so := some (ps, (sa, sb))) (pl := some (pp, (pa, pb))) (sh := some xq) ⟨rfl, ls4⟩ ⟨rfl, lp4⟩ mq4 hx hd ne (fun nm e => nomatch e) fun a1 a2 y e1 e2 e3 q H5 R5 s5 => ?_⟩
    cases e1
    cases e2
    cases e3
    have ls5 := ls4.same s5
    have lp5 := lp4.same s5
    have mq5 := mq4.same s5
    have p5 := p4.same s5
    have t5 := t4.ext s5
    clear ls4 lp4 mq4 p4 t4 s5 hx hd ne
    obtain ⟨⟨dxx, ex⟩, _, _, hq5⟩ := id R5
    obtain ⟨g1, g2, g3⟩ := tfs_all ps pp q
    refine ⟨_, rfl, x, CT, dxx, _, _, rfl, ex, T.clT, T.noT _ (by simp), g1, _, rfl, x, CT, dxx, _, _, rfl, ex, T.clT, T.noT _ (by simp), g2, _, rfl, x, CT, dxx, _, _, rfl, ex, T.clT, T.noT _ (by simp), g3, (by show 3 ≤ sizeLine; decide), fun l1 hl1 => ?_⟩
    have s6 := same_new (o := .lst [.ref ps, .ref pp, .ref q]) hl1
    have gl6 : upd H5 l1 (.lst [.ref ps, .ref pp, .ref q]) l1 = some (.lst [.ref ps, .ref pp, .ref q]) := upd_same
    generalize upd H5 l1 (.lst [.ref ps, .ref pp, .ref q]) = H6 at s6 gl6 ⊢
    refine ⟨_, rfl, _, rfl, _, rfl, nv, xq, rfl, mq5.same s6, fun q' H7 hq7 s7 => ⟨(by show 3 ≤ sizeLine; decide), fun l2 hl2 => ?_⟩⟩
    have s8 := same_new (o := .lst [.ref ps, .ref pp, .ref q']) hl2
    have s78 := s7.trans s8
    refine ⟨l1, l2, _, _, rfl, rfl, s78 _ _ gl6, upd_same, ?_, fun G9 s9 => ⟨_, rfl, iteF ?_⟩⟩
    · exact Prs.cons dq_ref (Prs.cons dq_ref (Prs.cons (dq_quo (hq5.same (s6.trans s78)) (hq7.same s8) sq) Prs.nil))
    have s59 := (s6.trans s78).trans s9
    have R9 := R5.same s59
    have ls9 := ls5.same s59
    have lp9 := lp5.same s59
    have mq9 := mq5.same s59
    have p9 := p5.same s59
    have t9 := t5.ext s59
    clear R5 ls5 lp5 mq5 p5 t5 s59 s9 s78 s8 hl2 s7 hq7 gl6 s6 hl1 ex hq5
    obtain ⟨dps, eps⟩ := id ls9
    refine ⟨_, rfl, ps, dps, _, rfl, eps, .inr ⟨1, rfl⟩, ps, _, _, .int 1, 0, 1, rfl, ls9, .inr ⟨rfl, rfl⟩, fun y1 H10 l10 s10 => ⟨_, rfl, _, rfl, ?_⟩⟩
    refine fun x1 dx1 hx hd ne => tinit_at (so := some (y1, (sa + 0, sb + 1))) (pl := some (pp, (pa, pb))) (sh := some xq) ⟨rfl, l10⟩ ⟨rfl, lp9.same s10⟩ (mq9.same s10) hx hd ne (fun nm e => nomatch e) fun a1 a2 y e1 e2 e3 q1 H11 R11 s11 => ?_
    cases e1
    cases e2
    cases e3
    have s91 := s10.trans s11
    obtain ⟨dpp, epp⟩ := id (lp9.same s91)
    refine ⟨_, rfl, _, rfl, pp, dpp, _, rfl, epp, .inr ⟨1, rfl⟩, pp, _, _, .int 1, 0, 1, rfl, lp9.same s91, .inr ⟨rfl, rfl⟩, fun y2 H12 l12 s12 => ⟨_, rfl, ?_⟩⟩
    have s92 := s91.trans s12
    refine fun x2 dx2 hx hd ne => tinit_at (so := some (ps, (sa, sb))) (pl := some (y2, (pa - 0, pb - 1))) (sh := some xq) ⟨rfl, ls9.same s92⟩ ⟨rfl, l12⟩ (mq9.same s92) hx hd ne (fun nm e => nomatch e) fun a1 a2 y e1 e2 e3 q2 H13 R13 s13 => ?_
    cases e1
    cases e2
    cases e3
    have s93 := s92.trans s13
    refine ⟨_, rfl, _, rfl, ?_⟩
    refine fun x3 dx3 hx hd ne => tinit_at (so := some (ps, (sa, sb))) (pl := some (pp, (pa, pb))) (sh := some (trim [77], [1])) ⟨rfl, ls9.same s93⟩ ⟨rfl, lp9.same s93⟩ numq_int hx hd ne (fun nm e => nomatch e) fun a1 a2 y e1 e2 e3 q3 H14 R14 s14 => ?_
    cases e1
    cases e2
    cases e3
    have s94 := s93.trans s14
    refine ⟨_, rfl, (by show 5 ≤ sizeLine; decide), fun lso hlso => ?_⟩
    have s15 := same_new (o := .lst [.ref x1, .ref x2, .ref x3, .non, .ref pp]) hlso
    have g15 : upd H14 lso (.lst [.ref x1, .ref x2, .ref x3, .non, .ref pp]) lso = some (.lst [.ref x1, .ref x2, .ref x3, .non, .ref pp]) := upd_same
    have s95 := s94.trans s15
    have R15 := R9.same s95
    have A1 := (((R11.same s12).same s13).same s14).same s15
    have A2 := (R13.same s14).same s15
    have A3 := R14.same s15
    have ls15 := ls9.same s95
    have lp15 := lp9.same s95
    have mq15 := mq9.same s95
    have p15 := p9.same s95
    have t15 := t9.ext s95
    generalize upd H14 lso (.lst [.ref x1, .ref x2, .ref x3, .non, .ref pp]) = H15 at R15 A1 A2 A3 ls15 lp15 mq15 p15 t15 g15 ⊢
    clear s95 s94 s93 s92 s91 s10 s11 s12 s13 s14 s15 R14 R13 R11 R9 ls9 lp9 mq9 p9 t9 hx hd ne epp eps l10 l12
    refine ⟨_, rfl, lso, rfl, ⟨_, SqL.of g15⟩, fun D hD => ?_⟩
    have s77 : Sz (trim [77], [1]) := by
      rw [trim1 (by decide)]
      exact sz_small (fun v hv => by have := List.mem_singleton.mp hv; omega) (fun v hv => by have := List.mem_singleton.mp hv; omega) (by show 1 ≤ 400; decide) (by show 1 ≤ 400; decide)
    have n1 : ¬ TEq ⟨(sa, sb), (pa, pb), xq⟩ ⟨(sa + 0, sb + 1), (pa, pb), xq⟩ := fun z => by
      have : sb = sb + 1 := congrArg Prod.snd z.1
      omega
    have n2 : ¬ TEq ⟨(sa, sb), (pa, pb), xq⟩ ⟨(sa, sb), (pa - 0, pb - 1), xq⟩ := fun z => by
      have : pb = pb - 1 := congrArg Prod.snd z.2.1
      omega
    have n3 : ¬ TEq ⟨(sa, sb), (pa, pb), xq⟩ ⟨(sa, sb), (pa, pb), (trim [77], [1])⟩ := fun z => by
      have h := z.2.2
      rw [trim1 (by decide)] at h
      exact (const_ne dr (t := 77) (l := 1) (by decide) (by decide) (.inl (by decide))).2 h
    refine lc_list (xs := [.ref x1, .ref x2, .ref x3, .non, .ref pp]) (fun i Hh => Hh D = some (.lst []) ∧ Same H15 Hh) ⟨upd_same, same_new hD⟩ (fun i Hh _ ⟨_, s⟩ => SqL.of (s _ _ g15)) ?_ ?_
    · rintro i v Hh hv ⟨e1, e2⟩
      have R := R15.same e2
      have nd := T.nd
      simp only [List.nodup_cons, List.mem_cons, List.mem_nil_iff, or_false, not_or] at nd
      rcases i with _ | _ | _ | _ | _ | i
      · cases hv
        refine ⟨rfl, _, rfl, _, rfl, cmp_pts T R (A1.same e2) sq sq fun z H' s hz => ⟨_, rfl, ?_⟩⟩
        cases z with
        | false => exact iteF ⟨s _ _ e1, e2.trans s⟩
        | true => exact absurd (hz.mp rfl) n1
      · cases hv
        refine ⟨rfl, _, rfl, _, rfl, cmp_pts T R (A2.same e2) sq sq fun z H' s hz => ⟨_, rfl, ?_⟩⟩
        cases z with
        | false => exact iteF ⟨s _ _ e1, e2.trans s⟩
        | true => exact absurd (hz.mp rfl) n2
      · cases hv
        refine ⟨rfl, _, rfl, _, rfl, cmp_pts T R (A3.same e2) sq s77 fun z H' s hz => ⟨_, rfl, ?_⟩⟩
        cases z with
        | false => exact iteF ⟨s _ _ e1, e2.trans s⟩
        | true => exact absurd (hz.mp rfl) n3
      · cases hv
        exact ⟨rfl, _, rfl, _, rfl, cmp_pts_no T R sq (.inl ⟨_, .non⟩) (fun _ _ _ z => nomatch z) ⟨_, rfl, iteF ⟨e1, e2⟩⟩⟩
      · cases hv
        obtain ⟨dpp, epp⟩ := lp15.same e2
        refine ⟨rfl, _, rfl, _, rfl, cmp_pts_no T R sq (.inr ⟨CL, T.innL, pp, dpp, _, rfl, epp⟩) (fun a dz fs z z2 => ?_) ⟨_, rfl, iteF ⟨e1, e2⟩⟩⟩
        cases z
        rw [epp] at z2
        cases z2
        exact nd.1.2.2.2.2 rfl
      · cases hv
    rintro H16 ⟨g16, s16⟩
    refine ⟨(by show 0 ≤ sizeLine; decide), fun le hle => ?_⟩
    have s17 := same_new (o := .lst []) hle
    refine ⟨_, _, .lst (SqL.of (s17 _ _ g16)) .nil, .lst (SqL.of upd_same) .nil, rfl, rfl, Nat.le_trans (Nat.min_le_right _ _) (by show _ ≤ 60; exact (by decide : (1 : Nat) + 0 ≤ 60)), _, rfl, iteF ?_⟩
    generalize upd H16 le (.lst []) = H17 at s17 ⊢
    have s1517 := s16.trans s17
    have R17 := R15.same s1517
    have ls17 := ls15.same s1517
    have lp17 := lp15.same s1517
    have mq17 := mq15.same s1517
    have p17 := p15.same s1517
    have t17 := t15.ext s1517
    clear s1517 s16 s17 g16 hle R15 ls15 lp15 mq15 p15 t15 A1 A2 A3 g15 n1 n2 n3 s77 hD
    refine ⟨_, rfl, _, rfl, nv, xq, rfl, mq17, fun q4 H18 hq4 s18 => ⟨_, rfl, _, rfl, rfl, rfl, ?_⟩⟩
    refine fun x4 dx4 hx hd ne => tinit_at (so := some (ps, (sa, sb))) (pl := some (pp, (pa, pb))) (sh := some xq) ⟨rfl, ls17.same s18⟩ ⟨rfl, lp17.same s18⟩ (show NumQ CR CP CQo H18 (.ref q4) xq from .inl ⟨q4, rfl, hq4⟩) hx hd ne (fun nm e => nomatch e) fun a1 a2 y e1 e2 e3 q5 H19 R19 s19 => ?_
    cases e1
    cases e2
    cases e3
    have s179 := s18.trans s19
    refine ne_pts T (R17.same s179) R19 sq sq fun z H20 s20 hz => ⟨_, rfl, ?_⟩
    rw [hz.mpr ⟨rfl, rfl, fun _ => rfl⟩]
    refine iteF ?_
    have s1720 := s179.trans s20
    have ls20 := ls17.same s1720
    have lp20 := lp17.same s1720
    have p20 := p17.same s1720
    have t20 := t17.ext s1720
    clear hz z R19 R17 s179 s1720 s18 s19 s20 hq4 hx hd ne ls17 lp17 mq17 p17 t17
    refine ⟨_, rfl, pn, cl, _, rfl, p20, by omega, fun ov H21 od fr p21 u21 => ?_⟩
    have ls21 := ls20.pen p20 u21
    have lp21 := lp20.pen p20 u21
    have t21 := tabs_but t20 p20.pen u21
    refine ⟨_, rfl, (by show 0 ≤ sizeLine; decide), fun a1 k1 => ?_⟩
    have q1 := same_new (o := .lst []) k1
    have G1 := upd_same (H := H21) (a := a1) (o := .lst [])
    generalize upd H21 a1 (.lst []) = H22 at q1 G1 ⊢
    refine poly_ints [1] (by show 1 ≤ 1000; decide) fun pq H23 l23 s23 => ⟨(by show 5 ≤ sizeLine; decide), fun l hl => ?_⟩
    have sl := same_new (o := .lst [.non, .bl true, .str "0", .ref a1, .ref pq]) hl
    have s13 := (q1.trans s23).trans sl
    refine ⟨pn, cl, l, _, _, rfl, upd_same, pen_ne (p21.same (q1.trans s23)).pen hl, (by show 0 < 5; decide), (by show 5 ≤ 1000; decide), p21.same s13, by omega, fun tv H24 hv p24 u24 => ?_⟩
    have pz := p21.same s13
    have ot : OthV CP H24 tv := by
      simp only [List.mem_cons, List.mem_nil_iff, or_false] at hv
      rcases hv with rfl | rfl | rfl | rfl | rfl
      · exact .inl rfl
      · exact .inr (.inl rfl)
      · exact .inr (.inr (.inl rfl))
      · refine .inr (.inr (.inr ⟨a1, rfl, .inl ?_⟩))
        refine u24 _ _ ((s23.trans sl) _ _ G1) fun z => ?_
        exact pen_ne p21.pen k1 z
      · exact .inr (.inr (.inr ⟨pq, rfl, .inr ⟨_, (l23.same sl).but pz.pen u24⟩⟩))
    have R24 : RestP CP CL TS H24 (sa, sb) (pa, pb) ps pp ov tv pn cl (n + 10) :=
      ⟨(ls21.same s13).pen pz u24, (lp21.same s13).pen pz u24, (od.same s13).pen pz u24, ot, p24.le8 (by omega), tabs_but (t21.ext s13) pz.pen u24⟩
    clear ot pz s13 sl l23 s23 G1 q1 k1 hl hv u24 p24 t21 lp21 ls21 od fr p21 u21 ls20 lp20 p20 t20
    have nd := T.nd
    simp only [List.nodup_cons, List.mem_cons, List.mem_nil_iff, or_false, not_or] at nd
    have nL : CL ≠ CP := nd.1.2.1
    have nR : CR ≠ CP := nd.2.1.1
    have nQ : CQo ≠ CP := fun z => nd.2.2.1.1 z.symm
    refine ⟨R24.tab, fun G25 x25 tab25 Q25 hQ25 => ?_⟩
    have R25 := R24.ext x25 tab25
    refine ⟨_, rfl, _, rfl, _, rfl, fun x dx hx hd ne => pt_heard (so := none) (pl := none) (sh := none) (R25.o.kl T.inn nL) (R25.t.kl T.inn nL) (R25.t.kn T.inn nQ nR) hx hd ne rfl fun H26 s26 => ?_⟩
    refine ⟨(by show 1 ≤ sizeLine; decide), fun lr hlr => ?_⟩
    have s27 := same_new (o := .lst [.str "source"]) hlr
    have g27 : upd H26 lr (.lst [.str "source"]) lr = some (.lst ([("source" : Str)].map V.str)) := upd_same
    have R27 := (R25.same s26).same s27
    generalize upd H26 lr (.lst [.str "source"]) = H27 at R27 g27 ⊢
    clear R25 R24 x25 tab25 hQ25 s26 s27 hlr hx hd ne
    refine ⟨_, rfl, .inl ⟨rfl, _, SqL.of g27⟩, R27.tab, fun G28 x28 tab28 Q28 hQ28 => ?_⟩
    have R28 := R27.ext x28 tab28
    have g28 := x28 _ _ g27 (by intro ps z; cases z)
    refine ⟨_, rfl, _, rfl, _, rfl, fun x dx hx hd ne => pt_heard (so := some (ps, (sa, sb))) (pl := none) (sh := none) ⟨rfl, R28.s⟩ (R28.o.kl T.inn nL) (R28.t.kn T.inn nQ nR) hx hd ne rfl fun H29 s29 => ?_⟩
    have g29 := s29 _ _ g28
    refine ⟨lr, _, _, rfl, rfl, g29, (by show 1 < sizeLine; decide), ?_⟩
    have R30 := (R28.same s29).put (o := .lst (List.map V.str [("source" : Str)] ++ [.str "place"])) g29
    have g30 : upd H29 lr (.lst (List.map V.str [("source" : Str)] ++ [.str "place"])) lr = some (.lst ([("source" : Str), "place"].map V.str)) := upd_same
    generalize upd H29 lr (.lst (List.map V.str [("source" : Str)] ++ [.str "place"])) = H30 at R30 g30 ⊢
    clear R28 R27 x28 tab28 hQ28 s29 g28 g29 g27 hx hd ne
    refine ⟨_, rfl, .inl ⟨rfl, _, SqL.of g30⟩, R30.tab, fun G31 x31 tab31 Q31 hQ31 => ?_⟩
    have R31 := R30.ext x31 tab31
    have g31 := x31 _ _ g30 (by intro ps z; cases z)
    refine ⟨_, rfl, _, rfl, _, rfl, fun x dx hx hd ne => pt_heard (so := some (ps, (sa, sb))) (pl := some (pp, (pa, pb))) (sh := none) ⟨rfl, R31.s⟩ ⟨rfl, R31.p⟩ (R31.t.kn T.inn nQ nR) hx hd ne rfl fun H32 s32 => ?_⟩
    have g32 := s32 _ _ g31
    refine ⟨lr, _, _, rfl, rfl, g32, (by show 2 < sizeLine; decide), ?_⟩
    have R33 := (R31.same s32).put (o := .lst (List.map V.str [("source" : Str), "place"] ++ [.str "share"])) g32
    have g33 : upd H32 lr (.lst (List.map V.str [("source" : Str), "place"] ++ [.str "share"])) lr = some (.lst [.str "source", .str "place", .str "share"]) := upd_same
    generalize upd H32 lr (.lst (List.map V.str [("source" : Str), "place"] ++ [.str "share"])) = H33 at R33 g33 ⊢
    refine ⟨_, rfl, (by show 3 ≤ sizeLine; decide), fun lz hlz => ?_⟩
    have s34 := same_new (o := .lst [.str "source", .str "place", .str "share"]) hlz
    have R34 := R33.same s34
    have dd : ∀ {H : Hp} {a : Addr}, H a = some (.lst [.str "source", .str "place", .str "share"]) → Dp K H (.ref a) (.list [.str "source", .str "place", .str "share"]) := fun h => .lst (SqL.of h) (.cons (.str _) (.cons (.str _) (.cons (.str _) .nil)))
    refine ⟨_, _, dd (s34 _ _ g33), dd upd_same, rfl, rfl, Nat.le_trans (Nat.min_le_right _ _) (by show _ ≤ 60; exact (by decide : (1 : Nat) + 0 ≤ 60)), ?_⟩
    rw [SeqAt.eqv_refl_plain _ rfl]
    exact k _ (R34.pen.le8 (by omega)) R34.tab
end
end My
set_option pp.maxSteps 1500
set_option pp.deepTerms.threshold 8
/-! ### the law -/
namespace My
open PySem PySem.Spec PyProof.Rows L2
abbrev s_law : Stmt := topS 81
theorem sc_law : FnScope ["_law_script", "_law_pen_here", "_law_turn"] ["_law_script"] (defScope s_law) := ⟨rfl, rfl, rfl, by decide +kernel, rfl, by decide +kernel, by decide +kernel⟩
def spLaw (K : PySem.W.Frag) (TS : List (Addr × Str)) : Sp := fun vs H Q _ => ∃ (a : Addr) (ns : List Int), vs = [.ref a] ∧ SqL K H a (ns.map V.int) ∧ LamX.Tabs TS H ∧ ∀ (H' : Hp), Q (.bl true) H'
section
variable {P : Program} {w : World} {K : PySem.W.Frag} {mg : Str → Option Value} {base : Heap}
theorem ok_law {f : Addr} {fd : FuncData} {TS : List (Addr × Str)} (F : Fun K "law" "law" s_law f fd) (T : BI mg)
    (D_pen : DefAt P w K mg base CX0 1 "_law_pen" ["_law_script"] (spPen K)) (D_runsR : DefG P w K mg base CX0 13 "_law_runs_right" ["_law_pen_here"] (spRunsR TS)) (D_pointsR : DefG P w K mg base CX0 13 "_law_points_right" ["_law_pen_here"] (spPointsR TS)) :
    FnG P w K mg base CX0 14 f fd ["_law_script"] (spLaw K TS) := by
  refine okG F sc_law (fun vs H Q E h => ?_) (fun cdv A outer s H vs Q E hf hgd hr h => ?_)
  · obtain ⟨a, ns, rfl, _⟩ := h
    rfl
  · obtain ⟨sc, ns, rfl, hs, ht, k⟩ := h
    refine ⟨_, (pss_cons (ps_set (i := 1) sc_law.nd rfl (Or.inl rfl) (My.pe_d D_pen (hr.mono (by decide)) (by rfl) pass0 (pa_cons (pv 0) pa_nil)))
      (pss_cons (ps_for PassesOwn.never rfl (pi_range1 rfl T.z_range (pa_cons pe_int pa_nil)) (pg_name (i := 2) sc_law.nd rfl (Or.inl rfl)) (pss_one (ps_if (PW.pt (pw_or (pt_not (pt_val (My.pe_dG D_runsR hgd (hr.mono (by decide)) (by rfl) pass0 (pa_cons (pv 1) pa_nil)))) (pw_or1 (pt_not (pt_val (My.pe_dG D_pointsR hgd (hr.mono (by decide)) (by rfl) pass0 (pa_cons (pv 1) pa_nil))))))) (pss_one (ps_ret pe_bl)) pss_nil)))
      (pss_one (ps_ret pe_bl)))), ?_⟩
    refine ⟨_, rfl, sc, ns, rfl, hs, fun pn H1 h1 p1 s1 => ?_⟩
    obtain ⟨cl0, pc0⟩ : ∃ cl, PenC H1 pn cl 0 := p1
    refine ⟨8, rfl, by decide, by decide, for_range (fun i σ H' => ∃ cl v2, σ = [some (.ref sc), some (.ref pn), v2] ∧ PenC H' pn cl (50 * i) ∧ LamX.Tabs TS H') ⟨cl0, none, rfl, pc0, ht.ext s1⟩ ?_ ?_⟩
    · rintro i σ H' hi ⟨cl, v2, rfl, hp, htb⟩
      have hi8 : i < 8 := hi
      refine ⟨_, rfl, pn, cl, 50 * i, rfl, hp, by omega, htb, fun H2 p2 t2 => ⟨_, rfl, iteF ?_⟩⟩
      refine ⟨_, rfl, pn, cl, _, rfl, p2, by omega, t2, fun H3 p3 t3 => ⟨_, rfl, iteF ?_⟩⟩
      exact ⟨cl, _, rfl, p3.le8 (by omega), t3⟩
    · rintro σ H' ⟨cl, v2, rfl, hp, htb⟩
      exact k _
end
end My
namespace My
open PySem PySem.Spec PyProof.Rows L2
abbrev s_eBadTable : Stmt := inClass (topS 9) 0
abbrev s_nsign : Stmt := inClass (topS 66) 1
theorem sc_nsign : FnScope ["self"] ["self"] (defScope s_nsign) := ⟨rfl, rfl, rfl, by decide +kernel, rfl, by decide +kernel, by decide +kernel⟩
theorem all_mk {l : PySem.W.OpenLaw} {w : World} {K : PySem.W.Frag} {h : Heap} {mg : Str → Option Value} {fa CE CL CR CP CQo CN CT CB fB : Addr}  {c1 t1 : Addr} {c2 t2 : Addr} (hfa : mg "law" = some (.ref fa))
    (_g_CL : mg "Line" = some (.ref CL))
    (_g_CR : mg "Ratio" = some (.ref CR))
    (_g_CP : mg "Poly" = some (.ref CP))
    (_g_CQo : mg "Quotient" = some (.ref CQo))
    (_g_CN : mg "Run" = some (.ref CN))
    (_g_CT : mg "Point" = some (.ref CT))
    (_gB : mg "BadTable" = some (.ref CB))
    (_gE : mg "ClipError" = some (.ref CE))
    (_iB : PySem.W.findIn K (.ref CB) "__init__" = some (some (.ref fB)))
    (bi : BI mg)
    (o_CL : Own K CL)
    (mk_CL : PySem.W.makesIn K CL = true)
    (kp_CL : PySem.W.keepIn K (.ref CL) = true)
    (o_CR : Own K CR)
    (mk_CR : PySem.W.makesIn K CR = true)
    (kp_CR : PySem.W.keepIn K (.ref CR) = true)
    (o_CP : Own K CP)
    (mk_CP : PySem.W.makesIn K CP = true)
    (kp_CP : PySem.W.keepIn K (.ref CP) = true)
    (o_CQo : Own K CQo)
    (mk_CQo : PySem.W.makesIn K CQo = true)
    (kp_CQo : PySem.W.keepIn K (.ref CQo) = true)
    (o_CN : Own K CN)
    (mk_CN : PySem.W.makesIn K CN = true)
    (kp_CN : PySem.W.keepIn K (.ref CN) = true)
    (o_CT : Own K CT)
    (mk_CT : PySem.W.makesIn K CT = true)
    (kp_CT : PySem.W.keepIn K (.ref CT) = true)
    (x_CL_CR : PySem.W.kitOne K (.ref CL) (.ref CR) = some false ∧ PySem.W.notFirst K CR (.ref CL) = true)
    (x_CL_CP : PySem.W.kitOne K (.ref CL) (.ref CP) = some false ∧ PySem.W.notFirst K CP (.ref CL) = true)
    (x_CL_CQo : PySem.W.kitOne K (.ref CL) (.ref CQo) = some false ∧ PySem.W.notFirst K CQo (.ref CL) = true)
    (x_CL_CN : PySem.W.kitOne K (.ref CL) (.ref CN) = some false ∧ PySem.W.notFirst K CN (.ref CL) = true)
    (x_CL_CT : PySem.W.kitOne K (.ref CL) (.ref CT) = some false ∧ PySem.W.notFirst K CT (.ref CL) = true)
    (x_CR_CL : PySem.W.kitOne K (.ref CR) (.ref CL) = some false ∧ PySem.W.notFirst K CL (.ref CR) = true)
    (x_CR_CP : PySem.W.kitOne K (.ref CR) (.ref CP) = some false ∧ PySem.W.notFirst K CP (.ref CR) = true)
    (x_CR_CQo : PySem.W.kitOne K (.ref CR) (.ref CQo) = some false ∧ PySem.W.notFirst K CQo (.ref CR) = true)
    (x_CR_CN : PySem.W.kitOne K (.ref CR) (.ref CN) = some false ∧ PySem.W.notFirst K CN (.ref CR) = true)
    (x_CR_CT : PySem.W.kitOne K (.ref CR) (.ref CT) = some false ∧ PySem.W.notFirst K CT (.ref CR) = true)
    (x_CP_CL : PySem.W.kitOne K (.ref CP) (.ref CL) = some false ∧ PySem.W.notFirst K CL (.ref CP) = true)
    (x_CP_CR : PySem.W.kitOne K (.ref CP) (.ref CR) = some false ∧ PySem.W.notFirst K CR (.ref CP) = true)
    (x_CP_CQo : PySem.W.kitOne K (.ref CP) (.ref CQo) = some false ∧ PySem.W.notFirst K CQo (.ref CP) = true)
    (x_CP_CN : PySem.W.kitOne K (.ref CP) (.ref CN) = some false ∧ PySem.W.notFirst K CN (.ref CP) = true)
    (x_CP_CT : PySem.W.kitOne K (.ref CP) (.ref CT) = some false ∧ PySem.W.notFirst K CT (.ref CP) = true)
    (x_CQo_CL : PySem.W.kitOne K (.ref CQo) (.ref CL) = some false ∧ PySem.W.notFirst K CL (.ref CQo) = true)
    (x_CQo_CR : PySem.W.kitOne K (.ref CQo) (.ref CR) = some false ∧ PySem.W.notFirst K CR (.ref CQo) = true)
    (x_CQo_CP : PySem.W.kitOne K (.ref CQo) (.ref CP) = some false ∧ PySem.W.notFirst K CP (.ref CQo) = true)
    (x_CQo_CN : PySem.W.kitOne K (.ref CQo) (.ref CN) = some false ∧ PySem.W.notFirst K CN (.ref CQo) = true)
    (x_CQo_CT : PySem.W.kitOne K (.ref CQo) (.ref CT) = some false ∧ PySem.W.notFirst K CT (.ref CQo) = true)
    (x_CN_CL : PySem.W.kitOne K (.ref CN) (.ref CL) = some false ∧ PySem.W.notFirst K CL (.ref CN) = true)
    (x_CN_CR : PySem.W.kitOne K (.ref CN) (.ref CR) = some false ∧ PySem.W.notFirst K CR (.ref CN) = true)
    (x_CN_CP : PySem.W.kitOne K (.ref CN) (.ref CP) = some false ∧ PySem.W.notFirst K CP (.ref CN) = true)
    (x_CN_CQo : PySem.W.kitOne K (.ref CN) (.ref CQo) = some false ∧ PySem.W.notFirst K CQo (.ref CN) = true)
    (x_CN_CT : PySem.W.kitOne K (.ref CN) (.ref CT) = some false ∧ PySem.W.notFirst K CT (.ref CN) = true)
    (x_CT_CL : PySem.W.kitOne K (.ref CT) (.ref CL) = some false ∧ PySem.W.notFirst K CL (.ref CT) = true)
    (x_CT_CR : PySem.W.kitOne K (.ref CT) (.ref CR) = some false ∧ PySem.W.notFirst K CR (.ref CT) = true)
    (x_CT_CP : PySem.W.kitOne K (.ref CT) (.ref CP) = some false ∧ PySem.W.notFirst K CP (.ref CT) = true)
    (x_CT_CQo : PySem.W.kitOne K (.ref CT) (.ref CQo) = some false ∧ PySem.W.notFirst K CQo (.ref CT) = true)
    (x_CT_CN : PySem.W.kitOne K (.ref CT) (.ref CN) = some false ∧ PySem.W.notFirst K CN (.ref CT) = true)
    (nd : [CL, CR, CP, CQo, CN, CT].Nodup)
    (n_CL_slope : NoAttr K CL "slope")
    (n_CL_more : NoAttr K CL "more")
    (n_CR_top : NoAttr K CR "top")
    (n_CR_bottom : NoAttr K CR "bottom")
    (n_CP_terms : NoAttr K CP "terms")
    (n_CP_degree : NoAttr K CP "degree")
    (n_CQo_top : NoAttr K CQo "top")
    (n_CQo_bottom : NoAttr K CQo "bottom")
    (n_CN_base : NoAttr K CN "base")
    (n_CN_grow : NoAttr K CN "grow")
    (n_CN_own_sign : NoAttr K CN "own_sign")
    (n_CN_shift : NoAttr K CN "shift")
    (n_CN_first : NoAttr K CN "first")
    (n_CN_last : NoAttr K CN "last")
    (n_CT_source : NoAttr K CT "source")
    (n_CT_place : NoAttr K CT "place")
    (n_CT_share : NoAttr K CT "share")
    (z_str : mg "str" = none)
    (z_tuple : mg "tuple" = none)
    (z_enumerate : mg "enumerate" = none)
    (z_sum : mg "sum" = none)
    (z_max : mg "max" = none)
    (z_min : mg "min" = none)
    (eB : Sup.Err1 l.prog K mg "BadTable" "part" CB fB)
    (TH : HTx l.prog K mg CE CB fB)
    (hm_CL : PySem.W.mroIn K CL (.type "object") = some true)
    (ne_CL : PySem.W.findIn K (.ref CL) "__ne__" = some (some (.builtin "object.__ne__")))
    (hm_CN : PySem.W.mroIn K CN (.type "object") = some true)
    (ne_CN : PySem.W.findIn K (.ref CN) "__ne__" = some (some (.builtin "object.__ne__")))
    (hm_CT : PySem.W.mroIn K CT (.type "object") = some true)
    (ne_CT : PySem.W.findIn K (.ref CT) "__ne__" = some (some (.builtin "object.__ne__")))
    (B_ladd : BinF K CL (Operator.info .Add).2)
    (B_lsub : BinF K CL (Operator.info .Sub).2)
    (B_pmul : BinF K CP (Operator.info .Mult).2)
    (A_linit : HasD K CL "__init__" "Line.__init__" s_linit [.int 0] [])
    (A_rinit : HasD K CR "__init__" "Ratio.__init__" s_rinit [.int 1] [])
    (A_qinit : HasD K CQo "__init__" "Quotient.__init__" s_qinit [.int 1] [])
    (A_ninit : HasD K CN "__init__" "Run.__init__" s_ninit [.int 0] [])
    (A_pinit : HasM K CP "__init__" "Poly.__init__" s_pinit)
    (A_tinit : HasM K CT "__init__" "Point.__init__" s_tinit)
    (A_isnum : HasS K CR "is_number" "Ratio.is_number" s_isnum)
    (A_of : HasS K CR "of" "Ratio.of" s_of)
    (A_lrank : HasM K CL "rank" "Line.rank" s_lrank)
    (A_leq : HasM K CL "__eq__" "Line.__eq__" s_leq)
    (A_lneg : HasM K CL "__neg__" "Line.__neg__" s_lneg)
    (A_ladd : HasM K CL "__add__" "Line.__add__" s_ladd)
    (A_lsub : HasM K CL "__sub__" "Line.__sub__" s_lsub)
    (A_pmul : HasM K CP "__mul__" "Poly.__mul__" s_pmul)
    (A_peq : HasM K CP "__eq__" "Poly.__eq__" s_peq)
    (A_pbool : HasM K CP "__bool__" "Poly.__bool__" s_pbool)
    (A_qeq : HasM K CQo "__eq__" "Quotient.__eq__" s_qeq)
    (A_neq : HasM K CN "__eq__" "Run.__eq__" s_neq)
    (A_teq : HasM K CT "__eq__" "Point.__eq__" s_teq)
    (A_nsign : HasP K CN "sign" "Run.sign" s_nsign)
    (A_isintL : HasN K mg "is_integer_lines" "is_integer" s_isintL)
    (A_isint : HasND K mg "is_integer_runs" "is_integer" s_isint [.int 0])
    (A_asline : Has K mg "as_line" s_asline)
    (A_whole0 : Has K mg "is_whole" s_whole0)
    (A_cd : Has K mg "common_divisor" s_cd)
    (A_partsof : Has K mg "parts_of" s_partsof)
    (A_wend : Has K mg "without_end" s_wend)
    (A_termof : Has K mg "term_of" s_termof)
    (A_prodof : Has K mg "product_of" s_prodof)
    (A_aspoly : Has K mg "as_poly" s_aspoly)
    (A_asquo : Has K mg "as_quotient" s_asquo)
    (A_needline : Has K mg "need_line" s_needline)
    (A_qfor : Has K mg "quotient_for" s_qfor)
    (A_pen : Has K mg "_law_pen" s_pen)
    (A_draw : Has K mg "_law_draw" s_draw)
    (A_pick : Has K mg "_law_pick" s_pick)
    (A_line : Has K mg "_law_line" s_line)
    (A_number : Has K mg "_law_number" s_number)
    (A_asq : Has K mg "_law_as_quotient" s_asq)
    (A_odd : Has K mg "_law_odd" s_odd)
    (A_heard : Has K mg "_law_heard" s_heard)
    (A_rising : Has K mg "_law_rising" s_rising)
    (A_lrun : Has K mg "_law_run" s_lrun)
    (A_law : Has K mg "law" s_law)
    (A_runsR : HasC K mg "_law_runs_right" s_runsR c1) (T1 : TabF K h (c1, t1))
    (A_pointsR : HasC K mg "_law_points_right" s_pointsR c2) (T2 : TabF K h (c2, t2))
    (_n1_2 : ¬ t1 = t2)
    : LawG l w K 14 63 "_law_script" mg fa h := by
  obtain ⟨fl, fdl, hl, Fl⟩ := A_law.ex
  have e := hfa.symm.trans hl
  cases e
  obtain ⟨f_1, oc_1, od_1, kV_1, dc_1, pm_1, an_1, ct_1, sl_1, m_1, l_1, d_1, k_1⟩ := A_runsR.ex
  obtain ⟨f_2, oc_2, od_2, kV_2, dc_2, pm_2, an_2, ct_2, sl_2, m_2, l_2, d_2, k_2⟩ := A_pointsR.ex
  obtain ⟨fh, fdh, hh, Fh⟩ := A_heard.ex
  refine ⟨fdl, [(c1, t1), (c2, t2)], spLaw K [(t1, (("_law_runs_right" : Str) ++ ".<locals>.") ++ "<lambda>"), (t2, (("_law_points_right" : Str) ++ ".<locals>.") ++ "<lambda>")], fun p hp => ?_, fun s u => ?_, fun H a ns hn hb ht hs => ?_, fun base hK hN hT => ?_⟩
  · simp only [List.mem_cons, List.mem_nil_iff, or_false] at hp
    rcases hp with rfl | rfl
    · exact T1
    · exact T2
  · obtain ⟨oc, od, kV, doc, pm, an, cdv, ct, osl, rfl, _⟩ := Fl.ex
    exact .of_eq rfl
  · refine ⟨a, ns, rfl, hs, fun p hp => ?_, fun _ => rfl⟩
    simp only [List.mem_cons, List.mem_nil_iff, or_false] at hp
    rcases hp with rfl | rfl
    · exact LamX.TabS.nil (ht (c1, t1) (.head _))
    · exact LamX.TabS.nil (ht (c2, t2) (.tail _ (.head _)))
  · have TB1 := hT (c1, t1) (.head _)
    have TB2 := hT (c2, t2) (.tail _ (.head _))
    have fam : Fam K [CL, CR, CP, CQo, CN, CT] := fam6 o_CL o_CR o_CP o_CQo o_CN o_CT (six (six (.inl rfl) (.inr x_CL_CR) (.inr x_CL_CP) (.inr x_CL_CQo) (.inr x_CL_CN) (.inr x_CL_CT)) (six (.inr x_CR_CL) (.inl rfl) (.inr x_CR_CP) (.inr x_CR_CQo) (.inr x_CR_CN) (.inr x_CR_CT)) (six (.inr x_CP_CL) (.inr x_CP_CR) (.inl rfl) (.inr x_CP_CQo) (.inr x_CP_CN) (.inr x_CP_CT)) (six (.inr x_CQo_CL) (.inr x_CQo_CR) (.inr x_CQo_CP) (.inl rfl) (.inr x_CQo_CN) (.inr x_CQo_CT)) (six (.inr x_CN_CL) (.inr x_CN_CR) (.inr x_CN_CP) (.inr x_CN_CQo) (.inl rfl) (.inr x_CN_CT)) (six (.inr x_CT_CL) (.inr x_CT_CR) (.inr x_CT_CP) (.inr x_CT_CQo) (.inr x_CT_CN) (.inl rfl)))
    have T : NTx l.prog K mg [CL, CR, CP, CQo, CN, CT] CL CR CP CQo CN CT CB fB := ⟨⟨⟨bi, fam, (.tail _ ((.tail _ ((.head _))))), o_CP.cl, n_CP_terms, n_CP_degree, _g_CP, z_str, z_tuple, z_enumerate, z_sum, z_max, z_min⟩, (.tail _ ((.tail _ ((.tail _ ((.head _))))))), o_CQo.cl, n_CQo_top, n_CQo_bottom, _g_CQo⟩, ⟨bi, o_CL, o_CL.cl, n_CL_slope, n_CL_more, _g_CL, z_str, z_tuple⟩, ⟨bi, fam, (.tail _ ((.head _))), o_CR.cl, n_CR_top, n_CR_bottom, _g_CR, z_str, z_tuple⟩, (.head _), (.tail _ ((.tail _ ((.tail _ ((.tail _ ((.head _))))))))), (.tail _ ((.tail _ ((.tail _ ((.tail _ ((.tail _ ((.head _))))))))))), nd, o_CN.cl, o_CT.cl, sixS n_CN_base n_CN_grow n_CN_own_sign n_CN_shift n_CN_first n_CN_last, three n_CT_source n_CT_place n_CT_share, _g_CL, _g_CR, _g_CN, _g_CT, eB, hm_CL, ne_CL⟩
    have D_isintL : DefAt l.prog w K mg base CX0 1 "is_integer_lines" ["thing"] spIntL := defN_at A_isintL (fun f fd F => ok_isintL F bi) fun _ _ _ _ _ _ us hl => match us, hl with | [_], _ => rfl
    have D_pen : DefAt l.prog w K mg base CX0 1 "_law_pen" ["_law_script"] (spPen K) := def_at A_pen (fun f fd F => ok_pen F bi) fun _ _ _ _ _ _ us hl => match us, hl with | [_], _ => rfl
    have D_draw : DefAt l.prog w K mg base CX0 1 "_law_draw" ["_law_pen_here", "_law_many"] spDrawC := def_at A_draw (fun f fd F => ok_drawC F bi) fun _ _ _ _ _ _ us hl => match us, hl with | [_, _], _ => rfl
    have D_pick : DefAt l.prog w K mg base CX0 2 "_law_pick" ["_law_pen_here", "_law_some"] spPickC := def_at A_pick (fun f fd F => ok_pickC F bi D_draw) fun _ _ _ _ _ _ us hl => match us, hl with | [_, _], _ => rfl
    have M_Line : MakeAt l.prog w K mg base (L2.CX l.prog w) 3 "Line" CL ["self", "slope", "more"] (spLinit CL) [] := make_all A_linit _g_CL mk_CL kp_CL (fun f fd F => ok_linit F T.tl D_isintL) (by simp) fun _ _ _ _ _ _ _ us its hl hi => match us, hl, its, hi with | [_, _, _], _, [_], _ => ⟨_, rfl, rfl⟩
    have D_asline : DefAt l.prog w K mg base CX0 5 "as_line" ["thing"] (spAs CL) := def_at A_asline (fun f fd F => ok_asline F T.tl M_Line) fun _ _ _ _ _ _ us hl => match us, hl with | [_], _ => rfl
    have X_lrank : MethAt l.prog w K mg base CX0 1 CL "rank" ["self"] (spRank CL) := meth_at A_lrank (fun f fd F => ok_lrank F T.tl) fun _ _ _ _ _ _ us hl => match us, hl with | [_], _ => rfl
    have CE_leq : CmpAt l.prog w K mg base CX0 2 CL "__eq__" ["self", "other"] (spLeq CL) := cmp_at A_leq (fun f fd F => ok_leq F T.tl X_lrank) fun _ _ _ _ _ _ us hl => match us, hl with | [_, _], _ => rfl
    have O_lneg : CmpAt l.prog w K mg base CX0 5 CL "__neg__" ["self"] (spLneg CL) := cmp_at A_lneg (fun f fd F => ok_lneg F T.tl M_Line) fun _ _ _ _ _ _ us hl => match us, hl with | [_], _ => rfl
    have O_ladd : CmpAt l.prog w K mg base CX0 6 CL "__add__" ["self", "other"] (spLadd CL) := cmp_at A_ladd (fun f fd F => ok_ladd F T.tl D_asline M_Line) fun _ _ _ _ _ _ us hl => match us, hl with | [_, _], _ => rfl
    have O_lsub : CmpAt l.prog w K mg base CX0 7 CL "__sub__" ["self", "other"] (spLsub CL) := cmp_at A_lsub (fun f fd F => ok_lsub F T.tl D_asline O_lneg O_ladd B_ladd) fun _ _ _ _ _ _ us hl => match us, hl with | [_, _], _ => rfl
    have D_whole0 : DefAt l.prog w K mg base CX0 1 "is_whole" ["value"] (spWh [CL, CR, CP, CQo, CN, CT]) := def_at A_whole0 (fun f fd F => ok_whole0 F bi fam) fun _ _ _ _ _ _ us hl => match us, hl with | [_], _ => rfl
    have D_cd : DefAt l.prog w K mg base CX0 1 "common_divisor" ["one", "other"] spCd := def_at A_cd (fun f fd F => ok_cd F bi) fun _ _ _ _ _ _ us hl => match us, hl with | [_, _], _ => rfl
    have D_partsof : DefAt l.prog w K mg base CX0 1 "parts_of" ["number"] (spParts0 CR) := def_at A_partsof (fun f fd F => ok_partsof F T.tr) fun _ _ _ _ _ _ us hl => match us, hl with | [_], _ => rfl
    have M_Ratio : MakeAt l.prog w K mg base (L2.CX l.prog w) 3 "Ratio" CR ["self", "top", "bottom"] (spRinit CR) [] := make_all A_rinit _g_CR mk_CR kp_CR (fun f fd F => ok_rinit F T.tr D_whole0 D_cd) (by simp) fun _ _ _ _ _ _ _ us its hl hi => match us, hl, its, hi with | [_, _, _], _, [_], _ => ⟨_, rfl, rfl⟩
    have S_is_number : StatAt l.prog w K mg base CX0 2 CR "is_number" ["thing"] (spIsnum [CL, CR, CP, CQo, CN, CT] CR) := stat_at A_isnum (fun f fd F => ok_isnum F T.tr D_whole0) fun _ _ _ _ _ _ us hl => match us, hl with | [_], _ => rfl
    have S_of : StatAt l.prog w K mg base CX0 5 CR "of" ["number"] (spOf CR) := stat_at A_of (fun f fd F => ok_of F T.tr S_is_number D_partsof M_Ratio) fun _ _ _ _ _ _ us hl => match us, hl with | [_], _ => rfl
    have D_wend : DefAt l.prog w K mg base CX0 1 "without_end" ["terms"] spWend := def_at A_wend (fun f fd F => ok_wend F T.toPTx) fun _ _ _ _ _ _ us hl => match us, hl with | [_], _ => rfl
    have D_termof : DefAt l.prog w K mg base CX0 1 "term_of" ["terms", "k"] (spTermof K) := def_at A_termof (fun f fd F => ok_termof F T.toPTx) fun _ _ _ _ _ _ us hl => match us, hl with | [_, _], _ => rfl
    have M_Poly : MakeR l.prog w K mg base (L2.CX l.prog w) 3 "Poly" CP (spPoly CP) := makeR_at A_pinit _g_CP mk_CP kp_CP fun f _ _ _ _ _ _ _ _ _ lk hcd => ok_pinit (fd := PySem.W.fnOf "" "" default [] default .none .none .none .none none .none .none) lk hcd T.toPTx D_whole0 D_wend
    have CE_peq : CmpAt l.prog w K mg base CX0 1 CP "__eq__" ["self", "other"] (spPeq CP) := cmp_at A_peq (fun f fd F => ok_peq F T.toPTx) fun _ _ _ _ _ _ us hl => match us, hl with | [_, _], _ => rfl
    have B_pbool : CmpAt l.prog w K mg base CX0 1 CP "__bool__" ["self"] (spPbool CP) := cmp_at A_pbool (fun f fd F => ok_pbool F T.toPTx) fun _ _ _ _ _ _ us hl => match us, hl with | [_], _ => rfl
    have D_prodof : DefAt l.prog w K mg base CX0 2 "product_of" ["one", "other"] spProd := def_at A_prodof (fun f fd F => ok_prodof F T.toPTx D_termof) fun _ _ _ _ _ _ us hl => match us, hl with | [_, _], _ => rfl
    have O_pmul : CmpAt l.prog w K mg base CX0 5 CP "__mul__" ["self", "other"] (spPmul CP) := cmp_at A_pmul (fun f fd F => ok_pmul F T.toPTx D_whole0 D_prodof M_Poly) fun _ _ _ _ _ _ us hl => match us, hl with | [_, _], _ => rfl
    have D_aspoly : DefAt l.prog w K mg base CX0 5 "as_poly" ["value", "at"] (spAspoly CP) := def_at A_aspoly (fun f fd F => ok_aspoly F T.toPTx D_whole0 M_Poly) fun _ _ _ _ _ _ us hl => match us, hl with | [_, _], _ => rfl
    have M_Quotient : MakeAt l.prog w K mg base (L2.CX l.prog w) 6 "Quotient" CQo ["self", "top", "bottom"] (spQinit CQo CP) [] := make_all A_qinit _g_CQo mk_CQo kp_CQo (fun f fd F => ok_qinit F T.toQTx D_aspoly B_pbool) (by simp) fun _ _ _ _ _ _ _ us its hl hi => match us, hl, its, hi with | [_, _, _], _, [_], _ => ⟨_, rfl, rfl⟩
    have M_Quotient1 : MakeAt l.prog w K mg base (L2.CX l.prog w) 6 "Quotient" CQo ["self", "top", "bottom"] (spQinit CQo CP) [.int 1] := make_dfl (n := 2) A_qinit _g_CQo mk_CQo kp_CQo (fun f fd F => ok_qinit F T.toQTx D_aspoly B_pbool) (by simp) rfl fun _ _ _ _ _ _ _ us its hl hi => match us, hl, its, hi with | [_, _], _, [_], _ => ⟨_, rfl, rfl⟩
    have D_asquo : DefAt l.prog w K mg base CX0 1 "as_quotient" ["value"] (spAsquo CQo CP) := def_at A_asquo (fun f fd F => ok_asquo F T.toQTx) fun _ _ _ _ _ _ us hl => match us, hl with | [_], _ => rfl
    have CE_qeq : CmpAt l.prog w K mg base CX0 7 CQo "__eq__" ["self", "other"] (spQeq CQo CP) := cmp_at A_qeq (fun f fd F => ok_qeq F T.toQTx D_asquo O_pmul B_pmul CE_peq) fun _ _ _ _ _ _ us hl => match us, hl with | [_, _], _ => rfl
    have D_isint : DefAt l.prog w K mg base (L2.CX l.prog w) 1 "is_integer_runs" ["thing", "least"] (spIntR [CL, CR, CP, CQo, CN, CT]) := defND_at A_isint (fun f fd F => ok_isint F bi fam) (by simp) fun _ _ _ _ _ _ _ us its hl hi => match us, hl, its, hi with | [_, _], _, [_], _ => ⟨_, rfl, rfl⟩
    have D_needline : DefAt l.prog w K mg base (L2.CX l.prog w) 1 "need_line" ["name", "value"] (spNeedL [CL, CR, CP, CQo, CN, CT] CL CB) := def_at A_needline (fun f fd F => ok_needline F T) fun _ _ _ _ _ _ us hl => match us, hl with | [_, _], _ => rfl
    have D_qfor : DefAt l.prog w K mg base (L2.CX l.prog w) 8 "quotient_for" ["name", "value"] (spQfor [CL, CR, CP, CQo, CN, CT] CR CP CQo CB) := def_at A_qfor (fun f fd F => ok_qfor F T S_is_number S_of M_Poly M_Quotient) fun _ _ _ _ _ _ us hl => match us, hl with | [_, _], _ => rfl
    have M_Run : MakeAt l.prog w K mg base (L2.CX l.prog w) 9 "Run" CN ["self", "sign", "shift", "first", "last", "base", "grow"] (spNinit [CL, CR, CP, CQo, CN, CT] CL CR CP CQo CN CB) [] := make_all A_ninit _g_CN mk_CN kp_CN (fun f fd F => ok_ninit F T D_isint D_needline D_qfor) (by simp) fun _ _ _ _ _ _ _ us its hl hi => match us, hl, its, hi with | [_, _, _, _, _, _, _], _, [_], _ => ⟨_, rfl, rfl⟩
    have M_Run1 : MakeAt l.prog w K mg base (L2.CX l.prog w) 9 "Run" CN ["self", "sign", "shift", "first", "last", "base", "grow"] (spNinit [CL, CR, CP, CQo, CN, CT] CL CR CP CQo CN CB) [.int 0] := make_dfl (n := 6) A_ninit _g_CN mk_CN kp_CN (fun f fd F => ok_ninit F T D_isint D_needline D_qfor) (by simp) rfl fun _ _ _ _ _ _ _ us its hl hi => match us, hl, its, hi with | [_, _, _, _, _, _], _, [_], _ => ⟨_, rfl, rfl⟩
    have MK_Run : MakeK l.prog w K mg base (L2.CX l.prog w) 9 "Run" CN ["self", "sign", "shift", "first", "last", "base", "grow"] ["grow", "base", "last", "first", "shift", "sign"] (spNinit [CL, CR, CP, CQo, CN, CT] CL CR CP CQo CN CB) gSw := make_sw A_ninit _g_CN mk_CN kp_CN (fun f fd F => ok_ninit F T D_isint D_needline D_qfor) (by simp) fun _ _ _ _ _ _ _ us its ws h1 h2 h3 => match us, h1, its, h2, ws, h3 with | [_], _, [_], _, [_, _, _, _, _, _], _ => ⟨_, rfl, rfl⟩
    have PR_sign : PropAt l.prog w K mg base CN "sign" "own_sign" := prop_at A_nsign sc_nsign rfl rfl T.clN (T.noN _ (by simp)) fun _ _ _ _ _ _ us hl => match us, hl with | [_], _ => rfl
    have CE_neq : CmpAt l.prog w K mg base CX0 9 CN "__eq__" ["self", "other"] (spNeq [CL, CR, CP, CQo, CN, CT] CL CP CQo CN) := cmp_at A_neq (fun f fd F => ok_neq F T PR_sign CE_leq CE_qeq) fun _ _ _ _ _ _ us hl => match us, hl with | [_, _], _ => rfl
    have M_Point : MakeAt l.prog w K mg base (L2.CX l.prog w) 9 "Point" CT ["self", "source", "place", "share"] (spTinit [CL, CR, CP, CQo, CN, CT] CL CR CP CQo CT CB) [] := make_m A_tinit _g_CT mk_CT kp_CT (fun f fd F => ok_tinit F T D_needline D_qfor) fun _ _ _ _ _ _ us hl => match us, hl with | [_, _, _, _], _ => rfl
    have MK_Point : MakeK l.prog w K mg base (L2.CX l.prog w) 9 "Point" CT ["self", "source", "place", "share"] ["share", "place", "source"] (spTinit [CL, CR, CP, CQo, CN, CT] CL CR CP CQo CT CB) gSw := makeK_m A_tinit _g_CT mk_CT kp_CT (fun f fd F => ok_tinit F T D_needline D_qfor) fun _ _ _ _ _ _ us ws h1 h2 => match us, h1, ws, h2 with | [_], _, [_, _, _], _ => rfl
    have CE_teq : CmpAt l.prog w K mg base CX0 9 CT "__eq__" ["self", "other"] (spTeq [CL, CR, CP, CQo, CN, CT] CL CP CQo CT) := cmp_at A_teq (fun f fd F => ok_teq F T CE_leq CE_qeq) fun _ _ _ _ _ _ us hl => match us, hl with | [_, _], _ => rfl
    have D_line : DefAt l.prog w K mg base CX0 5 "_law_line" ["_law_pen_here"] (spLine CL) := def_at A_line (fun f fd F => ok_line F T.tl D_draw M_Line) fun _ _ _ _ _ _ us hl => match us, hl with | [_], _ => rfl
    have D_rising : DefAt l.prog w K mg base CX0 8 "_law_rising" ["_law_pen_here"] (spRising CL) := def_at A_rising (fun f fd F => ok_rising F T.tl D_draw D_line O_ladd B_ladd M_Line) fun _ _ _ _ _ _ us hl => match us, hl with | [_], _ => rfl
    have D_odd : DefAt l.prog w K mg base CX0 5 "_law_odd" ["_law_pen_here"] (spOdd CP) := def_at A_odd (fun f fd F => ok_odd F T D_pick M_Poly) fun _ _ _ _ _ _ us hl => match us, hl with | [_], _ => rfl
    have D_number : DefAt l.prog w K mg base CX0 8 "_law_number" ["_law_pen_here"] (spNumber CR CP CQo) := def_at A_number (fun f fd F => ok_number F T D_draw D_pick M_Ratio M_Poly M_Quotient) fun _ _ _ _ _ _ us hl => match us, hl with | [_], _ => rfl
    have D_asq : DefAt l.prog w K mg base CX0 8 "_law_as_quotient" ["_law_number_here"] (spAsq CR CP CQo) := def_at A_asq (fun f fd F => ok_asq F T M_Poly M_Quotient M_Quotient1) fun _ _ _ _ _ _ us hl => match us, hl with | [_], _ => rfl
    have D_lrun : DefAt l.prog w K mg base CX0 11 "_law_run" ["_law_parts"] (spLrun CL CR CP CQo CN) := def_at A_lrun (fun f fd F => ok_lrun F T M_Run1 MK_Run) fun _ _ _ _ _ _ us hl => match us, hl with | [_], _ => rfl
    have DH : HeardAt K mg := ⟨⟨fh, fdh, Fh, hh, Fh.binds fun _ _ _ _ _ _ us hl => match us, hl with | [_], _ => rfl⟩⟩
    have un1 : ∀ p ∈ [(t1, (("_law_runs_right" : Str) ++ ".<locals>.") ++ "<lambda>"), (t2, (("_law_points_right" : Str) ++ ".<locals>.") ++ "<lambda>")], p.1 = t1 → p.2 = (("_law_runs_right" : Str) ++ ".<locals>.") ++ "<lambda>" := by
      intro p hp e
      simp only [List.mem_cons, List.mem_nil_iff, or_false] at hp
      rcases hp with rfl | rfl
      · exact rfl
      · exact absurd e (Ne.symm _n1_2)
    have D_runsR : DefG l.prog w K mg base CX0 13 "_law_runs_right" ["_law_pen_here"] (spRunsR [(t1, (("_law_runs_right" : Str) ++ ".<locals>.") ++ "<lambda>"), (t2, (("_law_points_right" : Str) ++ ".<locals>.") ++ "<lambda>")]) := ⟨f_1, _, ok_runsR ⟨⟨oc_1, od_1, kV_1, dc_1, pm_1, an_1, ct_1, sl_1, rfl, l_1, d_1⟩, k_1⟩ T TH DH hm_CN ne_CN TB1 (.head _) un1 D_draw D_line D_rising D_number D_asq D_odd D_lrun PR_sign CE_neq CE_qeq O_ladd B_ladd O_lsub B_lsub M_Ratio M_Run M_Run1, m_1, k_1, .all fun us hl => match us, hl with | [_], _ => rfl⟩
    have un2 : ∀ p ∈ [(t1, (("_law_runs_right" : Str) ++ ".<locals>.") ++ "<lambda>"), (t2, (("_law_points_right" : Str) ++ ".<locals>.") ++ "<lambda>")], p.1 = t2 → p.2 = (("_law_points_right" : Str) ++ ".<locals>.") ++ "<lambda>" := by
      intro p hp e
      simp only [List.mem_cons, List.mem_nil_iff, or_false] at hp
      rcases hp with rfl | rfl
      · exact absurd e _n1_2
      · exact rfl
    have D_pointsR : DefG l.prog w K mg base CX0 13 "_law_points_right" ["_law_pen_here"] (spPointsR [(t1, (("_law_runs_right" : Str) ++ ".<locals>.") ++ "<lambda>"), (t2, (("_law_points_right" : Str) ++ ".<locals>.") ++ "<lambda>")]) := ⟨f_2, _, ok_pointsR ⟨⟨oc_2, od_2, kV_2, dc_2, pm_2, an_2, ct_2, sl_2, rfl, l_2, d_2⟩, k_2⟩ T TH DH hm_CT ne_CT TB2 (.tail _ (.head _)) un2 D_line D_pick D_number D_asq D_odd CE_teq CE_qeq O_ladd B_ladd O_lsub B_lsub M_Poly M_Point MK_Point, m_2, k_2, .all fun us hl => match us, hl with | [_], _ => rfl⟩
    exact ok_law Fl bi D_pen D_runsR D_pointsR
end My
set_option maxHeartbeats 0
namespace HeadL
open PySem PySem.Spec PyProof.Rows L2 My
abbrev P0 : Program := (PySem.Challenge.rw_clipfades_k48_runs_and_points_made).prog
def fs : List (PySem.W.Frag → Bool) := [fun K => (He.Fa.glo "Line").ok K,
  fun K => (He.Fa.glo "Ratio").ok K,
  fun K => (He.Fa.glo "Poly").ok K,
  fun K => (He.Fa.glo "Quotient").ok K,
  fun K => (He.Fa.glo "Run").ok K,
  fun K => (He.Fa.glo "Point").ok K,
  fun K => (He.Fa.glo "BadTable").ok K,
  fun K => (He.Fa.glo "ClipError").ok K,
  fun K => My.attB K (He.ga K "BadTable") "__init__",
  fun K => (He.Fa.free "len").ok K,
  fun K => (He.Fa.free "abs").ok K,
  fun K => (He.Fa.free "int").ok K,
  fun K => (He.Fa.free "bool").ok K,
  fun K => (He.Fa.free "list").ok K,
  fun K => (He.Fa.free "repr").ok K,
  fun K => (He.Fa.free "isinstance").ok K,
  fun K => (He.Fa.free "range").ok K,
  fun K => My.clsB K (He.ga K "Line"),
  fun K => He.eqO (PySem.W.findIn K (.ref (He.ga K "Line")) "__class__") (some (some (.builtin "object.__class__"))),
  fun K => He.eqO (PySem.W.specialIn K (.builtin "object.__class__") "__get__") (some (some (.builtin "getset_descriptor.__get__"))),
  fun K => decide (PySem.W.takesIn K (.builtin "object.__class__") = some true),
  fun K => decide (PySem.W.mroIn K (He.ga K "Line") (.type "object") = some true),
  fun K => decide (PySem.W.kitOne K (.ref (He.ga K "Line")) (.ref (He.ga K "Line")) = some true),
  fun K => decide (PySem.W.kitOne K (.ref (He.ga K "Line")) (.type "int") = some false),
  fun K => My.kindsB K (He.ga K "Line"),
  fun K => PySem.W.notFirst K (He.ga K "Line") (.ref (He.ga K "Line")),
  fun K => PySem.W.makesIn K (He.ga K "Line"),
  fun K => PySem.W.keepIn K (.ref (He.ga K "Line")),
  fun K => My.clsB K (He.ga K "Ratio"),
  fun K => He.eqO (PySem.W.findIn K (.ref (He.ga K "Ratio")) "__class__") (some (some (.builtin "object.__class__")))] ++ [fun K => decide (PySem.W.mroIn K (He.ga K "Ratio") (.type "object") = some true),
  fun K => decide (PySem.W.kitOne K (.ref (He.ga K "Ratio")) (.ref (He.ga K "Ratio")) = some true),
  fun K => decide (PySem.W.kitOne K (.ref (He.ga K "Ratio")) (.type "int") = some false),
  fun K => My.kindsB K (He.ga K "Ratio"),
  fun K => PySem.W.notFirst K (He.ga K "Ratio") (.ref (He.ga K "Ratio")),
  fun K => PySem.W.makesIn K (He.ga K "Ratio"),
  fun K => PySem.W.keepIn K (.ref (He.ga K "Ratio")),
  fun K => My.clsB K (He.ga K "Poly"),
  fun K => He.eqO (PySem.W.findIn K (.ref (He.ga K "Poly")) "__class__") (some (some (.builtin "object.__class__"))),
  fun K => decide (PySem.W.mroIn K (He.ga K "Poly") (.type "object") = some true),
  fun K => decide (PySem.W.kitOne K (.ref (He.ga K "Poly")) (.ref (He.ga K "Poly")) = some true),
  fun K => decide (PySem.W.kitOne K (.ref (He.ga K "Poly")) (.type "int") = some false),
  fun K => My.kindsB K (He.ga K "Poly"),
  fun K => PySem.W.notFirst K (He.ga K "Poly") (.ref (He.ga K "Poly")),
  fun K => PySem.W.makesIn K (He.ga K "Poly"),
  fun K => PySem.W.keepIn K (.ref (He.ga K "Poly")),
  fun K => My.clsB K (He.ga K "Quotient"),
  fun K => He.eqO (PySem.W.findIn K (.ref (He.ga K "Quotient")) "__class__") (some (some (.builtin "object.__class__"))),
  fun K => decide (PySem.W.mroIn K (He.ga K "Quotient") (.type "object") = some true),
  fun K => decide (PySem.W.kitOne K (.ref (He.ga K "Quotient")) (.ref (He.ga K "Quotient")) = some true),
  fun K => decide (PySem.W.kitOne K (.ref (He.ga K "Quotient")) (.type "int") = some false),
  fun K => My.kindsB K (He.ga K "Quotient"),
  fun K => PySem.W.notFirst K (He.ga K "Quotient") (.ref (He.ga K "Quotient")),
  fun K => PySem.W.makesIn K (He.ga K "Quotient"),
  fun K => PySem.W.keepIn K (.ref (He.ga K "Quotient")),
  fun K => My.clsB K (He.ga K "Run"),
  fun K => He.eqO (PySem.W.findIn K (.ref (He.ga K "Run")) "__class__") (some (some (.builtin "object.__class__"))),
  fun K => decide (PySem.W.mroIn K (He.ga K "Run") (.type "object") = some true),
  fun K => decide (PySem.W.kitOne K (.ref (He.ga K "Run")) (.ref (He.ga K "Run")) = some true),
  fun K => decide (PySem.W.kitOne K (.ref (He.ga K "Run")) (.type "int") = some false)] ++ [fun K => My.kindsB K (He.ga K "Run"),
  fun K => PySem.W.notFirst K (He.ga K "Run") (.ref (He.ga K "Run")),
  fun K => PySem.W.makesIn K (He.ga K "Run"),
  fun K => PySem.W.keepIn K (.ref (He.ga K "Run")),
  fun K => My.clsB K (He.ga K "Point"),
  fun K => He.eqO (PySem.W.findIn K (.ref (He.ga K "Point")) "__class__") (some (some (.builtin "object.__class__"))),
  fun K => decide (PySem.W.mroIn K (He.ga K "Point") (.type "object") = some true),
  fun K => decide (PySem.W.kitOne K (.ref (He.ga K "Point")) (.ref (He.ga K "Point")) = some true),
  fun K => decide (PySem.W.kitOne K (.ref (He.ga K "Point")) (.type "int") = some false),
  fun K => My.kindsB K (He.ga K "Point"),
  fun K => PySem.W.notFirst K (He.ga K "Point") (.ref (He.ga K "Point")),
  fun K => PySem.W.makesIn K (He.ga K "Point"),
  fun K => PySem.W.keepIn K (.ref (He.ga K "Point")),
  fun K => decide (PySem.W.kitOne K (.ref (He.ga K "Line")) (.ref (He.ga K "Ratio")) = some false),
  fun K => PySem.W.notFirst K (He.ga K "Ratio") (.ref (He.ga K "Line")),
  fun K => decide (PySem.W.kitOne K (.ref (He.ga K "Line")) (.ref (He.ga K "Poly")) = some false),
  fun K => PySem.W.notFirst K (He.ga K "Poly") (.ref (He.ga K "Line")),
  fun K => decide (PySem.W.kitOne K (.ref (He.ga K "Line")) (.ref (He.ga K "Quotient")) = some false),
  fun K => PySem.W.notFirst K (He.ga K "Quotient") (.ref (He.ga K "Line")),
  fun K => decide (PySem.W.kitOne K (.ref (He.ga K "Line")) (.ref (He.ga K "Run")) = some false),
  fun K => PySem.W.notFirst K (He.ga K "Run") (.ref (He.ga K "Line")),
  fun K => decide (PySem.W.kitOne K (.ref (He.ga K "Line")) (.ref (He.ga K "Point")) = some false),
  fun K => PySem.W.notFirst K (He.ga K "Point") (.ref (He.ga K "Line")),
  fun K => decide (PySem.W.kitOne K (.ref (He.ga K "Ratio")) (.ref (He.ga K "Line")) = some false),
  fun K => PySem.W.notFirst K (He.ga K "Line") (.ref (He.ga K "Ratio")),
  fun K => decide (PySem.W.kitOne K (.ref (He.ga K "Ratio")) (.ref (He.ga K "Poly")) = some false),
  fun K => PySem.W.notFirst K (He.ga K "Poly") (.ref (He.ga K "Ratio")),
  fun K => decide (PySem.W.kitOne K (.ref (He.ga K "Ratio")) (.ref (He.ga K "Quotient")) = some false),
  fun K => PySem.W.notFirst K (He.ga K "Quotient") (.ref (He.ga K "Ratio")),
  fun K => decide (PySem.W.kitOne K (.ref (He.ga K "Ratio")) (.ref (He.ga K "Run")) = some false)] ++ [fun K => PySem.W.notFirst K (He.ga K "Run") (.ref (He.ga K "Ratio")),
  fun K => decide (PySem.W.kitOne K (.ref (He.ga K "Ratio")) (.ref (He.ga K "Point")) = some false),
  fun K => PySem.W.notFirst K (He.ga K "Point") (.ref (He.ga K "Ratio")),
  fun K => decide (PySem.W.kitOne K (.ref (He.ga K "Poly")) (.ref (He.ga K "Line")) = some false),
  fun K => PySem.W.notFirst K (He.ga K "Line") (.ref (He.ga K "Poly")),
  fun K => decide (PySem.W.kitOne K (.ref (He.ga K "Poly")) (.ref (He.ga K "Ratio")) = some false),
  fun K => PySem.W.notFirst K (He.ga K "Ratio") (.ref (He.ga K "Poly")),
  fun K => decide (PySem.W.kitOne K (.ref (He.ga K "Poly")) (.ref (He.ga K "Quotient")) = some false),
  fun K => PySem.W.notFirst K (He.ga K "Quotient") (.ref (He.ga K "Poly")),
  fun K => decide (PySem.W.kitOne K (.ref (He.ga K "Poly")) (.ref (He.ga K "Run")) = some false),
  fun K => PySem.W.notFirst K (He.ga K "Run") (.ref (He.ga K "Poly")),
  fun K => decide (PySem.W.kitOne K (.ref (He.ga K "Poly")) (.ref (He.ga K "Point")) = some false),
  fun K => PySem.W.notFirst K (He.ga K "Point") (.ref (He.ga K "Poly")),
  fun K => decide (PySem.W.kitOne K (.ref (He.ga K "Quotient")) (.ref (He.ga K "Line")) = some false),
  fun K => PySem.W.notFirst K (He.ga K "Line") (.ref (He.ga K "Quotient")),
  fun K => decide (PySem.W.kitOne K (.ref (He.ga K "Quotient")) (.ref (He.ga K "Ratio")) = some false),
  fun K => PySem.W.notFirst K (He.ga K "Ratio") (.ref (He.ga K "Quotient")),
  fun K => decide (PySem.W.kitOne K (.ref (He.ga K "Quotient")) (.ref (He.ga K "Poly")) = some false),
  fun K => PySem.W.notFirst K (He.ga K "Poly") (.ref (He.ga K "Quotient")),
  fun K => decide (PySem.W.kitOne K (.ref (He.ga K "Quotient")) (.ref (He.ga K "Run")) = some false),
  fun K => PySem.W.notFirst K (He.ga K "Run") (.ref (He.ga K "Quotient")),
  fun K => decide (PySem.W.kitOne K (.ref (He.ga K "Quotient")) (.ref (He.ga K "Point")) = some false),
  fun K => PySem.W.notFirst K (He.ga K "Point") (.ref (He.ga K "Quotient")),
  fun K => decide (PySem.W.kitOne K (.ref (He.ga K "Run")) (.ref (He.ga K "Line")) = some false),
  fun K => PySem.W.notFirst K (He.ga K "Line") (.ref (He.ga K "Run")),
  fun K => decide (PySem.W.kitOne K (.ref (He.ga K "Run")) (.ref (He.ga K "Ratio")) = some false),
  fun K => PySem.W.notFirst K (He.ga K "Ratio") (.ref (He.ga K "Run")),
  fun K => decide (PySem.W.kitOne K (.ref (He.ga K "Run")) (.ref (He.ga K "Poly")) = some false),
  fun K => PySem.W.notFirst K (He.ga K "Poly") (.ref (He.ga K "Run")),
  fun K => decide (PySem.W.kitOne K (.ref (He.ga K "Run")) (.ref (He.ga K "Quotient")) = some false)] ++ [fun K => PySem.W.notFirst K (He.ga K "Quotient") (.ref (He.ga K "Run")),
  fun K => decide (PySem.W.kitOne K (.ref (He.ga K "Run")) (.ref (He.ga K "Point")) = some false),
  fun K => PySem.W.notFirst K (He.ga K "Point") (.ref (He.ga K "Run")),
  fun K => decide (PySem.W.kitOne K (.ref (He.ga K "Point")) (.ref (He.ga K "Line")) = some false),
  fun K => PySem.W.notFirst K (He.ga K "Line") (.ref (He.ga K "Point")),
  fun K => decide (PySem.W.kitOne K (.ref (He.ga K "Point")) (.ref (He.ga K "Ratio")) = some false),
  fun K => PySem.W.notFirst K (He.ga K "Ratio") (.ref (He.ga K "Point")),
  fun K => decide (PySem.W.kitOne K (.ref (He.ga K "Point")) (.ref (He.ga K "Poly")) = some false),
  fun K => PySem.W.notFirst K (He.ga K "Poly") (.ref (He.ga K "Point")),
  fun K => decide (PySem.W.kitOne K (.ref (He.ga K "Point")) (.ref (He.ga K "Quotient")) = some false),
  fun K => PySem.W.notFirst K (He.ga K "Quotient") (.ref (He.ga K "Point")),
  fun K => decide (PySem.W.kitOne K (.ref (He.ga K "Point")) (.ref (He.ga K "Run")) = some false),
  fun K => PySem.W.notFirst K (He.ga K "Run") (.ref (He.ga K "Point")),
  fun K => decide ([(He.ga K "Line"), (He.ga K "Ratio"), (He.ga K "Poly"), (He.ga K "Quotient"), (He.ga K "Run"), (He.ga K "Point")].Nodup),
  fun K => He.eqO (PySem.W.findIn K (.ref (He.ga K "Line")) "slope") (some none),
  fun K => He.eqO (PySem.W.findIn K (.ref (He.ga K "Line")) "more") (some none),
  fun K => He.eqO (PySem.W.findIn K (.ref (He.ga K "Ratio")) "top") (some none),
  fun K => He.eqO (PySem.W.findIn K (.ref (He.ga K "Ratio")) "bottom") (some none),
  fun K => He.eqO (PySem.W.findIn K (.ref (He.ga K "Poly")) "terms") (some none),
  fun K => He.eqO (PySem.W.findIn K (.ref (He.ga K "Poly")) "degree") (some none),
  fun K => He.eqO (PySem.W.findIn K (.ref (He.ga K "Quotient")) "top") (some none),
  fun K => He.eqO (PySem.W.findIn K (.ref (He.ga K "Quotient")) "bottom") (some none),
  fun K => He.eqO (PySem.W.findIn K (.ref (He.ga K "Run")) "base") (some none),
  fun K => He.eqO (PySem.W.findIn K (.ref (He.ga K "Run")) "grow") (some none),
  fun K => He.eqO (PySem.W.findIn K (.ref (He.ga K "Run")) "own_sign") (some none),
  fun K => He.eqO (PySem.W.findIn K (.ref (He.ga K "Run")) "shift") (some none),
  fun K => He.eqO (PySem.W.findIn K (.ref (He.ga K "Run")) "first") (some none),
  fun K => He.eqO (PySem.W.findIn K (.ref (He.ga K "Run")) "last") (some none),
  fun K => He.eqO (PySem.W.findIn K (.ref (He.ga K "Point")) "source") (some none),
  fun K => He.eqO (PySem.W.findIn K (.ref (He.ga K "Point")) "place") (some none)] ++ [fun K => He.eqO (PySem.W.findIn K (.ref (He.ga K "Point")) "share") (some none),
  fun K => (He.Fa.free "str").ok K,
  fun K => (He.Fa.free "tuple").ok K,
  fun K => (He.Fa.free "enumerate").ok K,
  fun K => (He.Fa.free "sum").ok K,
  fun K => (He.Fa.free "max").ok K,
  fun K => (He.Fa.free "min").ok K,
  fun K => My.err1B P0 K "BadTable" "part" "BadTable.__init__",
  fun K => decide (PySem.W.exmOne K (.ref (He.ga K "BadTable")) (.ref (He.ga K "ClipError")) = some true),
  fun K => My.excKB K (He.ga K "BadTable"),
  fun K => decide (PySem.W.kitOne K (.ref (He.ga K "BadTable")) (.ref (He.ga K "BadTable")) = some true),
  fun K => He.eqO (PySem.W.findIn K (.ref (He.ga K "Line")) "__ne__") (some (some (.builtin "object.__ne__"))),
  fun K => He.eqO (PySem.W.findIn K (.ref (He.ga K "Run")) "__ne__") (some (some (.builtin "object.__ne__"))),
  fun K => He.eqO (PySem.W.findIn K (.ref (He.ga K "Point")) "__ne__") (some (some (.builtin "object.__ne__"))),
  fun K => My.binB K (He.ga K "Line") (PySem.Operator.info .Add).2,
  fun K => My.binB K (He.ga K "Line") (PySem.Operator.info .Sub).2,
  fun K => My.binB K (He.ga K "Poly") (PySem.Operator.info .Mult).2,
  fun K => My.fnB K (He.ga K "Line") "__init__" && My.fdB K (He.ma K (He.ga K "Line") "__init__") "Line.__init__" [.int 0],
  fun K => My.fnB K (He.ga K "Ratio") "__init__" && My.fdB K (He.ma K (He.ga K "Ratio") "__init__") "Ratio.__init__" [.int 1],
  fun K => My.fnB K (He.ga K "Quotient") "__init__" && My.fdB K (He.ma K (He.ga K "Quotient") "__init__") "Quotient.__init__" [.int 1],
  fun K => My.fnB K (He.ga K "Run") "__init__" && My.fdB K (He.ma K (He.ga K "Run") "__init__") "Run.__init__" [.int 0],
  fun K => My.fnB K (He.ga K "Poly") "__init__" && My.fdB K (He.ma K (He.ga K "Poly") "__init__") "Poly.__init__" [],
  fun K => My.fnB K (He.ga K "Point") "__init__" && My.fdB K (He.ma K (He.ga K "Point") "__init__") "Point.__init__" [],
  fun K => My.statB K (He.ga K "Ratio") "is_number" && My.fdB K (My.sAt "staticmethod" K (He.ga K "Ratio") "is_number") "Ratio.is_number" [],
  fun K => My.statB K (He.ga K "Ratio") "of" && My.fdB K (My.sAt "staticmethod" K (He.ga K "Ratio") "of") "Ratio.of" [],
  fun K => My.fnB K (He.ga K "Line") "rank" && My.fdB K (He.ma K (He.ga K "Line") "rank") "Line.rank" [],
  fun K => My.fnB K (He.ga K "Line") "__eq__" && My.fdB K (He.ma K (He.ga K "Line") "__eq__") "Line.__eq__" [],
  fun K => My.fnB K (He.ga K "Line") "__neg__" && My.fdB K (He.ma K (He.ga K "Line") "__neg__") "Line.__neg__" [],
  fun K => My.fnB K (He.ga K "Line") "__add__" && My.fdB K (He.ma K (He.ga K "Line") "__add__") "Line.__add__" [],
  fun K => My.fnB K (He.ga K "Line") "__sub__" && My.fdB K (He.ma K (He.ga K "Line") "__sub__") "Line.__sub__" []] ++ [fun K => My.fnB K (He.ga K "Poly") "__mul__" && My.fdB K (He.ma K (He.ga K "Poly") "__mul__") "Poly.__mul__" [],
  fun K => My.fnB K (He.ga K "Poly") "__eq__" && My.fdB K (He.ma K (He.ga K "Poly") "__eq__") "Poly.__eq__" [],
  fun K => My.fnB K (He.ga K "Poly") "__bool__" && My.fdB K (He.ma K (He.ga K "Poly") "__bool__") "Poly.__bool__" [],
  fun K => My.fnB K (He.ga K "Quotient") "__eq__" && My.fdB K (He.ma K (He.ga K "Quotient") "__eq__") "Quotient.__eq__" [],
  fun K => My.fnB K (He.ga K "Run") "__eq__" && My.fdB K (He.ma K (He.ga K "Run") "__eq__") "Run.__eq__" [],
  fun K => My.fnB K (He.ga K "Point") "__eq__" && My.fdB K (He.ma K (He.ga K "Point") "__eq__") "Point.__eq__" [],
  fun K => My.propB K (He.ga K "Run") "sign" && My.fdB K (My.pAt K (He.ga K "Run") "sign") "Run.sign" [],
  fun K => (He.Fa.glo "is_integer_lines").ok K && My.fdB K (He.ga K "is_integer_lines") "is_integer" [],
  fun K => (He.Fa.glo "is_integer_runs").ok K && My.fdB K (He.ga K "is_integer_runs") "is_integer" [.int 0],
  fun K => (He.Fa.glo "as_line").ok K && My.fdB K (He.ga K "as_line") "as_line" [],
  fun K => (He.Fa.glo "is_whole").ok K && My.fdB K (He.ga K "is_whole") "is_whole" [],
  fun K => (He.Fa.glo "common_divisor").ok K && My.fdB K (He.ga K "common_divisor") "common_divisor" [],
  fun K => (He.Fa.glo "parts_of").ok K && My.fdB K (He.ga K "parts_of") "parts_of" [],
  fun K => (He.Fa.glo "without_end").ok K && My.fdB K (He.ga K "without_end") "without_end" [],
  fun K => (He.Fa.glo "term_of").ok K && My.fdB K (He.ga K "term_of") "term_of" [],
  fun K => (He.Fa.glo "product_of").ok K && My.fdB K (He.ga K "product_of") "product_of" [],
  fun K => (He.Fa.glo "as_poly").ok K && My.fdB K (He.ga K "as_poly") "as_poly" [],
  fun K => (He.Fa.glo "as_quotient").ok K && My.fdB K (He.ga K "as_quotient") "as_quotient" [],
  fun K => (He.Fa.glo "need_line").ok K && My.fdB K (He.ga K "need_line") "need_line" [],
  fun K => (He.Fa.glo "quotient_for").ok K && My.fdB K (He.ga K "quotient_for") "quotient_for" [],
  fun K => (He.Fa.glo "_law_pen").ok K && My.fdB K (He.ga K "_law_pen") "_law_pen" [],
  fun K => (He.Fa.glo "_law_draw").ok K && My.fdB K (He.ga K "_law_draw") "_law_draw" [],
  fun K => (He.Fa.glo "_law_pick").ok K && My.fdB K (He.ga K "_law_pick") "_law_pick" [],
  fun K => (He.Fa.glo "_law_line").ok K && My.fdB K (He.ga K "_law_line") "_law_line" [],
  fun K => (He.Fa.glo "_law_number").ok K && My.fdB K (He.ga K "_law_number") "_law_number" [],
  fun K => (He.Fa.glo "_law_as_quotient").ok K && My.fdB K (He.ga K "_law_as_quotient") "_law_as_quotient" [],
  fun K => (He.Fa.glo "_law_odd").ok K && My.fdB K (He.ga K "_law_odd") "_law_odd" [],
  fun K => (He.Fa.glo "_law_heard").ok K && My.fdB K (He.ga K "_law_heard") "_law_heard" [],
  fun K => (He.Fa.glo "_law_rising").ok K && My.fdB K (He.ga K "_law_rising") "_law_rising" [],
  fun K => (He.Fa.glo "_law_run").ok K && My.fdB K (He.ga K "_law_run") "_law_run" []] ++ [fun K => (He.Fa.glo "law").ok K && My.fdB K (He.ga K "law") "law" [],
  fun K => (He.Fa.glo "_law_runs_right").ok K && My.fdB K (He.ga K "_law_runs_right") "_law_runs_right" [],
  fun K => (He.Fa.glo "_law_points_right").ok K && My.fdB K (He.ga K "_law_points_right") "_law_points_right" [],
  fun K => decide (¬ (He.tabOf K (My.cAt K (He.ga K "_law_runs_right"))) = (He.tabOf K (My.cAt K (He.ga K "_law_points_right"))))]
def fn : List My.FD := [⟨fun K => He.ma K (He.ga K "BadTable") "__init__", "__init__", "BadTable.__init__", My.s_eBadTable, []⟩,
  ⟨fun K => He.ma K (He.ga K "Line") "__init__", "__init__", "Line.__init__", My.s_linit, []⟩,
  ⟨fun K => He.ma K (He.ga K "Ratio") "__init__", "__init__", "Ratio.__init__", My.s_rinit, []⟩,
  ⟨fun K => He.ma K (He.ga K "Quotient") "__init__", "__init__", "Quotient.__init__", My.s_qinit, []⟩,
  ⟨fun K => He.ma K (He.ga K "Run") "__init__", "__init__", "Run.__init__", My.s_ninit, []⟩,
  ⟨fun K => He.ma K (He.ga K "Poly") "__init__", "__init__", "Poly.__init__", My.s_pinit, []⟩,
  ⟨fun K => He.ma K (He.ga K "Point") "__init__", "__init__", "Point.__init__", My.s_tinit, []⟩,
  ⟨fun K => My.sAt "staticmethod" K (He.ga K "Ratio") "is_number", "is_number", "Ratio.is_number", My.s_isnum, []⟩,
  ⟨fun K => My.sAt "staticmethod" K (He.ga K "Ratio") "of", "of", "Ratio.of", My.s_of, []⟩,
  ⟨fun K => He.ma K (He.ga K "Line") "rank", "rank", "Line.rank", My.s_lrank, []⟩,
  ⟨fun K => He.ma K (He.ga K "Line") "__eq__", "__eq__", "Line.__eq__", My.s_leq, []⟩,
  ⟨fun K => He.ma K (He.ga K "Line") "__neg__", "__neg__", "Line.__neg__", My.s_lneg, []⟩,
  ⟨fun K => He.ma K (He.ga K "Line") "__add__", "__add__", "Line.__add__", My.s_ladd, []⟩,
  ⟨fun K => He.ma K (He.ga K "Line") "__sub__", "__sub__", "Line.__sub__", My.s_lsub, []⟩,
  ⟨fun K => He.ma K (He.ga K "Poly") "__mul__", "__mul__", "Poly.__mul__", My.s_pmul, []⟩,
  ⟨fun K => He.ma K (He.ga K "Poly") "__eq__", "__eq__", "Poly.__eq__", My.s_peq, []⟩,
  ⟨fun K => He.ma K (He.ga K "Poly") "__bool__", "__bool__", "Poly.__bool__", My.s_pbool, []⟩,
  ⟨fun K => He.ma K (He.ga K "Quotient") "__eq__", "__eq__", "Quotient.__eq__", My.s_qeq, []⟩,
  ⟨fun K => He.ma K (He.ga K "Run") "__eq__", "__eq__", "Run.__eq__", My.s_neq, []⟩,
  ⟨fun K => He.ma K (He.ga K "Point") "__eq__", "__eq__", "Point.__eq__", My.s_teq, []⟩,
  ⟨fun K => My.pAt K (He.ga K "Run") "sign", "sign", "Run.sign", My.s_nsign, []⟩,
  ⟨fun K => He.ga K "is_integer_lines", "is_integer", "is_integer", My.s_isintL, []⟩,
  ⟨fun K => He.ga K "is_integer_runs", "is_integer", "is_integer", My.s_isint, []⟩,
  ⟨fun K => He.ga K "as_line", "as_line", "as_line", My.s_asline, []⟩,
  ⟨fun K => He.ga K "is_whole", "is_whole", "is_whole", My.s_whole0, []⟩,
  ⟨fun K => He.ga K "common_divisor", "common_divisor", "common_divisor", My.s_cd, []⟩,
  ⟨fun K => He.ga K "parts_of", "parts_of", "parts_of", My.s_partsof, []⟩,
  ⟨fun K => He.ga K "without_end", "without_end", "without_end", My.s_wend, []⟩,
  ⟨fun K => He.ga K "term_of", "term_of", "term_of", My.s_termof, []⟩,
  ⟨fun K => He.ga K "product_of", "product_of", "product_of", My.s_prodof, []⟩] ++ [⟨fun K => He.ga K "as_poly", "as_poly", "as_poly", My.s_aspoly, []⟩,
  ⟨fun K => He.ga K "as_quotient", "as_quotient", "as_quotient", My.s_asquo, []⟩,
  ⟨fun K => He.ga K "need_line", "need_line", "need_line", My.s_needline, []⟩,
  ⟨fun K => He.ga K "quotient_for", "quotient_for", "quotient_for", My.s_qfor, []⟩,
  ⟨fun K => He.ga K "_law_pen", "_law_pen", "_law_pen", My.s_pen, []⟩,
  ⟨fun K => He.ga K "_law_draw", "_law_draw", "_law_draw", My.s_draw, []⟩,
  ⟨fun K => He.ga K "_law_pick", "_law_pick", "_law_pick", My.s_pick, []⟩,
  ⟨fun K => He.ga K "_law_line", "_law_line", "_law_line", My.s_line, []⟩,
  ⟨fun K => He.ga K "_law_number", "_law_number", "_law_number", My.s_number, []⟩,
  ⟨fun K => He.ga K "_law_as_quotient", "_law_as_quotient", "_law_as_quotient", My.s_asq, []⟩,
  ⟨fun K => He.ga K "_law_odd", "_law_odd", "_law_odd", My.s_odd, []⟩,
  ⟨fun K => He.ga K "_law_heard", "_law_heard", "_law_heard", My.s_heard, []⟩,
  ⟨fun K => He.ga K "_law_rising", "_law_rising", "_law_rising", My.s_rising, []⟩,
  ⟨fun K => He.ga K "_law_run", "_law_run", "_law_run", My.s_lrun, []⟩,
  ⟨fun K => He.ga K "law", "law", "law", My.s_law, []⟩,
  ⟨fun K => He.ga K "_law_runs_right", "_law_runs_right", "_law_runs_right", My.s_runsR, []⟩,
  ⟨fun K => He.ga K "_law_points_right", "_law_points_right", "_law_points_right", My.s_pointsR, []⟩]
def tf : List (PySem.W.Frag → Addr) := [fun K => He.ga K "_law_runs_right",
  fun K => He.ga K "_law_points_right"]
def sl : List My.Sel := [.cls "BadTable",
  .cls "Line",
  .cls "Ratio",
  .cls "Poly",
  .cls "Quotient",
  .cls "Run",
  .cls "Point",
  .cls "ClipError",
  .fn "is_integer_lines",
  .fn "is_integer_runs",
  .fn "as_line",
  .fn "is_whole",
  .fn "common_divisor",
  .fn "parts_of",
  .fn "without_end",
  .fn "term_of",
  .fn "product_of",
  .fn "as_poly",
  .fn "as_quotient",
  .fn "need_line",
  .fn "quotient_for",
  .fn "_law_pen",
  .fn "_law_draw",
  .fn "_law_pick",
  .fn "_law_line",
  .fn "_law_number",
  .fn "_law_as_quotient",
  .fn "_law_odd",
  .fn "_law_heard",
  .fn "_law_rising"] ++ [.fn "_law_run",
  .fn "law",
  .fn "_law_runs_right",
  .fn "_law_points_right",
  .meth "BadTable" "__init__",
  .meth "Line" "__init__",
  .meth "Ratio" "__init__",
  .meth "Quotient" "__init__",
  .meth "Run" "__init__",
  .meth "Poly" "__init__",
  .meth "Point" "__init__",
  .rcd "Ratio" "is_number",
  .rcd "Ratio" "of",
  .meth "Line" "rank",
  .meth "Line" "__eq__",
  .meth "Line" "__neg__",
  .meth "Line" "__add__",
  .meth "Line" "__sub__",
  .meth "Poly" "__mul__",
  .meth "Poly" "__eq__",
  .meth "Poly" "__bool__",
  .meth "Quotient" "__eq__",
  .meth "Run" "__eq__",
  .meth "Point" "__eq__",
  .rcd "Run" "sign"]
abbrev hk : PySem.W.Hook := My.hookM sl fs fn tf
def ob (s : PySem.W.SharedT) : My.AM := My.obsM sl fs fn tf (HandSHeadRun.getT s)
theorem ob_eq (s : PySem.W.SharedT) : ob s = hk.obs s.abs := My.obsM_eq (HandSHeadRun.getT_eq s)
def names : List PySem.Str := (["_wall", "ClipError", "BadRatio", "NoDivisor", "BadPoly", "BadPlace", "NoIndex", "BadLine", "BadTable", "BadText", "MOST_DIGITS_lines", "DIGITS", "is_integer", "is_integer_lines", "digits_in", "integer_in", "slope_in", "Line", "text_of", "more_in", "as_line", "MOST_DIGITS_ratios", "is_whole", "common_divisor", "figures_of", "parts_of", "floor_of", "Ratio", "MOST_POWER", "sign_of"] : List PySem.Str) ++ (["need_integer", "without_end", "term_text", "term_of", "product_of", "terms_text", "term_read", "first_reached", "pieces", "rows_by", "all_steps", "all_signs", "Poly", "as_poly", "content_of", "divided_by_number", "plain_part", "power_times", "rest_of", "common_poly", "divided", "reduced", "as_quotient", "long_sign", "need_least", "Quotient", "is_integer_runs", "need_line", "quotient_for", "Run"] : List PySem.Str) ++ (["Point", "_law_pen", "_law_draw", "_law_pick", "_law_line", "_law_number", "_law_as_quotient", "_law_odd", "_law_heard", "_law_rising", "_law_run", "_law_runs_right", "_law_points_right"] : List PySem.Str)
theorem run (w : World) : HandSHeadRun.RunEq (PySem.W.OpenLaw.row PySem.Challenge.rw_clipfades_k48_runs_and_points_made) (PySem.W.view (PySem.W.OpenLaw.row PySem.Challenge.rw_clipfades_k48_runs_and_points_made).prog [81]) hk ob 60000 names w := by
  intro os
  kernel_rfl
theorem law_of {w : World} {K : PySem.W.Frag} {h : Heap} {mg : Str → Option Value} {fa : Addr} (KX : K.In h) (G : h.Ns mainGlobals mg) (hmg : mg ("law" : Str) = some (.ref fa)) (c : My.SaysM fs fn tf h K) : My.LawG PySem.Challenge.rw_clipfades_k48_runs_and_points_made w K 14 63 "_law_script" mg fa h := by
  have h_g_CL : mg "Line" = some (.ref (He.ga K "Line")) := (He.glo_ok KX G (c.facts 0 _ rfl))
  have h_g_CR : mg "Ratio" = some (.ref (He.ga K "Ratio")) := (He.glo_ok KX G (c.facts 1 _ rfl))
  have h_g_CP : mg "Poly" = some (.ref (He.ga K "Poly")) := (He.glo_ok KX G (c.facts 2 _ rfl))
  have h_g_CQo : mg "Quotient" = some (.ref (He.ga K "Quotient")) := (He.glo_ok KX G (c.facts 3 _ rfl))
  have h_g_CN : mg "Run" = some (.ref (He.ga K "Run")) := (He.glo_ok KX G (c.facts 4 _ rfl))
  have h_g_CT : mg "Point" = some (.ref (He.ga K "Point")) := (He.glo_ok KX G (c.facts 5 _ rfl))
  have h_gB : mg "BadTable" = some (.ref (He.ga K "BadTable")) := (He.glo_ok KX G (c.facts 6 _ rfl))
  have h_gE : mg "ClipError" = some (.ref (He.ga K "ClipError")) := (He.glo_ok KX G (c.facts 7 _ rfl))
  have h_iB : PySem.W.findIn K (.ref (He.ga K "BadTable")) "__init__" = some (some (.ref (He.ma K (He.ga K "BadTable") "__init__"))) := (He.eqO_ok (c.facts 8 _ rfl))
  have h_bi : BI mg := ⟨(He.free_ok KX G (c.facts 9 _ rfl)), (He.free_ok KX G (c.facts 10 _ rfl)), (He.free_ok KX G (c.facts 11 _ rfl)), (He.free_ok KX G (c.facts 12 _ rfl)), (He.free_ok KX G (c.facts 13 _ rfl)), (He.free_ok KX G (c.facts 14 _ rfl)), (He.free_ok KX G (c.facts 15 _ rfl)), (He.free_ok KX G (c.facts 16 _ rfl))⟩
  have h_o_CL : Own K (He.ga K "Line") := ⟨(My.clsB_ok (c.facts 17 _ rfl)), (He.eqO_ok (c.facts 18 _ rfl)), (He.eqO_ok (c.facts 19 _ rfl)), (of_decide_eq_true (c.facts 20 _ rfl)), (of_decide_eq_true (c.facts 21 _ rfl)), (of_decide_eq_true (c.facts 22 _ rfl)), (of_decide_eq_true (c.facts 23 _ rfl)), (My.kindsB_ok (c.facts 24 _ rfl)), (c.facts 25 _ rfl)⟩
  have h_mk_CL : PySem.W.makesIn K (He.ga K "Line") = true := (c.facts 26 _ rfl)
  have h_kp_CL : PySem.W.keepIn K (.ref (He.ga K "Line")) = true := (c.facts 27 _ rfl)
  have h_o_CR : Own K (He.ga K "Ratio") := ⟨(My.clsB_ok (c.facts 28 _ rfl)), (He.eqO_ok (c.facts 29 _ rfl)), (He.eqO_ok (c.facts 19 _ rfl)), (of_decide_eq_true (c.facts 20 _ rfl)), (of_decide_eq_true (c.facts 30 _ rfl)), (of_decide_eq_true (c.facts 31 _ rfl)), (of_decide_eq_true (c.facts 32 _ rfl)), (My.kindsB_ok (c.facts 33 _ rfl)), (c.facts 34 _ rfl)⟩
  have h_mk_CR : PySem.W.makesIn K (He.ga K "Ratio") = true := (c.facts 35 _ rfl)
  have h_kp_CR : PySem.W.keepIn K (.ref (He.ga K "Ratio")) = true := (c.facts 36 _ rfl)
  have h_o_CP : Own K (He.ga K "Poly") := ⟨(My.clsB_ok (c.facts 37 _ rfl)), (He.eqO_ok (c.facts 38 _ rfl)), (He.eqO_ok (c.facts 19 _ rfl)), (of_decide_eq_true (c.facts 20 _ rfl)), (of_decide_eq_true (c.facts 39 _ rfl)), (of_decide_eq_true (c.facts 40 _ rfl)), (of_decide_eq_true (c.facts 41 _ rfl)), (My.kindsB_ok (c.facts 42 _ rfl)), (c.facts 43 _ rfl)⟩
  have h_mk_CP : PySem.W.makesIn K (He.ga K "Poly") = true := (c.facts 44 _ rfl)
  have h_kp_CP : PySem.W.keepIn K (.ref (He.ga K "Poly")) = true := (c.facts 45 _ rfl)
  have h_o_CQo : Own K (He.ga K "Quotient") := ⟨(My.clsB_ok (c.facts 46 _ rfl)), (He.eqO_ok (c.facts 47 _ rfl)), (He.eqO_ok (c.facts 19 _ rfl)), (of_decide_eq_true (c.facts 20 _ rfl)), (of_decide_eq_true (c.facts 48 _ rfl)), (of_decide_eq_true (c.facts 49 _ rfl)), (of_decide_eq_true (c.facts 50 _ rfl)), (My.kindsB_ok (c.facts 51 _ rfl)), (c.facts 52 _ rfl)⟩
  have h_mk_CQo : PySem.W.makesIn K (He.ga K "Quotient") = true := (c.facts 53 _ rfl)
  have h_kp_CQo : PySem.W.keepIn K (.ref (He.ga K "Quotient")) = true := (c.facts 54 _ rfl)
  have h_o_CN : Own K (He.ga K "Run") := ⟨(My.clsB_ok (c.facts 55 _ rfl)), (He.eqO_ok (c.facts 56 _ rfl)), (He.eqO_ok (c.facts 19 _ rfl)), (of_decide_eq_true (c.facts 20 _ rfl)), (of_decide_eq_true (c.facts 57 _ rfl)), (of_decide_eq_true (c.facts 58 _ rfl)), (of_decide_eq_true (c.facts 59 _ rfl)), (My.kindsB_ok (c.facts 60 _ rfl)), (c.facts 61 _ rfl)⟩
  have h_mk_CN : PySem.W.makesIn K (He.ga K "Run") = true := (c.facts 62 _ rfl)
  have h_kp_CN : PySem.W.keepIn K (.ref (He.ga K "Run")) = true := (c.facts 63 _ rfl)
  have h_o_CT : Own K (He.ga K "Point") := ⟨(My.clsB_ok (c.facts 64 _ rfl)), (He.eqO_ok (c.facts 65 _ rfl)), (He.eqO_ok (c.facts 19 _ rfl)), (of_decide_eq_true (c.facts 20 _ rfl)), (of_decide_eq_true (c.facts 66 _ rfl)), (of_decide_eq_true (c.facts 67 _ rfl)), (of_decide_eq_true (c.facts 68 _ rfl)), (My.kindsB_ok (c.facts 69 _ rfl)), (c.facts 70 _ rfl)⟩
  have h_mk_CT : PySem.W.makesIn K (He.ga K "Point") = true := (c.facts 71 _ rfl)
  have h_kp_CT : PySem.W.keepIn K (.ref (He.ga K "Point")) = true := (c.facts 72 _ rfl)
  have h_x_CL_CR : PySem.W.kitOne K (.ref (He.ga K "Line")) (.ref (He.ga K "Ratio")) = some false ∧ PySem.W.notFirst K (He.ga K "Ratio") (.ref (He.ga K "Line")) = true := ⟨(of_decide_eq_true (c.facts 73 _ rfl)), (c.facts 74 _ rfl)⟩
  have h_x_CL_CP : PySem.W.kitOne K (.ref (He.ga K "Line")) (.ref (He.ga K "Poly")) = some false ∧ PySem.W.notFirst K (He.ga K "Poly") (.ref (He.ga K "Line")) = true := ⟨(of_decide_eq_true (c.facts 75 _ rfl)), (c.facts 76 _ rfl)⟩
  have h_x_CL_CQo : PySem.W.kitOne K (.ref (He.ga K "Line")) (.ref (He.ga K "Quotient")) = some false ∧ PySem.W.notFirst K (He.ga K "Quotient") (.ref (He.ga K "Line")) = true := ⟨(of_decide_eq_true (c.facts 77 _ rfl)), (c.facts 78 _ rfl)⟩
  have h_x_CL_CN : PySem.W.kitOne K (.ref (He.ga K "Line")) (.ref (He.ga K "Run")) = some false ∧ PySem.W.notFirst K (He.ga K "Run") (.ref (He.ga K "Line")) = true := ⟨(of_decide_eq_true (c.facts 79 _ rfl)), (c.facts 80 _ rfl)⟩
  have h_x_CL_CT : PySem.W.kitOne K (.ref (He.ga K "Line")) (.ref (He.ga K "Point")) = some false ∧ PySem.W.notFirst K (He.ga K "Point") (.ref (He.ga K "Line")) = true := ⟨(of_decide_eq_true (c.facts 81 _ rfl)), (c.facts 82 _ rfl)⟩
  have h_x_CR_CL : PySem.W.kitOne K (.ref (He.ga K "Ratio")) (.ref (He.ga K "Line")) = some false ∧ PySem.W.notFirst K (He.ga K "Line") (.ref (He.ga K "Ratio")) = true := ⟨(of_decide_eq_true (c.facts 83 _ rfl)), (c.facts 84 _ rfl)⟩
  have h_x_CR_CP : PySem.W.kitOne K (.ref (He.ga K "Ratio")) (.ref (He.ga K "Poly")) = some false ∧ PySem.W.notFirst K (He.ga K "Poly") (.ref (He.ga K "Ratio")) = true := ⟨(of_decide_eq_true (c.facts 85 _ rfl)), (c.facts 86 _ rfl)⟩
  have h_x_CR_CQo : PySem.W.kitOne K (.ref (He.ga K "Ratio")) (.ref (He.ga K "Quotient")) = some false ∧ PySem.W.notFirst K (He.ga K "Quotient") (.ref (He.ga K "Ratio")) = true := ⟨(of_decide_eq_true (c.facts 87 _ rfl)), (c.facts 88 _ rfl)⟩
  have h_x_CR_CN : PySem.W.kitOne K (.ref (He.ga K "Ratio")) (.ref (He.ga K "Run")) = some false ∧ PySem.W.notFirst K (He.ga K "Run") (.ref (He.ga K "Ratio")) = true := ⟨(of_decide_eq_true (c.facts 89 _ rfl)), (c.facts 90 _ rfl)⟩
  have h_x_CR_CT : PySem.W.kitOne K (.ref (He.ga K "Ratio")) (.ref (He.ga K "Point")) = some false ∧ PySem.W.notFirst K (He.ga K "Point") (.ref (He.ga K "Ratio")) = true := ⟨(of_decide_eq_true (c.facts 91 _ rfl)), (c.facts 92 _ rfl)⟩
  have h_x_CP_CL : PySem.W.kitOne K (.ref (He.ga K "Poly")) (.ref (He.ga K "Line")) = some false ∧ PySem.W.notFirst K (He.ga K "Line") (.ref (He.ga K "Poly")) = true := ⟨(of_decide_eq_true (c.facts 93 _ rfl)), (c.facts 94 _ rfl)⟩
  have h_x_CP_CR : PySem.W.kitOne K (.ref (He.ga K "Poly")) (.ref (He.ga K "Ratio")) = some false ∧ PySem.W.notFirst K (He.ga K "Ratio") (.ref (He.ga K "Poly")) = true := ⟨(of_decide_eq_true (c.facts 95 _ rfl)), (c.facts 96 _ rfl)⟩
  have h_x_CP_CQo : PySem.W.kitOne K (.ref (He.ga K "Poly")) (.ref (He.ga K "Quotient")) = some false ∧ PySem.W.notFirst K (He.ga K "Quotient") (.ref (He.ga K "Poly")) = true := ⟨(of_decide_eq_true (c.facts 97 _ rfl)), (c.facts 98 _ rfl)⟩
  have h_x_CP_CN : PySem.W.kitOne K (.ref (He.ga K "Poly")) (.ref (He.ga K "Run")) = some false ∧ PySem.W.notFirst K (He.ga K "Run") (.ref (He.ga K "Poly")) = true := ⟨(of_decide_eq_true (c.facts 99 _ rfl)), (c.facts 100 _ rfl)⟩
  have h_x_CP_CT : PySem.W.kitOne K (.ref (He.ga K "Poly")) (.ref (He.ga K "Point")) = some false ∧ PySem.W.notFirst K (He.ga K "Point") (.ref (He.ga K "Poly")) = true := ⟨(of_decide_eq_true (c.facts 101 _ rfl)), (c.facts 102 _ rfl)⟩
  have h_x_CQo_CL : PySem.W.kitOne K (.ref (He.ga K "Quotient")) (.ref (He.ga K "Line")) = some false ∧ PySem.W.notFirst K (He.ga K "Line") (.ref (He.ga K "Quotient")) = true := ⟨(of_decide_eq_true (c.facts 103 _ rfl)), (c.facts 104 _ rfl)⟩
  have h_x_CQo_CR : PySem.W.kitOne K (.ref (He.ga K "Quotient")) (.ref (He.ga K "Ratio")) = some false ∧ PySem.W.notFirst K (He.ga K "Ratio") (.ref (He.ga K "Quotient")) = true := ⟨(of_decide_eq_true (c.facts 105 _ rfl)), (c.facts 106 _ rfl)⟩
  have h_x_CQo_CP : PySem.W.kitOne K (.ref (He.ga K "Quotient")) (.ref (He.ga K "Poly")) = some false ∧ PySem.W.notFirst K (He.ga K "Poly") (.ref (He.ga K "Quotient")) = true := ⟨(of_decide_eq_true (c.facts 107 _ rfl)), (c.facts 108 _ rfl)⟩
  have h_x_CQo_CN : PySem.W.kitOne K (.ref (He.ga K "Quotient")) (.ref (He.ga K "Run")) = some false ∧ PySem.W.notFirst K (He.ga K "Run") (.ref (He.ga K "Quotient")) = true := ⟨(of_decide_eq_true (c.facts 109 _ rfl)), (c.facts 110 _ rfl)⟩
  have h_x_CQo_CT : PySem.W.kitOne K (.ref (He.ga K "Quotient")) (.ref (He.ga K "Point")) = some false ∧ PySem.W.notFirst K (He.ga K "Point") (.ref (He.ga K "Quotient")) = true := ⟨(of_decide_eq_true (c.facts 111 _ rfl)), (c.facts 112 _ rfl)⟩
  have h_x_CN_CL : PySem.W.kitOne K (.ref (He.ga K "Run")) (.ref (He.ga K "Line")) = some false ∧ PySem.W.notFirst K (He.ga K "Line") (.ref (He.ga K "Run")) = true := ⟨(of_decide_eq_true (c.facts 113 _ rfl)), (c.facts 114 _ rfl)⟩
  have h_x_CN_CR : PySem.W.kitOne K (.ref (He.ga K "Run")) (.ref (He.ga K "Ratio")) = some false ∧ PySem.W.notFirst K (He.ga K "Ratio") (.ref (He.ga K "Run")) = true := ⟨(of_decide_eq_true (c.facts 115 _ rfl)), (c.facts 116 _ rfl)⟩
  have h_x_CN_CP : PySem.W.kitOne K (.ref (He.ga K "Run")) (.ref (He.ga K "Poly")) = some false ∧ PySem.W.notFirst K (He.ga K "Poly") (.ref (He.ga K "Run")) = true := ⟨(of_decide_eq_true (c.facts 117 _ rfl)), (c.facts 118 _ rfl)⟩
  have h_x_CN_CQo : PySem.W.kitOne K (.ref (He.ga K "Run")) (.ref (He.ga K "Quotient")) = some false ∧ PySem.W.notFirst K (He.ga K "Quotient") (.ref (He.ga K "Run")) = true := ⟨(of_decide_eq_true (c.facts 119 _ rfl)), (c.facts 120 _ rfl)⟩
  have h_x_CN_CT : PySem.W.kitOne K (.ref (He.ga K "Run")) (.ref (He.ga K "Point")) = some false ∧ PySem.W.notFirst K (He.ga K "Point") (.ref (He.ga K "Run")) = true := ⟨(of_decide_eq_true (c.facts 121 _ rfl)), (c.facts 122 _ rfl)⟩
  have h_x_CT_CL : PySem.W.kitOne K (.ref (He.ga K "Point")) (.ref (He.ga K "Line")) = some false ∧ PySem.W.notFirst K (He.ga K "Line") (.ref (He.ga K "Point")) = true := ⟨(of_decide_eq_true (c.facts 123 _ rfl)), (c.facts 124 _ rfl)⟩
  have h_x_CT_CR : PySem.W.kitOne K (.ref (He.ga K "Point")) (.ref (He.ga K "Ratio")) = some false ∧ PySem.W.notFirst K (He.ga K "Ratio") (.ref (He.ga K "Point")) = true := ⟨(of_decide_eq_true (c.facts 125 _ rfl)), (c.facts 126 _ rfl)⟩
  have h_x_CT_CP : PySem.W.kitOne K (.ref (He.ga K "Point")) (.ref (He.ga K "Poly")) = some false ∧ PySem.W.notFirst K (He.ga K "Poly") (.ref (He.ga K "Point")) = true := ⟨(of_decide_eq_true (c.facts 127 _ rfl)), (c.facts 128 _ rfl)⟩
  have h_x_CT_CQo : PySem.W.kitOne K (.ref (He.ga K "Point")) (.ref (He.ga K "Quotient")) = some false ∧ PySem.W.notFirst K (He.ga K "Quotient") (.ref (He.ga K "Point")) = true := ⟨(of_decide_eq_true (c.facts 129 _ rfl)), (c.facts 130 _ rfl)⟩
  have h_x_CT_CN : PySem.W.kitOne K (.ref (He.ga K "Point")) (.ref (He.ga K "Run")) = some false ∧ PySem.W.notFirst K (He.ga K "Run") (.ref (He.ga K "Point")) = true := ⟨(of_decide_eq_true (c.facts 131 _ rfl)), (c.facts 132 _ rfl)⟩
  have h_nd : [(He.ga K "Line"), (He.ga K "Ratio"), (He.ga K "Poly"), (He.ga K "Quotient"), (He.ga K "Run"), (He.ga K "Point")].Nodup := (of_decide_eq_true (c.facts 133 _ rfl))
  have h_n_CL_slope : NoAttr K (He.ga K "Line") "slope" := (He.eqO_ok (c.facts 134 _ rfl))
  have h_n_CL_more : NoAttr K (He.ga K "Line") "more" := (He.eqO_ok (c.facts 135 _ rfl))
  have h_n_CR_top : NoAttr K (He.ga K "Ratio") "top" := (He.eqO_ok (c.facts 136 _ rfl))
  have h_n_CR_bottom : NoAttr K (He.ga K "Ratio") "bottom" := (He.eqO_ok (c.facts 137 _ rfl))
  have h_n_CP_terms : NoAttr K (He.ga K "Poly") "terms" := (He.eqO_ok (c.facts 138 _ rfl))
  have h_n_CP_degree : NoAttr K (He.ga K "Poly") "degree" := (He.eqO_ok (c.facts 139 _ rfl))
  have h_n_CQo_top : NoAttr K (He.ga K "Quotient") "top" := (He.eqO_ok (c.facts 140 _ rfl))
  have h_n_CQo_bottom : NoAttr K (He.ga K "Quotient") "bottom" := (He.eqO_ok (c.facts 141 _ rfl))
  have h_n_CN_base : NoAttr K (He.ga K "Run") "base" := (He.eqO_ok (c.facts 142 _ rfl))
  have h_n_CN_grow : NoAttr K (He.ga K "Run") "grow" := (He.eqO_ok (c.facts 143 _ rfl))
  have h_n_CN_own_sign : NoAttr K (He.ga K "Run") "own_sign" := (He.eqO_ok (c.facts 144 _ rfl))
  have h_n_CN_shift : NoAttr K (He.ga K "Run") "shift" := (He.eqO_ok (c.facts 145 _ rfl))
  have h_n_CN_first : NoAttr K (He.ga K "Run") "first" := (He.eqO_ok (c.facts 146 _ rfl))
  have h_n_CN_last : NoAttr K (He.ga K "Run") "last" := (He.eqO_ok (c.facts 147 _ rfl))
  have h_n_CT_source : NoAttr K (He.ga K "Point") "source" := (He.eqO_ok (c.facts 148 _ rfl))
  have h_n_CT_place : NoAttr K (He.ga K "Point") "place" := (He.eqO_ok (c.facts 149 _ rfl))
  have h_n_CT_share : NoAttr K (He.ga K "Point") "share" := (He.eqO_ok (c.facts 150 _ rfl))
  have h_z_str : mg "str" = none := (He.free_ok KX G (c.facts 151 _ rfl))
  have h_z_tuple : mg "tuple" = none := (He.free_ok KX G (c.facts 152 _ rfl))
  have h_z_enumerate : mg "enumerate" = none := (He.free_ok KX G (c.facts 153 _ rfl))
  have h_z_sum : mg "sum" = none := (He.free_ok KX G (c.facts 154 _ rfl))
  have h_z_max : mg "max" = none := (He.free_ok KX G (c.facts 155 _ rfl))
  have h_z_min : mg "min" = none := (He.free_ok KX G (c.facts 156 _ rfl))
  have h_eB : Sup.Err1 P0 K mg "BadTable" "part" (He.ga K "BadTable") (He.ma K (He.ga K "BadTable") "__init__") := (My.err1_ok KX G My.nm_part (c.facts 157 _ rfl) (c.defs 0 _ rfl) ⟨_, _, rfl⟩ ⟨_, _, _, _, _, _, _, _, _, _, rfl, rfl⟩ rfl (by decide +kernel))
  have h_TH : HTx P0 K mg (He.ga K "ClipError") (He.ga K "BadTable") (He.ma K (He.ga K "BadTable") "__init__") := ⟨h_bi, h_gE, h_eB, (of_decide_eq_true (c.facts 158 _ rfl)), (My.excKB_ok (c.facts 159 _ rfl)), (of_decide_eq_true (c.facts 160 _ rfl))⟩
  have h_hm_CL : PySem.W.mroIn K (He.ga K "Line") (.type "object") = some true := (of_decide_eq_true (c.facts 21 _ rfl))
  have h_ne_CL : PySem.W.findIn K (.ref (He.ga K "Line")) "__ne__" = some (some (.builtin "object.__ne__")) := (He.eqO_ok (c.facts 161 _ rfl))
  have h_hm_CN : PySem.W.mroIn K (He.ga K "Run") (.type "object") = some true := (of_decide_eq_true (c.facts 57 _ rfl))
  have h_ne_CN : PySem.W.findIn K (.ref (He.ga K "Run")) "__ne__" = some (some (.builtin "object.__ne__")) := (He.eqO_ok (c.facts 162 _ rfl))
  have h_hm_CT : PySem.W.mroIn K (He.ga K "Point") (.type "object") = some true := (of_decide_eq_true (c.facts 66 _ rfl))
  have h_ne_CT : PySem.W.findIn K (.ref (He.ga K "Point")) "__ne__" = some (some (.builtin "object.__ne__")) := (He.eqO_ok (c.facts 163 _ rfl))
  have h_B_ladd : BinF K (He.ga K "Line") (Operator.info .Add).2 := (My.binB_ok (c.facts 164 _ rfl))
  have h_B_lsub : BinF K (He.ga K "Line") (Operator.info .Sub).2 := (My.binB_ok (c.facts 165 _ rfl))
  have h_B_pmul : BinF K (He.ga K "Poly") (Operator.info .Mult).2 := (My.binB_ok (c.facts 166 _ rfl))
  have h_A_linit : HasD K (He.ga K "Line") "__init__" "Line.__init__" s_linit [.int 0] [] := (My.hasDM (c.defs 1 _ rfl) (c.facts 167 _ rfl))
  have h_A_rinit : HasD K (He.ga K "Ratio") "__init__" "Ratio.__init__" s_rinit [.int 1] [] := (My.hasDM (c.defs 2 _ rfl) (c.facts 168 _ rfl))
  have h_A_qinit : HasD K (He.ga K "Quotient") "__init__" "Quotient.__init__" s_qinit [.int 1] [] := (My.hasDM (c.defs 3 _ rfl) (c.facts 169 _ rfl))
  have h_A_ninit : HasD K (He.ga K "Run") "__init__" "Run.__init__" s_ninit [.int 0] [] := (My.hasDM (c.defs 4 _ rfl) (c.facts 170 _ rfl))
  have h_A_pinit : HasM K (He.ga K "Poly") "__init__" "Poly.__init__" s_pinit := (My.hasMM (c.defs 5 _ rfl) (c.facts 171 _ rfl))
  have h_A_tinit : HasM K (He.ga K "Point") "__init__" "Point.__init__" s_tinit := (My.hasMM (c.defs 6 _ rfl) (c.facts 172 _ rfl))
  have h_A_isnum : HasS K (He.ga K "Ratio") "is_number" "Ratio.is_number" s_isnum := (My.hasSM (c.defs 7 _ rfl) (c.facts 173 _ rfl))
  have h_A_of : HasS K (He.ga K "Ratio") "of" "Ratio.of" s_of := (My.hasSM (c.defs 8 _ rfl) (c.facts 174 _ rfl))
  have h_A_lrank : HasM K (He.ga K "Line") "rank" "Line.rank" s_lrank := (My.hasMM (c.defs 9 _ rfl) (c.facts 175 _ rfl))
  have h_A_leq : HasM K (He.ga K "Line") "__eq__" "Line.__eq__" s_leq := (My.hasMM (c.defs 10 _ rfl) (c.facts 176 _ rfl))
  have h_A_lneg : HasM K (He.ga K "Line") "__neg__" "Line.__neg__" s_lneg := (My.hasMM (c.defs 11 _ rfl) (c.facts 177 _ rfl))
  have h_A_ladd : HasM K (He.ga K "Line") "__add__" "Line.__add__" s_ladd := (My.hasMM (c.defs 12 _ rfl) (c.facts 178 _ rfl))
  have h_A_lsub : HasM K (He.ga K "Line") "__sub__" "Line.__sub__" s_lsub := (My.hasMM (c.defs 13 _ rfl) (c.facts 179 _ rfl))
  have h_A_pmul : HasM K (He.ga K "Poly") "__mul__" "Poly.__mul__" s_pmul := (My.hasMM (c.defs 14 _ rfl) (c.facts 180 _ rfl))
  have h_A_peq : HasM K (He.ga K "Poly") "__eq__" "Poly.__eq__" s_peq := (My.hasMM (c.defs 15 _ rfl) (c.facts 181 _ rfl))
  have h_A_pbool : HasM K (He.ga K "Poly") "__bool__" "Poly.__bool__" s_pbool := (My.hasMM (c.defs 16 _ rfl) (c.facts 182 _ rfl))
  have h_A_qeq : HasM K (He.ga K "Quotient") "__eq__" "Quotient.__eq__" s_qeq := (My.hasMM (c.defs 17 _ rfl) (c.facts 183 _ rfl))
  have h_A_neq : HasM K (He.ga K "Run") "__eq__" "Run.__eq__" s_neq := (My.hasMM (c.defs 18 _ rfl) (c.facts 184 _ rfl))
  have h_A_teq : HasM K (He.ga K "Point") "__eq__" "Point.__eq__" s_teq := (My.hasMM (c.defs 19 _ rfl) (c.facts 185 _ rfl))
  have h_A_nsign : HasP K (He.ga K "Run") "sign" "Run.sign" s_nsign := (My.hasPM (c.defs 20 _ rfl) (c.facts 186 _ rfl))
  have h_A_isintL : HasN K mg "is_integer_lines" "is_integer" s_isintL := (My.hasNM KX G (c.defs 21 _ rfl) (c.facts 187 _ rfl))
  have h_A_isint : HasND K mg "is_integer_runs" "is_integer" s_isint [.int 0] := (My.hasNDM KX G (c.defs 22 _ rfl) (c.facts 188 _ rfl))
  have h_A_asline : Has K mg "as_line" s_asline := (My.hasM0 KX G (c.defs 23 _ rfl) (c.facts 189 _ rfl))
  have h_A_whole0 : Has K mg "is_whole" s_whole0 := (My.hasM0 KX G (c.defs 24 _ rfl) (c.facts 190 _ rfl))
  have h_A_cd : Has K mg "common_divisor" s_cd := (My.hasM0 KX G (c.defs 25 _ rfl) (c.facts 191 _ rfl))
  have h_A_partsof : Has K mg "parts_of" s_partsof := (My.hasM0 KX G (c.defs 26 _ rfl) (c.facts 192 _ rfl))
  have h_A_wend : Has K mg "without_end" s_wend := (My.hasM0 KX G (c.defs 27 _ rfl) (c.facts 193 _ rfl))
  have h_A_termof : Has K mg "term_of" s_termof := (My.hasM0 KX G (c.defs 28 _ rfl) (c.facts 194 _ rfl))
  have h_A_prodof : Has K mg "product_of" s_prodof := (My.hasM0 KX G (c.defs 29 _ rfl) (c.facts 195 _ rfl))
  have h_A_aspoly : Has K mg "as_poly" s_aspoly := (My.hasM0 KX G (c.defs 30 _ rfl) (c.facts 196 _ rfl))
  have h_A_asquo : Has K mg "as_quotient" s_asquo := (My.hasM0 KX G (c.defs 31 _ rfl) (c.facts 197 _ rfl))
  have h_A_needline : Has K mg "need_line" s_needline := (My.hasM0 KX G (c.defs 32 _ rfl) (c.facts 198 _ rfl))
  have h_A_qfor : Has K mg "quotient_for" s_qfor := (My.hasM0 KX G (c.defs 33 _ rfl) (c.facts 199 _ rfl))
  have h_A_pen : Has K mg "_law_pen" s_pen := (My.hasM0 KX G (c.defs 34 _ rfl) (c.facts 200 _ rfl))
  have h_A_draw : Has K mg "_law_draw" s_draw := (My.hasM0 KX G (c.defs 35 _ rfl) (c.facts 201 _ rfl))
  have h_A_pick : Has K mg "_law_pick" s_pick := (My.hasM0 KX G (c.defs 36 _ rfl) (c.facts 202 _ rfl))
  have h_A_line : Has K mg "_law_line" s_line := (My.hasM0 KX G (c.defs 37 _ rfl) (c.facts 203 _ rfl))
  have h_A_number : Has K mg "_law_number" s_number := (My.hasM0 KX G (c.defs 38 _ rfl) (c.facts 204 _ rfl))
  have h_A_asq : Has K mg "_law_as_quotient" s_asq := (My.hasM0 KX G (c.defs 39 _ rfl) (c.facts 205 _ rfl))
  have h_A_odd : Has K mg "_law_odd" s_odd := (My.hasM0 KX G (c.defs 40 _ rfl) (c.facts 206 _ rfl))
  have h_A_heard : Has K mg "_law_heard" s_heard := (My.hasM0 KX G (c.defs 41 _ rfl) (c.facts 207 _ rfl))
  have h_A_rising : Has K mg "_law_rising" s_rising := (My.hasM0 KX G (c.defs 42 _ rfl) (c.facts 208 _ rfl))
  have h_A_lrun : Has K mg "_law_run" s_lrun := (My.hasM0 KX G (c.defs 43 _ rfl) (c.facts 209 _ rfl))
  have h_A_law : Has K mg "law" s_law := (My.hasM0 KX G (c.defs 44 _ rfl) (c.facts 210 _ rfl))
  have h_A_runsR : HasC K mg "_law_runs_right" s_runsR (My.cAt K (He.ga K "_law_runs_right")) := (My.hasCM KX G (c.defs 45 _ rfl) (c.facts 211 _ rfl))
  have h_T1 : TabF K h ((My.cAt K (He.ga K "_law_runs_right")), (He.tabOf K (My.cAt K (He.ga K "_law_runs_right")))) := (My.tabFM KX c 0 rfl)
  have h_A_pointsR : HasC K mg "_law_points_right" s_pointsR (My.cAt K (He.ga K "_law_points_right")) := (My.hasCM KX G (c.defs 46 _ rfl) (c.facts 212 _ rfl))
  have h_T2 : TabF K h ((My.cAt K (He.ga K "_law_points_right")), (He.tabOf K (My.cAt K (He.ga K "_law_points_right")))) := (My.tabFM KX c 1 rfl)
  have h_n1_2 : ¬ (He.tabOf K (My.cAt K (He.ga K "_law_runs_right"))) = (He.tabOf K (My.cAt K (He.ga K "_law_points_right"))) := (of_decide_eq_true (c.facts 213 _ rfl))
  exact My.all_mk (l := PySem.Challenge.rw_clipfades_k48_runs_and_points_made) (K := K) (CE := He.ga K "ClipError") (CL := He.ga K "Line") (CR := He.ga K "Ratio") (CP := He.ga K "Poly") (CQo := He.ga K "Quotient") (CN := He.ga K "Run") (CT := He.ga K "Point") (CB := He.ga K "BadTable") (fB := He.ma K (He.ga K "BadTable") "__init__") (c1 := My.cAt K (He.ga K "_law_runs_right")) (t1 := He.tabOf K (My.cAt K (He.ga K "_law_runs_right"))) (c2 := My.cAt K (He.ga K "_law_points_right")) (t2 := He.tabOf K (My.cAt K (He.ga K "_law_points_right"))) hmg h_g_CL h_g_CR h_g_CP h_g_CQo h_g_CN h_g_CT h_gB h_gE h_iB h_bi h_o_CL h_mk_CL h_kp_CL h_o_CR h_mk_CR h_kp_CR h_o_CP h_mk_CP h_kp_CP h_o_CQo h_mk_CQo h_kp_CQo h_o_CN h_mk_CN h_kp_CN h_o_CT h_mk_CT h_kp_CT h_x_CL_CR h_x_CL_CP h_x_CL_CQo h_x_CL_CN h_x_CL_CT h_x_CR_CL h_x_CR_CP h_x_CR_CQo h_x_CR_CN h_x_CR_CT h_x_CP_CL h_x_CP_CR h_x_CP_CQo h_x_CP_CN h_x_CP_CT h_x_CQo_CL h_x_CQo_CR h_x_CQo_CP h_x_CQo_CN h_x_CQo_CT h_x_CN_CL h_x_CN_CR h_x_CN_CP h_x_CN_CQo h_x_CN_CT h_x_CT_CL h_x_CT_CR h_x_CT_CP h_x_CT_CQo h_x_CT_CN h_nd h_n_CL_slope h_n_CL_more h_n_CR_top h_n_CR_bottom h_n_CP_terms h_n_CP_degree h_n_CQo_top h_n_CQo_bottom h_n_CN_base h_n_CN_grow h_n_CN_own_sign h_n_CN_shift h_n_CN_first h_n_CN_last h_n_CT_source h_n_CT_place h_n_CT_share h_z_str h_z_tuple h_z_enumerate h_z_sum h_z_max h_z_min h_eB h_TH h_hm_CL h_ne_CL h_hm_CN h_ne_CN h_hm_CT h_ne_CT h_B_ladd h_B_lsub h_B_pmul h_A_linit h_A_rinit h_A_qinit h_A_ninit h_A_pinit h_A_tinit h_A_isnum h_A_of h_A_lrank h_A_leq h_A_lneg h_A_ladd h_A_lsub h_A_pmul h_A_peq h_A_pbool h_A_qeq h_A_neq h_A_teq h_A_nsign h_A_isintL h_A_isint h_A_asline h_A_whole0 h_A_cd h_A_partsof h_A_wend h_A_termof h_A_prodof h_A_aspoly h_A_asquo h_A_needline h_A_qfor h_A_pen h_A_draw h_A_pick h_A_line h_A_number h_A_asq h_A_odd h_A_heard h_A_rising h_A_lrun h_A_law h_A_runsR h_T1 h_A_pointsR h_T2 h_n1_2
end HeadL
open PySem PySem.W PySem.Calls PyProof.Rows
theorem PySem.Challenge.cw_clipfades_k48_runs_and_points_made_holds : PySem.Challenge.rw_clipfades_k48_runs_and_points_made.Holds := by
  w_on; o_law
  refine HandSHeadRun.head_any (r := OpenLaw.row PySem.Challenge.rw_clipfades_k48_runs_and_points_made) (q := view (OpenLaw.row PySem.Challenge.rw_clipfades_k48_runs_and_points_made).prog [81]) (H := HeadL.hk) (ob := HeadL.ob) (M := 60000) (loose := HeadL.names) (d := HandSHeadRun.topDef (OpenLaw.row PySem.Challenge.rw_clipfades_k48_runs_and_points_made).prog 81) (kwd := []) HeadL.ob_eq
    (by kernel_rfl) (fun s => by kernel_rfl) HeadL.run (by kernel_rfl) (by kernel_rfl) (by kernel_rfl) (by rfl) (by first | assumption | decide +kernel) (by decide +kernel) ⟨rfl, rfl, rfl, rfl, rfl, by decide +kernel⟩ ?hw ?hc
  case hw => w_witness2
  case hc =>
    refine My.walk_GE (l := PySem.Challenge.rw_clipfades_k48_runs_and_points_made) (n := 63) (k := 14) (x := "_law_script") rfl (by decide) (by kernel_rfl) ⟨rfl, by decide, by decide⟩ ?F
    intro w mg fa h Y G hmg0
    obtain ⟨K, KX, c⟩ := Y
    have hmg : mg ("law" : PySem.Str) = some (.ref fa) := by
      have e : (HandSHeadRun.topDef (OpenLaw.row PySem.Challenge.rw_clipfades_k48_runs_and_points_made).prog 81).name = ("law" : PySem.Str) := by kernel_rfl
      rw [← e]
      exact hmg0
    exact ⟨K, KX, HeadL.law_of KX G hmg c⟩
