import PyProof.Rows.All
import Wide.All
import OpenK.AllK
import Wide.FinOn
import HandS.ForMost
import HandS.ForExc
import HandS.ExcInit
import HandS.ExcField
import HandS.Lambda
import HandS.IsInst
import KE.KExcIs
import PyProof.Rows.NestShow
import KE.KExcSuper
import HandS.Wide
import HandS.Star
import HandS.Defaults
import HandS.EndTab
import PyProof.ListMulRight
import KE.KOpsOwn
import KE.KCallOwn
import KE.KFmtOwn
import PyProof.InstNe
import HandS.ClsMeth
import HandS.TupLe
import HandS.MakeKwOnly
import HandS.MakeKw
import HandS.Small
import HandS.Style
import HandS.TupAny
import KE.GoesEnum
import KE.GoesMore
import KE.KTupTruth
import HandS.Codes
import HandS.FStr
import HandS.RaiseMore
import HandS.Dict
import HandS.Comp
import PyProof.ReprLen
import HandS.Walk
import PySem.Challenge.RW_clipfades_k06_polys_reckoned
set_option Elab.async false
set_option linter.all false
set_option maxRecDepth 100000
set_option maxHeartbeats 4000000
/-! Rules of our own over the hand layer: defs whose guards are told (for repr), repr of data, an error kept behind its except suite. -/
namespace My
open PySem PySem.Spec PyProof.Rows L2
/-! ### a def that is run where no repr is under way -/
structure FnG (P : Program) (w : World) (K : PySem.W.Frag) (mg : Str → Option Value) (base : Heap) (CX : CXT) (k : Nat) (f : Addr) (fd : FuncData) (ps : List Str) (sp : Sp) : Prop where
  len : ∀ vs H Q E, sp vs H Q E → vs.length = ps.length
  run : ∀ (A : Around) (outer : List Env) (s : Shared) (H : Hp) (args : Args) (us : List Value) (vs : List V) (Q : VK) (E : XK), A.guards = some [] → Room k A → Env0 P w K mg base A outer s H → BindsTo s fd args (ps.zip us) → Vals vs us → sp vs H Q E →
    codeAny (model P w) A (.call (.ref f) args) (CR CX outer P w H s Q E) s
section
variable {P : Program} {w : World} {K : PySem.W.Frag} {mg : Str → Option Value} {base : Heap}
theorem okG {x qual : Str} {st : Stmt} {f : Addr} {fd : FuncData} {N ps : List Str} {k : Nat} {sp : Sp} (F : Fun K x qual st f fd) (S : FnScope N ps (defScope st)) (len : ∀ vs H Q E, sp vs H Q E → vs.length = ps.length)
    (hbody : ∀ (cdv : Value) (A : Around) (outer : List Env) (s : Shared) (H : Hp) (vs : List V) (Q : VK) (E : XK), K.lookup f ≠ none → A.guards = some [] → Room k (A.deeper (envOfC qual (defScope st) s.heap.objs.size f cdv)) → sp vs H Q E →
      ∃ t, PSs (cxOf CX0 P w K mg base N qual (defScope st) f cdv A outer s H E).nox (defBody st) t ∧ t { nx := fun _ H' => Q .non H', rt := Q } (start N vs) H) : FnG P w K mg base CX0 (k + 1) f fd ps sp := by
  obtain ⟨oc, od, kV, doc, pm, an, cdv, ct, osl, rfl, lk, hcd⟩ := F.ex
  refine ⟨len, fun A outer s H args us vs Q E hg hr e0 hb r hsp => LamX.run_ofS lk hcd S hr e0 hb r (len _ _ _ _ hsp) fun hr' => ?_⟩
  obtain ⟨t, h, q⟩ := hbody cdv A outer s H vs Q E (by rw [lk]; exact fun z => nomatch z) hg hr' hsp
  exact ⟨t, h.nox, q⟩
end
section
variable {X : Cx} {CX : CXT} {k : Nat} {f : Addr} {fd : FuncData} {ps : List Str} {sp : Sp} {E : XK} {x : Str} {e : Expr} {es : List Expr} {t : TA} {p pos : Pos} {ds : List Value} {dvs : List V}
/-- x(e, ..) -/
theorem pe_callG (F : FnG X.prog X.w X.K X.mg X.base CX k f fd ps sp) (hgd : X.A.guards = some []) (hr : Room k X.A) (hg : Gl X x) (hm : X.mg x = some (.ref f)) (hk : PySem.W.keepIn X.K (.ref f) = true) (hb : Binds X.K fd ps []) (hx : Passes CX X E)
    (ha : PA X (e :: es) t) (hdb : (x == ("__debug__" : Str)) = false := by decide) (hs : starEach (e :: es) X.env = (false, eval e X.env) :: starEach es X.env := by rfl) (hpl : (backTo pos (starEach es X.env)).any (·.1) = false := by rfl) :
    PE X (.Call (.Name x p) (e :: es) [] pos) (tCall sp [] E t) := by
  refine ⟨fun pins s σ H Q I h => ?_⟩
  refine wpAny_Call_Name_kw (ld_glob I hg hm ?_ hdb)
  refine PySem.W.callWith_K (h₀ := X.base) I.ok.mod.kin hk (thn (ha.run pos pins s σ H _ I h) fun us s1 ⟨vs, H1, I1, r, q⟩ => ⟨I1.kIn, ?_⟩) hs hpl
  have q' : sp vs H1 Q E := by
    have z : sp (vs ++ []) H1 Q E := q
    rw [List.append_nil] at z
    exact z
  have hl : us.length = ps.length := by rw [← r.length]; exact F.len _ _ _ _ q'
  have hb' : BindsTo s1 fd ⟨us, []⟩ (ps.zip us) := by
    have z := hb s1 us I1.kIn (by rw [List.append_nil]; exact hl)
    rw [List.append_nil] at z
    exact z
  refine wpAny_call (codeAny_mono (F.run X.A X.stack s1 H1 ⟨us, []⟩ us vs Q E hgd hr I1.env0 hb' r q') fun res s2 hq => ?_)
  cases res with
  | error er => exact hx pins σ H1 s1 er s2 I1 hq
  | ok fl =>
    cases fl with
    | ret u => exact I1.after hq
    | next => exact False.elim hq
    | brk => exact False.elim hq
    | cont => exact False.elim hq
end
/-! ### repr of data -/
theorem sqt_same {K : PySem.W.Frag} {H H' : Hp} {a : Addr} {xs : List V} (e : Same H H') (h : SqT K H a xs) : SqT K H' a xs := by
  rcases h with (h | ⟨o, h⟩) | h
  · exact .inl (.inl (e _ _ h))
  · exact .inl (.inr ⟨o, e _ _ h⟩)
  · exact .inr h
/-- data that repr shows: as for ==, and the empty dict -/
def Dr (K : PySem.W.Frag) (H : Hp) (v : V) (d : PyData) : Prop := Dp K H v d ∨ (∃ a, v = .ref a ∧ d = .dict [] ∧ H a = some (.dK []))
mutual
theorem dp_same {K : PySem.W.Frag} {H H' : Hp} (k : Same H H') : ∀ (d : PyData) (v : V), Dp K H v d → Dp K H' v d
  | _, _, .non => .non
  | _, _, .bl b => .bl b
  | _, _, .int i => .int i
  | _, _, .str x => .str x
  | .list ds, _, .lst h ha => .lst (k.seq h) (dp_sameAll k ds _ ha)
  | .tuple ds, _, .tup h ha => .tup (sqt_same k h) (dp_sameAll k ds _ ha)
theorem dp_sameAll {K : PySem.W.Frag} {H H' : Hp} (k : Same H H') : ∀ (ds : List PyData) (vs : List V), DpAll K H vs ds → DpAll K H' vs ds
  | [], _, .nil => .nil
  | d :: ds, _, .cons h1 h2 => .cons (dp_same k d _ h1) (dp_sameAll k ds _ h2)
end
theorem dr_same {K : PySem.W.Frag} {H H' : Hp} {v : V} {d : PyData} (k : Same H H') (h : Dr K H v d) : Dr K H' v d := by
  rcases h with h | ⟨a, e1, e2, e3⟩
  · exact .inl (dp_same k d v h)
  · exact .inr ⟨a, e1, e2, k _ _ e3⟩
def rRepr (K : PySem.W.Frag) : List V → Hp → VK → Prop := fun xs H Q => ∃ (v : V) (d : PyData), xs = [v] ∧ Dr K H v d ∧ d.showable = true ∧ d.depth ≤ 60 ∧ d.shown.length ≤ sizeLine ∧ Q (.str d.shown) H
mutual
theorem noDict {K : PySem.W.Frag} {H : Hp} : ∀ (d : PyData) (v : V), Dp K H v d → d.hasDict = false
  | .none, _, _ => rfl
  | .bool _, _, _ => rfl
  | .int _, _, _ => rfl
  | .str _, _, _ => rfl
  | .list ds, _, h => by
    cases h with
    | lst _ ha => exact noDictAll ds _ ha
  | .tuple ds, _, h => by
    cases h with
    | tup _ ha => exact noDictAll ds _ ha
  | .dict _, _, h => by cases h
theorem noDictAll {K : PySem.W.Frag} {H : Hp} : ∀ (ds : List PyData) (vs : List V), DpAll K H vs ds → PyData.hasDictAll ds = false
  | [], _, _ => rfl
  | d :: ds, _, h => by
    cases h with
    | cons h1 h2 =>
      show (d.hasDict || PyData.hasDictAll ds) = false
      rw [noDict d _ h1, noDictAll ds _ h2]
      rfl
end
section
variable {X : Cx} {k : Nat}
theorem call_repr (hgd : X.A.guards = some []) (hr : Room k X.A) : CallR X (.builtin "repr") (rRepr X.K) := by
  intro pins s σ H xs us Q I r h
  obtain ⟨v, d, rfl, hd, hs, hdp, hz, q⟩ := h
  obtain ⟨u, rfl, r1⟩ := vals1 r
  have hu : X.A.units + (d.depth + 1) < cLine := by
    have := hr.units
    omega
  have fin : ∀ (h' : Heap) (t : Tok) (tk : Nat), (∀ b o, s.heap.get? b = some o → h'.get? b = some o) → EP X pins σ Q (.str d.shown t) { s with heap := h', toks := tk } :=
    fun h' t tk hk => ⟨.str d.shown, H, I.kept (t' := tk) hk, ⟨t, rfl⟩, q⟩
  rcases hd with hd | ⟨a, rfl, rfl, ha⟩
  · have hn := noDict d v hd
    obtain ⟨as, rd⟩ := Dp.reads I d v u hd r1
    cases hd with
    | non => cases (show u = Value.none from r1); exact PySem.P.repr_of_none (fin s.heap _ _ fun _ _ e => e)
    | bl b => cases (show u = Value.bool b from r1); exact PySem.P.repr_of_bool (fin s.heap _ _ fun _ _ e => e)
    | int i =>
      obtain ⟨t, e⟩ := (show ∃ t, u = Value.int i t from r1)
      cases e
      exact PySem.P.repr_of_int (of_decide_eq_true hs) (fin s.heap _ _ fun _ _ e => e)
    | str z =>
      obtain ⟨t, e⟩ := (show ∃ t, u = Value.str z t from r1)
      cases e
      exact PySem.P.repr_of_str (fin s.heap _ _ fun _ _ e => e) hz
    | @lst a xs ds _ _ =>
      cases (show u = Value.ref a from r1)
      exact repr_of_reads' rd hs (PyData.noDict_hsm hn) hgd hu (fun _ _ e => e) (fun h' t tk hk => fin h' t tk hk) hz
    | @tup a xs ds _ _ =>
      cases (show u = Value.ref a from r1)
      exact repr_of_reads' rd hs (PyData.noDict_hsm hn) hgd hu (fun _ _ e => e) (fun h' t tk hk => fin h' t tk hk) hz
  · cases (show u = Value.ref a from r1)
    obtain ⟨_, hne, vs, kv, o, es, ep, e1, e2, e3, e4⟩ := (show ObjOk X.prog X.w H s.heap a (.dK []) from I.hok a _ ha)
    cases kv
    have hes : es.toList = [] := by
      obtain ⟨_, pr, _⟩ := e4
      revert pr
      generalize es.toList = l
      intro pr
      cases pr
      rfl
    have rd : Reads s.heap (.ref a) (.dict []) (a :: [] ++ []) := .dict e1 e2.1 e3 (by rw [hes]; exact .nil) (by rw [hes]; exact .nil)
    exact repr_of_reads' rd hs (fun _ hm => by simp at hm; simp [hm] at hne) hgd hu (fun _ _ e => e) (fun h' t tk hk => fin h' t tk hk) hz
end
/-! ### an error that stands behind its except suite -/
/-- at a: an error of the class cls, its own dict at d -/
def ExA (cls : Value) (d : Option Addr) (a : Addr) : HO := .ext fun h => ∃ (oe : Obj) (vs : Array Value), h.get? a = some oe ∧ Zc cls d oe ∧ oe.data = .fields vs
theorem exA_ok {P : Program} {w : World} {H : Hp} {h : Heap} {a : Addr} {cls : Value} {d : Option Addr} {oe : Obj} {vs : Array Value} (e : h.get? a = some oe) (z : Zc cls d oe) (hd : oe.data = .fields vs) : ObjOk P w H h a (ExA cls d a) :=
  ⟨⟨oe, vs, e, z, hd⟩, ⟨oe, e⟩, fun _ _ ⟨o, v, q, r⟩ k => ⟨o, v, k o q, r⟩⟩
section
variable {X : Cx} {pins : List (Addr × Obj)} {σ : L2.St} {H : Hp} {s : Shared}
/-- an object of the heap that was not there at the entry, tracked from now on -/
theorem track {a : Addr} {o : HO} (I : Inv X pins σ H s) (h0 : X.s_0.heap.get? a = none) (na : H a = none) (nL : a ≠ X.env.locals) (nC : ∀ x c, X.env.cells.lookup x = some c → c ≠ a) (nP : ∀ p ∈ X.pn ++ pins, p.1 ≠ a)
    (new : ObjOk X.prog X.w (upd H a o) s.heap a o) : Inv X pins σ (upd H a o) s := by
  have ne0 : ∀ b ob, X.s_0.heap.get? b = some ob → b ≠ a := fun b ob e z => by rw [z, h0] at e; cases e
  refine ⟨I.ok, I.os, I.bare, ⟨I.base.keep, I.base.slot, fun b ob e n hx => ?_, I.base.there, fun b xs e => ?_, fun b ob u e => ?_, fun b ps e => ?_⟩, I.loc, I.cell, ?_, fun x c e => ?_, fun p hp => ?_, fun b u e => ?_, I.len⟩
  · rw [upd_ne (ne0 b ob e)]
    exact I.base.free b ob e n hx
  · have z := I.base.tups b xs e
    rw [upd_ne (ne_of_none z na)]
    exact z
  · have z := I.base.frzs b ob u e
    rw [upd_ne (ne_of_none z na)]
    exact z
  · obtain ⟨m, z⟩ := I.base.tbls b ps e
    exact ⟨m, by rw [upd_ne (ne_of_none z na)]; exact z⟩
  · rw [upd_ne (Ne.symm nL)]
    exact I.free
  · rw [upd_ne (nC x c e)]
    exact I.freeC x c e
  · obtain ⟨e, n, r⟩ := I.pin p hp
    exact ⟨e, by rw [upd_ne (nP p hp)]; exact n, r⟩
  · by_cases hb : b = a
    · subst hb
      rw [upd_same] at e
      cases e
      exact new
    · rw [upd_ne hb] at e
      exact (I.hok b u e).stay (fun _ _ _ q => q) (fun c q => by rw [upd_ne (ne_of_none q na)]; exact q) fun c xs q => by rw [upd_ne (ne_of_none q na)]; exact q
end
/-- the wish of «except c as n: y = n»: slot i is n's, slot j is y's -/
def wKeep (K : PySem.W.Frag) (c : Value) (i j n : Nat) (Wout : WX) (D : Ends) : WX := fun cls d σ H =>
  ∃ b, PySem.W.exmOne K cls c = some b ∧ (b = true → ∀ a, H a = none → σ.length = n → D.nx (((σ.set i (some (.ref a))).set j (some (.ref a))).set i none) (upd H a (ExA cls d a))) ∧ (b = false → Wout cls d σ H)
section
variable {X : Cx} {x n y : Str} {c : Value} {i j : Nat} {body : List Stmt} {np p1 p2 p3 pos pos' : Pos} {tb : WX → TS} {Wout : WX}
theorem ps_try_keep (hs : X.stack = X.env :: X.outer) (hf : X.env.frame = some X.env.locals) (hN : X.N.Nodup) (hi : X.N[i]? = some n) (hln : X.env.kindOf n = some .local) (hj : X.N[j]? = some y) (hly : X.env.kindOf y = some .local) (hex : X.ex = []) (hc : Names X x c) (tk : Takes X Wout)
    (hb : ∀ (W : WX) (pn : List (Addr × Obj)) (xe : Value → Shared → Prop), Takes (X.tr pn xe) W → PassesOwn (model X.prog X.w) X.A X.env xe → PSs (X.tr pn xe) body (tb W)) (hd1 : (n == ("__debug__" : Str)) = false := by decide) (hd2 : (n == ("__classdict__" : Str)) = false := by decide) :
    PS X (.Try body [.ExceptHandler (some (.Name x np)) (some n) [.Assign [.Name y p1] (.Name n p2) p3] pos'] [] [] pos) (fun D σ H => tb (wKeep X.K c i j X.N.length Wout D) D σ H) := by
  refine ⟨fun pins s σ H D I h => ?_⟩
  have ok := I.ok
  have hfr : X.A.frames = some (X.env :: X.outer) := by rw [ok.frames, hs]
  refine wpAny_Try_except ?_
  refine wpAny_mono ((hb (wKeep X.K c i j X.N.length Wout D) (X.pn ++ pins) (fun e t1 => wpAny (model X.prog X.w) X.A (noteFrame e X.env) (fun _ t2 => wpAny (model X.prog X.w) X.A (setFlight e none) (fun _ t3 =>
    wpAny (model X.prog X.w) X.A (handleBy e X.env [.ExceptHandler (some (.Name x np)) (some n) [.Assign [.Name y p1] (.Name n p2) p3] pos']) (SP X pins D) X.xe t3) X.xe t2) X.xe t1) (fun u s' xx => ?_) PassesOwn.looking).run [] s σ H D (I.toTry _) h) (fun fl t1 hsp => ?_) (fun _ _ he => he)
  · obtain ⟨a, B, sI, pins', σ1, H1, cls, d, rfl, J0, nb, up, sky, na, os, ag, b, hb1, hyes, hno⟩ := xx
    have J : Inv X pins σ1 H1 sI := J0.ofTry ok
    have sky' : Sky B (X.env :: X.outer) a (Zc cls d) X.env.locals s'.heap := by rw [← hs]; exact sky
    show wpAny (model X.prog X.w) X.A (noteFrame (.ref a) X.env) _ _ _
    refine Sky.land Zc.steady hfr hf sky' fun h3 fl3 up3 => ?_
    have J3 : Inv X pins σ1 H1 { s' with heap := h3 } := J.landed nb fl3.1 (up.trans up3) os ag
    obtain ⟨oe3, vs3, he3, hz3, hd3⟩ := fl3.there
    have nfr : a ∉ frs (X.env :: X.outer) := fun hm => by
      obtain ⟨_, o', e', hnf⟩ := fl3.2.2.1.mem hm
      rw [he3] at e'
      cases e'
      exact hnf _ hd3
    have nL : a ≠ X.env.locals := fun z => nfr (List.mem_filterMap.mpr ⟨X.env, List.mem_cons_self, by rw [hf, z]⟩)
    have nF : a ∉ X.fs := fun hm => by
      obtain ⟨e1, he1, q1⟩ := List.mem_filterMap.mp hm
      exact nfr (List.mem_filterMap.mpr ⟨e1, List.mem_cons_of_mem _ he1, q1⟩)
    -- the error was not there at the entry, and is no pin
    have Ba : B.get? a = none := fl3.2.1
    have sIa : sI.heap.get? a = none := by
      cases z : sI.heap.get? a with
      | none => rfl
      | some o =>
        have y := nb a o z (by rw [hs]; exact nfr)
        rw [Ba] at y
        cases y
    have s0a : X.s_0.heap.get? a = none := by
      cases z : X.s_0.heap.get? a with
      | none => rfl
      | some o =>
        obtain ⟨o', y⟩ := J.base.there a o z (by rw [hex]; exact fun w => nomatch w)
        rw [sIa] at y
        cases y
    have nPin : ∀ p ∈ X.pn ++ pins, p.1 ≠ a := fun p hp z => by
      have y := (J.pin p hp).1
      rw [z, sIa] at y
      cases y
    have S3 := J3.suite he3 hd3 na nL nF
    refine wpAny_handleBy_cons (codeAny_handlers_test ?_) (by intro q; cases q)
    have LT : PySem.W.Looks (model X.prog X.w) h3 (typeOf (.ref a)) cls := fun A Q E s k q => wpAny_typeOf_ref (k _ _ he3) (by rw [hz3.1]; exact q)
    have LM := PySem.W.exm_one (M := model X.prog X.w) (J3.kIn) LT hb1
    have test : ∀ {Q : Value → Shared → Prop} {E : Value → Shared → Prop}, Q c { s' with heap := h3 } → wpAny (model X.prog X.w) (X.A.mark (some (.ref a))) (eval (.Name x np) X.env) Q E { s' with heap := h3 } := fun {Q E} q => by
      obtain ⟨hg, hdbg, hm | ⟨hm, hv, hnn⟩⟩ := hc
      · exact ld_glob (X := X.suite a ((a, oe3) :: (X.pn ++ pins))) S3 hg hm q hdbg
      · exact ld_blt (X := X.suite a ((a, oe3) :: (X.pn ++ pins))) S3 hg hm hv q hnn hdbg
    refine test (LM.here ?_)
    cases b with
    | true =>
      refine codeAny_handlers_suite_as ?_
      refine HandSPX.lands_againZ fl3 fun h4 fl4 up4 => ?_
      have J4 : Inv X pins σ1 H1 { s' with heap := h4 } := J.landed nb fl4.1 ((up.trans up3).trans up4) os ag
      obtain ⟨oe4, vs4, he4, hz4, hd4⟩ := fl4.there
      have S4 := J4.suite he4 hd4 na nL nF
      refine store_ok (X := X.suite a ((a, oe4) :: (X.pn ++ pins))) (v := .ref a) S4 hN hi (.inl hln) rfl (fun s5 S5 => ?_) (.inr hln)
      have suite : PSs (X.suite a ((a, oe4) :: (X.pn ++ pins))) [.Assign [.Name y p1] (.Name n p2) p3] (tAsg (tVar i) (gName j)) :=
        pss_one (ps_asg (pe_var (i := i) hi (.inl hln) hd1 hd2) (pg_name (i := j) hN hj (.inl hly) (hf := .inr hly)))
      have hlen : i < σ1.length := by
        rw [J.len]
        exact (List.getElem?_eq_some_iff.mp hi).1
      refine wpAny_mono (suite.run [] s5 _ H1 { nx := fun σ' H' => σ' = (σ1.set i (some (.ref a))).set j (some (.ref a)) ∧ H' = H1, rt := fun _ _ => False } S5 ⟨.ref a, by rw [List.getElem?_set_self hlen], rfl, rfl⟩) (fun fl s6 hsp => ?_) (fun _ _ z => False.elim z)
      cases fl with
      | next =>
        obtain ⟨σ6, H6, S6, eσ, eH⟩ := hsp
        subst eσ
        subst eH
        refine gone_ok (X := X.suite a ((a, oe4) :: (X.pn ++ pins))) S6 hN hi hln fun s7 S7 => ?_
        have ha7 : s7.heap.get? a = some oe4 := (S7.pin (a, oe4) (List.mem_append_left _ List.mem_cons_self)).1
        have J7 := S7.unsuite ok
        have nC : ∀ (x : Str) (c : Addr), X.env.cells.lookup x = some c → c ≠ a := fun x c e z => by
          obtain ⟨v, o, ho, hdc⟩ := J7.cell x c e
          rw [z, ha7] at ho
          cases ho
          rw [hd4] at hdc
          cases hdc
        exact ⟨_, _, track J7 s0a na nL nC nPin (exA_ok ha7 hz4 hd4), hyes rfl a na J.len⟩
      | brk => obtain ⟨_, _, _, z⟩ := hsp; exact z.elim
      | cont => obtain ⟨_, _, _, z⟩ := hsp; exact z.elim
      | ret u => obtain ⟨_, _, _, _, _, z⟩ := hsp; exact z.elim
    | false =>
      show wpAny _ X.A (handleBy (.ref a) X.env []) _ _ _
      refine wpAny_handleBy_nil ?_
      obtain ⟨w1, w2, w3, oe, vs, T, oT, ts', he, hz, hdd, h1, hr⟩ := id fl3
      unfold PySem.passOn
      refine wpAny_bind (wpAny_field he hdd h1 ?_)
      rw [if_neg (show ¬ ((Value.ref T == Value.none) = true) from by simp)]
      have fin : wpAny (model X.prog X.w) X.A (setFlight (.ref a) X.env.frame) (fun _ s4 => wpAny (model X.prog X.w) X.A (throw (.ref a) : Sem Flow) (SP X pins D) X.xe s4) X.xe { s' with heap := h3 } := by
        rw [hf]
        refine HandSPX.setFlight_upZ fl3 fun h4 hh4 up4 => wpAny_throw (tk _ _ ?_)
        exact ⟨a, B, sI, pins, σ1, H1, cls, d, rfl, J, nb, (up.trans up3).trans up4, .inr (.inr (by rw [hs]; exact hh4)), na, os, ag, hno rfl⟩
      first
        | exact wpAny_bind (wpAny_pure (wpAny_bind fin))
        | exact wpAny_bind fin
  · cases fl with
    | next =>
      obtain ⟨σ', H', J', q⟩ := hsp
      exact wpAny_execs_nil ⟨σ', H', J'.ofTry ok, q⟩
    | brk =>
      obtain ⟨σ', H', J', q⟩ := hsp
      exact ⟨σ', H', J'.ofTry ok, q⟩
    | cont =>
      obtain ⟨σ', H', J', q⟩ := hsp
      exact ⟨σ', H', J'.ofTry ok, q⟩
    | ret u =>
      obtain ⟨v, σ', H', J', r, q⟩ := hsp
      exact ⟨v, σ', H', J'.ofTry ok, r, q⟩
end
/-! ### isinstance and fields of such an error -/
structure ExcK (K : PySem.W.Frag) (C : Addr) : Prop where
  cl : (PySem.W.clsIn K C).isSome = true
  ga : PySem.W.findIn K (.ref C) "__getattribute__" = some (some (.builtin "BaseException.__getattribute__"))
  gg : PySem.W.findIn K (.ref C) "__getattr__" = some none
  sb : PySem.W.subIn K (.ref C) (.type "BaseException") = some true
  ha : PySem.W.findIn K (.ref C) "__class__" = some (some (.builtin "object.__class__"))
  hn : PySem.W.specialIn K (.builtin "object.__class__") "__get__" = some (some (.builtin "getset_descriptor.__get__"))
  ht : PySem.W.takesIn K (.builtin "object.__class__") = some true
  hm : PySem.W.mroIn K C (.type "object") = some true
/-- isinstance(e, D) -/
def rIsA (K : PySem.W.Frag) : List V → Hp → VK → Prop := fun xs H Q => ∃ (a C d : Addr) (fs : List (Str × V)) (c : V) (cv : Value) (b : Bool), xs = [.ref a, c] ∧ ClsV c cv ∧ ExcK K C ∧ H a = some (ExA (.ref C) (some d) a) ∧ H d = some (.xd fs) ∧ PySem.W.kitOne K (.ref C) cv = some b ∧ Q (.bl b) H
section
variable {X : Cx} {pins : List (Addr × Obj)} {σ : L2.St} {H : Hp} {s : Shared}
theorem exA_at {a C d : Addr} {fs : List (Str × V)} (I : Inv X pins σ H s) (ha : H a = some (ExA (.ref C) (some d) a)) (hd : H d = some (.xd fs)) :
    ∃ (oe od : Obj) (mA : Str → Option Value), PySem.W.InstAt s.heap a oe C (some od) ∧ (∀ name, PySem.W.lookIn name od = some (mA name)) ∧ ∀ f, RelO (fs.lookup f) (mA f) := by
  obtain ⟨⟨oe, vs, ho, hz, hdat⟩, _, _⟩ := I.hok a _ ha
  obtain ⟨mA, hns, hr⟩ := (show ObjOk X.prog X.w H s.heap d (.xd fs) from I.hok d _ hd)
  obtain ⟨od, hod, hl⟩ := lookIn_ns hns
  exact ⟨oe, od, mA, ⟨ho, hz.1, by unfold PySem.W.notCls; rw [hdat] <;> rfl, by rw [hz.2]; exact hod⟩, hl, hr⟩
theorem call_isA : CallR X (.builtin "isinstance") (rIsA X.K) := by
  intro pins s σ H xs us Q I r h
  obtain ⟨a, C, d, fs, c, cv, b, rfl, k, T, ha, hd, e, q⟩ := h
  obtain ⟨u1, u2, rfl, r1, r2⟩ := vals2 r
  cases (show u1 = Value.ref a from r1)
  have e2 := k.eq r2
  subst e2
  obtain ⟨oe, od, mA, J, _, _⟩ := exA_at I ha hd
  exact PySem.W.kia_one (PySem.W.kitx_exc T.cl T.ga T.gg T.sb T.ha T.hn T.ht T.hm) I.kIn J e (fun z => nomatch z) fun t => ⟨.bl b, H, I.tok t, rfl, q⟩
/-- e.f -/
def tXa (K : PySem.W.Frag) (f : Str) (te : TE) : TE := fun σ H Q => te σ H fun x H1 => ∃ (a C d : Addr) (fs : List (Str × V)) (v : V), x = .ref a ∧ H1 a = some (ExA (.ref C) (some d) a) ∧ H1 d = some (.xd fs) ∧ XfC K C ∧ PySem.W.findIn K (.ref C) f = some none ∧ fs.lookup f = some v ∧ Q v H1
theorem pe_xa {e : Expr} {te : TE} {n : Str} {pos : Pos} (he : PE X e te) (hb : attributeBase e n X.env (eval e X.env) = eval e X.env := by rfl) : PE X (.Attribute e n pos) (tXa X.K n te) := by
  refine ⟨fun pins s σ H Q I h => ?_⟩
  refine attr_of hb (thn (he.run pins s σ H _ I h) fun u s1 hh => ?_)
  obtain ⟨x, H1, I1, rx, a, C, d, fs, v, ex, ha, hd, T, hno, l, q⟩ := hh
  subst ex
  obtain rfl : u = Value.ref a := rx
  obtain ⟨oe, od, mA, J, hl, hr⟩ := exA_at I1 ha hd
  obtain ⟨u, hu, ru⟩ := RelO.some_of (v := v) (o := mA n) (by rw [← l]; exact hr n)
  exact HandSPX.exc_get I1.kIn J T.ga T.gg T.exC (PySem.W.findObj_own T.hdC hno rfl (by rw [hl, hu])) (handed_of ru) ⟨v, H1, I1.tok _, ru, q⟩
end
end My
/-! An own error class E(Base(ValueError)) whose __init__ says super().__init__(f) and self.f = f. -/
namespace Sup
open PySem PySem.W PySem.Calls PyProof.Rows PySem.HandSPX
def a1 (f : Str) (p1 p2 : Pos) : Arguments :=
  { posonlyargs := [], args := [{ arg := "self", annotation := none, pos := p1 }, { arg := f, annotation := none, pos := p2 }], vararg := none, kwonlyargs := [], kw_defaults := [], kwarg := none, defaults := [] }
def b1 (f : Str) (q1 q2 q3 q4 q5 q6 r1 r2 r3 r4 : Pos) : List Stmt :=
  [.Expr (.Call (.Attribute (.Call (.Name "super" q1) [] [] q2) "__init__" q3) [.Name f q4] [] q5) q6, .Assign [.Attribute (.Name "self" r1) f r2] (.Name f r3) r4]
def s1 (f : Str) : Scope :=
  { kind := .function, names := [(PySem.Str.ofString "self", .local), (f, .local), (PySem.Str.ofString "__class__", .free), (PySem.Str.ofString "super", .globalImplicit)], isGenerator := false, isCoroutine := false, more := [] }
/-- the field's name is no other name of the text -/
structure Nm (f : Str) : Prop where
  n1 : (f == ("self" : Str)) = false
  n2 : (("__class__" : Str) == f) = false
  n3 : (("super" : Str) == f) = false
  n4 : (f == ("__debug__" : Str)) = false
  bd : ∀ (qual : Str) (body : List Stmt) (doc pm : Value) (an : Option Addr) (cdv ct : Value) (cc : Addr) (p1 p2 : Pos) (a b : Value),
    bindArgs (ksFn "__init__" qual (a1 f p1 p2) body (s1 f) .none .none doc pm an cdv ct cc) ⟨[a, b], []⟩ = pure [(("self" : Str), a), (f, b)]
/-- what the top has written of the class x, at C, and of its __init__, at fI -/
structure Err1 (prog : Program) (K : Frag) (mg : Str → Option Value) (x f : Str) (C fI : Addr) : Prop where
  gC : mg x = some (.ref C)
  ox : L2.OexC K C
  rd : L2.XfC K C
  nf : findIn K (.ref C) f = some none
  nm : Nm f
  iC : findIn K (.ref C) "__init__" = some (some (.ref fI))
  tI : typeIn K (.ref fI) = some (.type "function")
  fn : ∃ (qual : Str) (oc : Value) (od : Option Addr) (doc pm : Value) (an : Option Addr) (cda : Addr) (ct : Value) (cc : Addr) (osl : Array (Option Value)) (p1 p2 q1 q2 q3 q4 q5 q6 r1 r2 r3 r4 : Pos),
    K.lookup fI = some ⟨oc, od, .func (ksFn "__init__" qual (a1 f p1 p2) (b1 f q1 q2 q3 q4 q5 q6 r1 r2 r3 r4) (s1 f) .none .none doc pm an (.ref cda) ct cc), osl⟩ ∧ codeIn K (.ref cda) qual = true ∧
    (∃ cl cld csl, K.lookup cc = some ⟨cl, cld, .cell (some (.ref C)), csl⟩) ∧ ∃ ccl cdd vs ccs file tf, K.lookup cda = some ⟨ccl, cdd, .fields vs, ccs⟩ ∧ vs[2]? = some (.str file tf) ∧ ((prog.main.file : Str) == file) = true ∧ (q3.endLine == q5.line) = true
  su : ks_superIn K C C "__init__" = some (some (.builtin "ValueError.__init__"))
  sV : subIn K (.ref C) (.type "ValueError") = some true
  sC : mroIn K C (.ref C) = some true
  gS : mg "super" = none
  oq : nsIn K cStatics "thirdparty.any" = some none
  top : (prog.main.scope.names.lookup ("super" : Str)).isSome = false
/-- what __init__ leaves of a fresh exception at x -/
structure End1 (h h' : Heap) (f : Str) (x C dx t1 : Addr) (v : Value) : Prop where
  keep : ∀ b o, b ≠ x → h.get? b = some o → h'.get? b = some o
  obj : h'.get? x = some { cls := .ref C, dict := some dx, data := .fields #[.ref t1, .none, .none, .none, .bool false, .none] }
  dbig : h.objs.size ≤ dx
  dne : dx ≠ x
  ns : h'.Ns1 dx (fun y => if y = f then some v else none)
theorem lk2 {f : Str} (N : Nm f) : (s1 f).names.lookup f = some .local := by
  simp only [s1, List.lookup, N.n1, beq_self_eq_true]
theorem lk3 {f : Str} (N : Nm f) : (s1 f).names.lookup ("__class__" : Str) = some .free := by
  have e : (("__class__" : Str) == ("self" : Str)) = false := by decide +kernel
  have e2 : (("__class__" : Str) == ("__class__" : Str)) = true := by decide +kernel
  simp only [s1, List.lookup, N.n2, e, e2]
theorem lk4 {f : Str} (N : Nm f) : (s1 f).names.lookup ("super" : Str) = some .globalImplicit := by
  have e : (("super" : Str) == ("self" : Str)) = false := by decide +kernel
  have e2 : (("super" : Str) == ("__class__" : Str)) = false := by decide +kernel
  have e3 : (("super" : Str) == ("super" : Str)) = true := by decide +kernel
  simp only [s1, List.lookup, N.n3, e, e2, e3]
theorem meth_eq {o : Expr} {name f : Str} {q3 q4 q5 : Pos} {env : Env} (hp : (q3.endLine == q5.line) = true) :
    eval (.Call (.Attribute o name q3) [.Name f q4] [] q5) env = (do
      let ov ← attributeBase o name env (eval o env)
      standAt q3.atName
      let (g, first) ← holding [ov] (getMethod ov name (do return (← importBound o env).getD true))
      callWith q5 g first (backTo q5 (starEach [.Name f q4] env)) []) := by
  rw [arm_eval_Call]
  have hf : methodCallForm ([Expr.Name f q4].length + ([] : List Keyword).length) (backTo q5 (starEach [.Name f q4] env)) (backToKw q5 (keywordEach [] env)) = true := rfl
  have e : ∀ ov, methodCall o name q3 q5 env ov ([Expr.Name f q4].length + ([] : List Keyword).length) (backTo q5 (starEach [.Name f q4] env)) (backToKw q5 (keywordEach [] env)) = (do
      let (g, first) ← holding [ov] (getMethod ov name (do return (← importBound o env).getD true))
      callWith q5 g first (backTo q5 (starEach [.Name f q4] env)) []) := fun ov => by
    unfold methodCall
    rw [hf]
    unfold calleeOf methodCallPos
    simp only [hp, Bool.not_true, Bool.false_or, if_true]
    rfl
  simp only [e]
section
variable {prog : Program} {w : World} {A : Around} {E : Value → Shared → Prop} {R : Result → Shared → Prop} {s : Shared} {K : Frag} {mg : Str → Option Value} {x f : Str} {C fI : Addr}
/-- the bound ValueError.__init__ called -/
theorem call_mw {h : Heap} {g : Array GenState} {d : Drawn} {t : Nat} {os : OsState} {u e t0 : Addr} {rest : List Value} {Q : Value → Shared → Prop} {nm q : Str} {N : Addr} {bs bm : List Value} {hdct : Bool} {sn : List Str} {sub : List Value} {ab : Bool} {col : Option Bool} {dd : Option Addr} {k0 k1 k2 k3 k5 : Option Value}
    (hC : h.get? C = some (excClassObj nm q C N bs bm hdct sn sub ab col dd k0 k1 k2 k3 k5 "ValueError.__new__")) (he : h.get? e = some (excO C t0)) (hu : h.get? u = some (kxs_mw "ValueError.__init__" e)) (hz : rest.length ≤ sizeLine)
    (hq : ∀ h' t1, (∀ b o, b ≠ e → h.get? b = some o → h'.get? b = some o) → h'.get? e = some (excO C t1) → Q .none ⟨h', g, d, t, os⟩) :
    wpAny (model prog w) A (call (.ref u) rest) Q E ⟨h, g, d, t, os⟩ := by
  refine wpAny_call (codeAny_of_tree ?_)
  show wpAny _ A.in1 (callAny (.ref u) ⟨rest, []⟩) _ _ _
  simp only [callAny]
  refine wpAny_bind (wpAny_load hu ?_)
  simp only [kxs_mw, show (Value.type "method-wrapper" == Value.type "method" || Value.type "method-wrapper" == Value.type "builtin_function_or_method" || Value.type "method-wrapper" == Value.type "method-wrapper") = true by decide, if_true]
  refine KFB.if_so (by decide) ?_
  refine wpAny_bind (check_bound_init F.excBase_ValueError.toExcCallFacts hC he rfl ?_)
  refine wpAny_bind (wpAny_pure (wpAny_pure ?_))
  refine ⟨plainId_quiet F.excBase_ValueError.init.plain _, codeAny_builtin F.excBase_ValueError.initEntry ?_⟩
  exact exc_init_tree (cls := .ref C) (t0 := t0) (dv := none) (c2 := .none) (c3 := .none) (b4 := .bool false) he hz fun h' k e' _ => hq h' _ k e'
theorem init1 (T : Err1 prog K mg x f C fI) {e t0 : Addr} {v : Value} (X : K.In s.heap) (hlim : s.heap.NoLimit) (hg : s.heap.Ns mainGlobals mg) (hb : ∃ mb, s.heap.Ns builtinsNs mb ∧ ∀ x : Str, x ≠ "__name__" → mb x = bootBuiltins x)
    (he : s.heap.get? e = some (excO C t0)) (hnx : K.lookup e = none) (hroom : A.depth < recursionLimit)
    (hq : ∀ h' tk dx t1, End1 s.heap h' f e C dx t1 v → R (.ok (.ret .none)) { s with heap := h', toks := tk }) :
    codeAny (model prog w) A (.call (.ref fI) ⟨[.ref e, v], []⟩) R s := by
  obtain ⟨qual, oc, od, doc, pm, an, cda, ct, cc, osl, p1, p2, q1, q2, q3, q4, q5, q6, r1, r2, r3, r4, ho, hcd, ⟨cl, cld, csl, hcell⟩, ccl, cdd, vs, ccs, file, tf, hcode, hvs, hfile, hqq⟩ := T.fn
  obtain ⟨nm, q, N, bs, bm, sn, sub, ab, col, dd, k0, k1, k2, k3, k5, hC, hbm⟩ := T.ox.cls
  obtain ⟨mb, hb1, hb2⟩ := hb
  have hcl : clsIn K C = some { name := nm, bases := bs, mro := .ref C :: bm, ns := N, qualname := q, hasDict := true, slotNames := sn, subclasses := sub, abstract := ab, collection := col, hasDel := false } := by unfold clsIn; rw [hC] <;> rfl
  have hloc : ∀ y ∈ [(("self" : Str), Value.ref e), (f, v)], (s1 f).names.lookup y.1 = some .local := fun y hy => by
    rcases List.mem_cons.mp hy with z | z
    · rw [z]; rfl
    · rw [List.mem_singleton.mp z]; exact lk2 T.nm
  have hsu : alongIn K "__init__" ((((Value.ref C :: bm) : List Value).dropWhile (· != .ref C)).drop 1) = some (some (.builtin "ValueError.__init__")) := by
    have z := T.su
    unfold ks_superIn at z
    rw [hcl] at z
    exact z
  refine ks_codeAny_call_defAt (fd := ksFn "__init__" qual (a1 f p1 p2) (b1 f q1 q2 q3 q4 q5 q6 r1 r2 r3 r4) (s1 f) .none .none doc pm an (.ref cda) ct cc) (binds := [("self", .ref e), (f, v)]) hroom (X _ _ ho) rfl hlim (codeRec_of X hcd) rfl (BindsTo.of_eq (T.nm.bd _ _ _ _ _ _ _ _ _ _ _ _))
    (by intro y hy; simp only [s1, List.mem_cons, List.mem_nil_iff, or_false] at hy; rcases hy with z | z | z | z <;> rw [z] <;> exact (fun w => nomatch w)) hloc (fun h1 hns kp => ?_)
  have X1 : K.In h1 := X.keeps kp
  have he1 := kp _ _ he
  have hC1 := X1 _ _ hC
  have hx0 : e ≠ C := fun z => by
    have y := X _ _ hC
    rw [← z, he] at y
    cases y
  have mself : ([(("self" : Str), Value.ref e), (f, v)].reverse.lookup ("self" : Str)) = some (.ref e) := by
    have e1 : (("self" : Str) == f) = false := by
      have z := T.nm.n1
      rw [Bool.eq_false_iff] at z ⊢
      intro y
      exact z (by rw [beq_iff_eq] at y ⊢; exact y.symm)
    simp only [List.reverse_cons, List.reverse_nil, List.nil_append, List.cons_append, List.lookup, e1, beq_self_eq_true]
  have mf : ([(("self" : Str), Value.ref e), (f, v)].reverse.lookup f) = some v := by
    simp only [List.reverse_cons, List.reverse_nil, List.nil_append, List.cons_append, List.lookup, beq_self_eq_true]
  show _root_.PySem.wpAt _ _ _ (execs (b1 f q1 q2 q3 q4 q5 q6 r1 r2 r3 r4) _) _ _ _
  unfold b1
  refine ks_wpAt_execs_cons (ks_wpAt_Expr_any (ks_wpAt_MethodCall (ks_wpAt_super_base (lk4 T.nm) (lk3 T.nm) (by decide +kernel) rfl (X1 _ _ ho) rfl rfl rfl (X1 _ _ hcode) rfl hvs hfile T.top ?_) (meth_eq hqq)))
  refine ks_loadName_global rfl (lk4 T.nm) (loadGlobal_builtin (hg.keeps kp) T.gS (hb1.keeps kp) ((hb2 _ (by decide +kernel)).trans (by decide +kernel : bootBuiltins "super" = some (.type "super"))) ⟨rfl, ?_⟩)
  refine wpAny_loadName_free rfl (lk3 T.nm) rfl ⟨_, X1 _ _ hcell, rfl⟩ ?_
  refine wpAny_loadName_local rfl rfl hns mself ?_
  refine ks_wpAny_isType_cls hC1 rfl ⟨rfl, ?_⟩
  refine ks_wpAny_call_super hC1 rfl he1 rfl (fun c z => nomatch z) (looks_mroIn X1 T.sC) (fun h2 hso k2 => ?_)
  have X2 : K.In h2 := X1.keeps k2
  have he2 := k2 _ _ he1
  have I2 : InstAt h2 e (excO C t0) C none := ⟨he2, rfl, rfl, trivial⟩
  refine kxs_getMethod kxs_ValueError hso (looks_opaque X2 T.oq) (l₀ := .ref C :: bm) (fun A Q E s k q => wpAny_bind ((looks_clsIn X2 hcl) A _ E s k (wpAny_pure q))) rfl X2 hsu (I2.type.andThen (looks_subIn X2 T.sV)) hx0 (by decide +kernel) ?_
  refine kxs_callWith (i := "ValueError.__init__") (x := e) rfl ?_
  have hns2 := hns.keeps k2
  refine evalArgs_plain (Calls.spliced_cons (ldc rfl (lk2 T.nm) (hns2.keeps fun b o z => Heap.get?_push_of_some _ z) mf (Calls.spliced_nil ⟨Heap.get?_push_size _ rfl, ?_⟩) T.nm.n4))
  have k3 : ∀ b o, h2.get? b = some o → (h2.push (kxs_mw "ValueError.__init__" e)).get? b = some o := fun b o z => Heap.get?_push_of_some _ z
  show wpAny _ _ (call (.ref h2.objs.size) [v]) _ _ _
  refine call_mw (X2.keeps k3 _ _ hC) (k3 _ _ he2) (Heap.get?_push_size _ rfl) (by rw [sizeLine_eq]; exact (by decide : 1 ≤ 16777216)) fun h4 t1 k4 he4 => ?_
  have kall : ∀ b o, b ≠ e → s.heap.get? b = some o → h4.get? b = some o := fun b o hb z => k4 b o hb (k3 b o (k2 b o (kp b o z)))
  have X4 : K.In h4 := fun a o z => kall a o (fun y => by rw [y, hnx] at z; cases z) (X a o z)
  have hL : s.heap.objs.size ≠ e := Nat.ne_of_gt (Heap.lt_size he)
  have hns4 : h4.Ns s.heap.objs.size (fun y => [(("self" : Str), Value.ref e), (f, v)].reverse.lookup y) := by
    obtain ⟨oL, es, ep, hoL, r⟩ := hns2
    exact ⟨oL, es, ep, k4 _ _ hL (k3 _ _ hoL), r⟩
  show _root_.PySem.wpAt _ _ _ (execs [.Assign [.Attribute (.Name "self" r1) f r2] (.Name f r3) r4] _) _ _ _
  refine wpAt_of_wpAny (wpAny_execs_cons (plainObj_wpAny_Assign_Attribute (ldc rfl (lk2 T.nm) hns4 mf (ldc rfl rfl hns4 mself ?_) T.nm.n4)))
  refine set_plain X4 (ox := excO C t1) (od := none) ⟨he4, rfl, rfl, trivial⟩ T.ox.sa ?_
  refine exc_osa X4 he4 hcl (show refsVE (.ref C :: bm) = true from hbm) rfl T.nf (fun h5 tk5 dx k5 dn dne hx5 hn5 => ?_)
  have z1 : s.heap.objs.size ≤ h1.objs.size := Nat.le_of_lt hns.lt
  refine wpAny_execs_nil (hq h5 tk5 dx t1 ⟨fun b o hb z => k5 b o hb (kall b o hb z), hx5, ?_, dne, hn5⟩)
  have z2 := hns4.lt
  exact Nat.le_trans (Nat.le_of_lt z2) dn
/-- a made error -/
structure Made1 (h h' : Heap) (f : Str) (e C d : Addr) (v : Value) : Prop where
  keep : ∀ b o, h.get? b = some o → h'.get? b = some o
  new : h.objs.size ≤ e
  obj : ∃ oe vs, h'.get? e = some oe ∧ oe.cls = .ref C ∧ oe.dict = some d ∧ oe.data = .fields vs ∧ vs[1]? = some .none
  dbig : h.objs.size ≤ d
  dne : d ≠ e
  ns : h'.Ns1 d (fun y => if y = f then some v else none)
theorem made1 (T : Err1 prog K mg x f C fI) {v : Value} (X : K.In s.heap) (hlim : s.heap.NoLimit) (hg : s.heap.Ns mainGlobals mg) (hb : ∃ mb, s.heap.Ns builtinsNs mb ∧ ∀ x : Str, x ≠ "__name__" → mb x = bootBuiltins x) (hroom : A.depth + 1 < recursionLimit)
    (hq : ∀ h' tk e d, Made1 s.heap h' f e C d v → R (.ok (.ret (.ref e))) { s with heap := h', toks := tk }) :
    codeAny (model prog w) A (.call (.ref C) ⟨[v], []⟩) R s := by
  obtain ⟨nm, q, N, bs, bm, sn, sub, ab, col, dd, k0, k1, k2, k3, k5, hC, hbm⟩ := T.ox.cls
  obtain ⟨hp, g, dr, tk, os⟩ := s
  have kp : ∀ b o, hp.get? b = some o → ((hp.push (kdv_tup [v])).push (excO C hp.objs.size)).get? b = some o := fun b o z => Heap.get?_push_of_some _ (Heap.get?_push_of_some _ z)
  have hget : ((hp.push (kdv_tup [v])).push (excO C hp.objs.size)).get? (hp.objs.size + 1) = some (excO C hp.objs.size) := by heap_get
  have hnx : K.lookup (hp.objs.size + 1) = none := by
    cases z : K.lookup (hp.objs.size + 1) with
    | none => rfl
    | some o => exact absurd (Nat.lt_of_succ_lt (Heap.lt_size (X _ _ z))) (Nat.lt_irrefl _)
  refine call_own F.excBase_ValueError (fun Y => refsVE_contains Y bm hbm) (X _ _ hC) (looks_findIn X T.iC) (fun self => bind_fn X self T.tI) (by rw [sizeLine_eq]; exact (by decide : 1 ≤ 16777216)) ?_
  obtain ⟨mb, hb1, hb2⟩ := hb
  refine init1 (s := ⟨(hp.push (kdv_tup [v])).push (excO C hp.objs.size), g, dr, tk, os⟩) T (X.keeps kp) (hlim.keeps kp) (hg.keeps kp) ⟨mb, hb1.keeps kp, hb2⟩ hget hnx ?_ fun h' tk' dx t1 ⟨k', hx, dn, dne, hns⟩ => ?_
  · show A.depth + 1 < recursionLimit
    exact hroom
  · have old : ∀ b o, hp.get? b = some o → h'.get? b = some o := fun b o z => k' b o (Nat.ne_of_lt (Nat.lt_succ_of_lt (Heap.lt_size z))) (kp b o z)
    have z : hp.objs.size + 1 + 1 ≤ dx := by
      have y := dn
      first
        | (rw [Heap.size_push, Heap.size_push] at y; exact y)
        | exact y
    exact ⟨rfl, hq h' tk' (hp.objs.size + 1) dx ⟨old, Nat.le_succ _, ⟨_, _, hx, rfl, rfl, rfl, rfl⟩, Nat.le_trans (Nat.le_trans (Nat.le_succ _) (Nat.le_succ _)) z, dne, hns⟩⟩
end
end Sup
namespace L2
open PySem PySem.Spec PyProof.Rows
theorem relO_one {v : V} {v' : Value} {f : Str} (r : RelV v v') (g : Str) : RelO (List.lookup g [(f, v)]) (if g = f then some v' else none) := by
  by_cases hw : g = f
  · rw [if_pos hw, hw]
    have z : List.lookup f [(f, v)] = some v := by simp [List.lookup]
    rw [z]
    exact r
  · rw [if_neg hw]
    have y : (g == f) = false := by simpa using hw
    have z : List.lookup g [(f, v)] = none := by simp [List.lookup, y]
    rw [z]
    trivial
section
variable {X : Cx} {C fI : Addr} {x f : Str}
/-- E(e) -/
def tMk1 (C : Addr) (f : Str) (ta : TA) : St → Hp → XK → Prop := fun σ H Q => ta σ H fun vs H1 => ∃ v, vs = [v] ∧ ∀ d, H1 d = none → Q (.ref C) (some d) (upd H1 d (.xd [(f, v)]))
theorem pmk_1 {a : Expr} {ta : TA} {p pos : Pos} {k : Nat} (T : Sup.Err1 X.prog X.K X.mg x f C fI) (hr : Room k X.A) (ha : PA X [a] ta) (hg : Gl X x := by rfl) (hdb : (x == ("__debug__" : Str)) = false := by decide)
    (hs : starEach (a :: []) X.env = (false, eval a X.env) :: starEach [] X.env := by rfl) (hpl : (backTo pos (starEach [] X.env)).any (·.1) = false := by rfl) :
    PMk X (.Call (.Name x p) [a] [] pos) (tMk1 C f ta) := by
  intro pins s σ H Q I h
  refine wpAny_Call_Name_kw (ld_glob I hg T.gC ?_ hdb)
  refine PySem.W.callWith_K (h₀ := X.base) I.ok.mod.kin T.ox.kC (thn (ha.run pos pins s σ H _ I h) fun us s1 hh => ?_) hs hpl
  obtain ⟨vs, H1, I1, r1, v, ev, q1⟩ := hh
  subst ev
  refine ⟨I1.kIn, ?_⟩
  cases r1 with
  | cons rv rn =>
    rename_i v' us'
    cases rn
    show wpAny _ _ (call (.ref C) [v']) _ _ _
    have hlim := I1.nolimit
    obtain ⟨mb, hb1, hb2⟩ := I1.mod.blt
    have bk1 := I1.bk
    have gl1 := I1.mod.glob
    obtain ⟨hp, g, dr, tk, os⟩ := s1
    refine wpAny_call (Sup.made1 T I1.kIn hlim (gl1.keeps bk1) ⟨mb, hb1.keeps bk1, hb2⟩ (by have := hr.dp; omega) fun h' tk' e d M => ?_)
    show MkP X pins σ Q (.ref e) ⟨h', g, dr, tk', os⟩
    obtain ⟨oe, fv, hoe, hc, hd, hdat, h1⟩ := M.obj
    have hns := M.ns
    obtain ⟨G', g1, g2⟩ := restrict h' fun b => decide (b ≠ e)
    have gk : ∀ b, b ≠ e → G'.get? b = h'.get? b := fun b hb => g1 b (decide_eq_true hb)
    have ge : G'.get? e = none := g2 e (by simp)
    have old : ∀ b o, hp.get? b = some o → G'.get? b = some o := fun b o z => (gk b (Nat.ne_of_lt (Nat.lt_of_lt_of_le (Heap.lt_size z) M.new))).trans (M.keep b o z)
    have ob : ObjOk X.prog X.w (upd H1 d (.xd [(f, v)])) G' d (.xd [(f, v)]) :=
      ⟨_, hns.at (fun o z => (gk d M.dne).trans z), fun y => relO_one rv y⟩
    have J : Inv X pins σ (upd H1 d (.xd [(f, v)])) ⟨G', g, dr, tk', os⟩ := I1.laid (t' := tk') old M.dbig ob
    refine ⟨e, oe, fv, ⟨G', g, dr, tk', os⟩, _, .ref C, some d, rfl, J, fun b o z => ?_, ge, hoe, ⟨hc, hd⟩, hdat, h1, ?_, rfl, I1.bare, raises_own T.ox.exC T.ox.tyC, q1 d (I1.hok.fresh M.dbig)⟩
    · by_cases hb : b = e
      · have z' : G'.get? b = some o := z
        rw [hb, ge] at z'; cases z'
      · exact (gk b hb).symm.trans z
    · rw [upd_ne (Ne.symm M.dne)]
      exact I1.hok.fresh M.new
/-- raise E(e) -/
def tRaise1 (C : Addr) (f : Str) (W : WX) (ta : TA) : TS := fun _ σ H => tMk1 C f ta σ H fun cls d H' => W cls d σ H'
theorem ps_raise1 {a : Expr} {ta : TA} {W : WX} {p pos pos2 : Pos} {k : Nat} (hc : X.calm = true) (T : Sup.Err1 X.prog X.K X.mg x f C fI) (hr : Room k X.A) (tk : Takes X W) (ha : PA X [a] ta) (hg : Gl X x := by rfl) (hdb : (x == ("__debug__" : Str)) = false := by decide)
    (hs : starEach (a :: []) X.env = (false, eval a X.env) :: starEach [] X.env := by rfl) (hpl : (backTo pos (starEach [] X.env)).any (·.1) = false := by rfl) :
    PS X (.Raise (some (.Call (.Name x p) [a] [] pos)) none pos2) (tRaise1 C f W ta) := ps_raise hc tk (pmk_1 T hr ha hg hdb hs hpl)
end
end L2
/-! Defs by name, the pen. -/
namespace My
open PySem PySem.Spec PyProof.Rows L2
/-- a def of the module that keeps its promise -/
structure DefAt (P : Program) (w : World) (K : PySem.W.Frag) (mg : Str → Option Value) (base : Heap) (CX : CXT) (k : Nat) (x : Str) (ps : List Str) (sp : Sp) : Prop where
  ex : ∃ f fd, FnOk P w K mg base CX k f fd ps sp ∧ mg x = some (.ref f) ∧ PySem.W.keepIn K (.ref f) = true ∧ L2.Binds K fd ps []
structure DefG (P : Program) (w : World) (K : PySem.W.Frag) (mg : Str → Option Value) (base : Heap) (CX : CXT) (k : Nat) (x : Str) (ps : List Str) (sp : Sp) : Prop where
  ex : ∃ f fd, FnG P w K mg base CX k f fd ps sp ∧ mg x = some (.ref f) ∧ PySem.W.keepIn K (.ref f) = true ∧ L2.Binds K fd ps []
section
variable {X : Cx} {CX : CXT} {k : Nat} {ps : List Str} {sp : Sp} {E : XK} {x : Str} {e : Expr} {es : List Expr} {t : TA} {p pos : Pos}
theorem pe_d (D : DefAt X.prog X.w X.K X.mg X.base CX k x ps sp) (hr : Room k X.A) (hg : Gl X x) (hx : Passes CX X E) (ha : PA X (e :: es) t) (hdb : (x == ("__debug__" : Str)) = false := by decide)
    (hs : starEach (e :: es) X.env = (false, eval e X.env) :: starEach es X.env := by rfl) (hpl : (backTo pos (starEach es X.env)).any (·.1) = false := by rfl) : PE X (.Call (.Name x p) (e :: es) [] pos) (tCall sp [] E t) := by
  obtain ⟨f, fd, F, m, hk, b⟩ := D.ex
  exact pe_call F hr hg m hk b .nil hx ha hdb hs hpl
theorem pe_dG (D : DefG X.prog X.w X.K X.mg X.base CX k x ps sp) (hgd : X.A.guards = some []) (hr : Room k X.A) (hg : Gl X x) (hx : Passes CX X E) (ha : PA X (e :: es) t) (hdb : (x == ("__debug__" : Str)) = false := by decide)
    (hs : starEach (e :: es) X.env = (false, eval e X.env) :: starEach es X.env := by rfl) (hpl : (backTo pos (starEach es X.env)).any (·.1) = false := by rfl) : PE X (.Call (.Name x p) (e :: es) [] pos) (tCall sp [] E t) := by
  obtain ⟨f, fd, F, m, hk, b⟩ := D.ex
  exact pe_callG F hgd hr hg m hk b hx ha hdb hs hpl
end
/-- a class of the module that is made by its __init__, some defaults filled up -/
structure MakeAt (P : Program) (w : World) (K : PySem.W.Frag) (mg : Str → Option Value) (base : Heap) (CX : CXT) (k : Nat) (x : Str) (C : Addr) (ps : List Str) (sp : Sp) (dvs : List V) : Prop where
  ex : ∃ f fd ds, Mk K C f ∧ FnOk P w K mg base CX k f fd ps sp ∧ mg x = some (.ref C) ∧ L2.Binds K fd ps ds ∧ Vals dvs ds
structure MethAt (P : Program) (w : World) (K : PySem.W.Frag) (mg : Str → Option Value) (base : Heap) (CX : CXT) (k : Nat) (C : Addr) (m : Str) (ps : List Str) (sp : Sp) : Prop where
  ex : ∃ f fd, Meth K C m f ∧ FnOk P w K mg base CX k f fd ps sp ∧ L2.Binds K fd ps []
/-- .. called with keywords alone: their names ks, gV puts them in the parameters' order -/
structure MethK (P : Program) (w : World) (K : PySem.W.Frag) (mg : Str → Option Value) (base : Heap) (CX : CXT) (k : Nat) (C : Addr) (m : Str) (ps ks : List Str) (sp : Sp) (gV : List V → List V → List V) : Prop where
  ex : ∃ f fd g, Meth K C m f ∧ FnOk P w K mg base CX k f fd ps sp ∧ KBn K fd ps 1 ks g gV
structure CallAt (P : Program) (w : World) (K : PySem.W.Frag) (mg : Str → Option Value) (base : Heap) (CX : CXT) (k : Nat) (C : Addr) (ps : List Str) (sp : Sp) : Prop where
  ex : ∃ f fd, StX.CallO K C f ∧ FnOk P w K mg base CX k f fd ps sp ∧ L2.Binds K fd ps []
section
variable {X : Cx} {CX : CXT} {k : Nat} {C : Addr} {ps ks : List Str} {sp : Sp} {E : XK} {x m : Str} {e o fe : Expr} {es : List Expr} {kws : List Keyword} {t tk : TA} {ta tf : TE} {p pos apos : Pos} {dvs : List V} {gV : List V → List V → List V}
theorem pe_mk (M : MakeAt X.prog X.w X.K X.mg X.base CX k x C ps sp dvs) (hr : Room (k + 1) X.A) (hg : Gl X x) (hx : Passes CX X E) (ha : PA X (e :: es) t) (hdb : (x == ("__debug__" : Str)) = false := by decide)
    (hs : starEach (e :: es) X.env = (false, eval e X.env) :: starEach es X.env := by rfl) (hpl : (backTo pos (starEach es X.env)).any (·.1) = false := by rfl) : PE X (.Call (.Name x p) (e :: es) [] pos) (tMake C sp dvs E t) := by
  obtain ⟨f, fd, ds, mk, F, hm, b, d⟩ := M.ex
  exact pe_make mk F hr hg hm b d hx ha hdb hs hpl
theorem pe_mt {pl : Sem Bool} (c : Cls X.K C) (M : MethAt X.prog X.w X.K X.mg X.base CX k C m ps sp) (hr : Room k X.A) (hx : Passes CX X E) (he : PE X o ta) (ha : PA X (e :: es) t)
    (hst : starEach (e :: es) X.env = (false, eval e X.env) :: starEach es X.env := by rfl) (hpl : (backTo pos (starEach es X.env)).any (·.1) = false := by rfl)
    (ht : eval (.Call (.Attribute o m apos) (e :: es) [] pos) X.env = (do
      let ov ← eval o X.env
      standAt apos.atName
      let (f, first) ← holding [ov] (getMethod ov m pl)
      callWith pos f first (backTo pos (starEach (e :: es) X.env)) (backToKw pos (keywordEach [] X.env))) := by rfl) :
    PE X (.Call (.Attribute o m apos) (e :: es) [] pos) (tMeth C m sp [] E ta t) := by
  obtain ⟨f, fd, hm, F, b⟩ := M.ex
  exact pe_meth he c hm F hr b .nil hx ha hst hpl ht
theorem pe_mt0 {pl : Sem Bool} (c : Cls X.K C) (M : MethAt X.prog X.w X.K X.mg X.base CX k C m ps sp) (hr : Room k X.A) (hx : Passes CX X E) (he : PE X o ta)
    (ht : eval (.Call (.Attribute o m apos) [] [] pos) X.env = (do
      let ov ← eval o X.env
      standAt apos.atName
      let (f, first) ← holding [ov] (getMethod ov m pl)
      callWith pos f first (backTo pos (starEach [] X.env)) (backToKw pos (keywordEach [] X.env))) := by rfl) :
    PE X (.Call (.Attribute o m apos) [] [] pos) (tMeth C m sp [] E ta tNil) := by
  obtain ⟨f, fd, hm, F, b⟩ := M.ex
  exact pe_meth0 he c hm F hr b .nil hx ht
/-- o.m(k = v, ..) -/
def tMethK (C : Addr) (m : Str) (j : Nat) (sp : Sp) (gV : List V → List V → List V) (E : XK) (ta : TE) (tk : TA) : TE := fun σ H Q => ta σ H fun x H1 => ∃ a dx fs, x = .ref a ∧ H1 a = some (.ins C dx fs) ∧ fs.lookup m = none ∧
  tk σ H1 fun zs H2 => zs.length = j ∧ sp (gV [.ref a] zs) H2 Q E
theorem pe_mtK {pl : Sem Bool} (c : Cls X.K C) (M : MethK X.prog X.w X.K X.mg X.base CX k C m ps ks sp gV) (hr : Room k X.A) (hx : Passes CX X E) (he : PE X o ta) (hkw : PK X kws tk)
    (hall : (backToKw pos (keywordEach kws X.env)).all (·.1.isSome) = true := by rfl) (hks : (backToKw pos (keywordEach kws X.env)).filterMap (·.1) = ks := by rfl)
    (hpl : ((backTo pos (starEach [] X.env)).any (·.1) || (backToKw pos (keywordEach kws X.env)).any (·.1.isNone)) = false := by rfl)
    (ht : eval (.Call (.Attribute o m apos) [] kws pos) X.env = (do
      let ov ← eval o X.env
      standAt apos.atName
      let (f, first) ← holding [ov] (getMethod ov m pl)
      callWith pos f first (backTo pos (starEach [] X.env)) (backToKw pos (keywordEach kws X.env))) := by rfl) :
    PE X (.Call (.Attribute o m apos) [] kws pos) (tMethK C m ks.length sp gV E ta tk) := by
  obtain ⟨f, fd, g, hm, F, b⟩ := M.ex
  refine ⟨fun pins s σ H Q I h => ?_⟩
  refine PySem.W.methodCall_KW (pl := pl) (thn (he.run pins s σ H _ I h) fun u s1 ⟨x, H1, I1, rx, a, dx, fs, ex, ea, l, q⟩ => ?_) ht
  subst ex
  obtain rfl : u = Value.ref a := rx
  refine getmeth_ok I1 ea c hm l ?_
  refine PySem.W.callWith_KW0 (first := [.ref a]) (h₀ := X.base) I.ok.mod.kin hm.kp hall (thn (hkw.run pos pins s1 σ H1 _ I1 q) fun ws s2 ⟨zs, H2, I2, rz, l2, q2⟩ => ⟨I2.kIn, ?_⟩) hpl
  rw [hks]
  exact run_fnN (us := [.ref a]) (vs := [.ref a]) F hr b hx I2 (.cons rfl .nil) rz rfl l2 q2
theorem pe_cl (M : CallAt X.prog X.w X.K X.mg X.base CX k C ps sp) (hr : Room k X.A) (hx : Passes CX X E) (hf : PE X fe tf) (ha : PA X (e :: es) t)
    (ht : eval (.Call fe (e :: es) [] pos) X.env = (do callWith pos (← eval fe X.env) [] (backTo pos (starEach (e :: es) X.env)) (backToKw pos (keywordEach [] X.env))) := by rfl)
    (hs : starEach (e :: es) X.env = (false, eval e X.env) :: starEach es X.env := by rfl) (hpl : (backTo pos (starEach es X.env)).any (·.1) = false := by rfl) : PE X (.Call fe (e :: es) [] pos) (StX.tCallO X C sp E tf t) := by
  obtain ⟨f, fd, c, F, b⟩ := M.ex
  refine StX.pe_callO hf c (fun A outer s H us vs Q E hr e0 r hsp => ?_) hr hx ha ht hs hpl
  have hl : (us ++ []).length = ps.length := by rw [List.append_nil, ← r.length]; exact F.len _ _ _ _ hsp
  have hb := b s us (e0.mod.kin.keeps fun b o e => (e0.bs b o e).1) hl
  rw [List.append_nil] at hb
  exact F.run A outer s H ⟨us, []⟩ us vs Q E hr e0 hb r hsp
end
/-- an own comparison -/
structure CmpAt (P : Program) (w : World) (K : PySem.W.Frag) (mg : Str → Option Value) (base : Heap) (CX : CXT) (k : Nat) (C : Addr) (m : Str) (ps : List Str) (sp : Sp) : Prop where
  ex : ∃ f fd, PySem.W.findIn K (.ref C) m = some (some (.ref f)) ∧ PySem.W.isFn K (.ref f) = true ∧ FnOk P w K mg base CX k f fd ps sp ∧ L2.Binds K fd ps []
def rCmpO (K : PySem.W.Frag) (C : Addr) (sp : Sp) (E : XK) : R2 := fun x y H Q => ∃ a dx fs t, x = .ref a ∧ H a = some (.ins C dx fs) ∧ TyX K H y t ∧ PySem.W.notFirst K C t = true ∧ sp [.ref a, y] H Q E
theorem op_cmpO {X : Cx} {CX : CXT} {k : Nat} {C : Addr} {m : Str} {ps : List Str} {sp : Sp} {E : XK} {op : CmpOp} (M : CmpAt X.prog X.w X.K X.mg X.base CX k C m ps sp) (hr : Room k X.A) (hx : Passes CX X E) (hop : (cmpInfo op).2.1 = m := by rfl)
    (hco : ∀ v u, compareOp op v u = richCompare op v u := by intro _ _; rfl) : OpR X (compareOp op) (rCmpO X.K C sp E) := by
  intro pins s σ H x y v u Q I rx ry h
  obtain ⟨f, fd, hs, hf, F, hb⟩ := M.ex
  obtain ⟨a, dx, fs, t, rfl, ha, ty, hn, hsp⟩ := h
  obtain rfl : v = Value.ref a := rx
  obtain ⟨mA, J, _⟩ := ins_get I.hok ha
  obtain ⟨od, J, _⟩ := J.look
  obtain ⟨m', hF⟩ := I.fr
  obtain ⟨Pz, Z, pz, _⟩ := kit_of I ry ty
  rw [hco]
  refine PySem.W.cmp_K (op := op) (tb := t) hr.units0 hF I.ok.mod.kin J (Z.ty _ _ I.kIn pz) hn (by rw [hop]; exact hs) hf ?_
  have hl := F.len _ _ _ _ hsp
  have r2 : Vals [V.ref a, y] [Value.ref a, u] := .cons rfl (.cons ry .nil)
  refine wpAny_call (codeAny_mono (F.run X.A X.stack s H ⟨[.ref a, u], []⟩ [.ref a, u] [.ref a, y] _ E hr I.env0 (by
    have := hb s [.ref a, u] I.kIn (by simpa using hl)
    simpa using this) r2 hsp) fun r s' hq => ?_)
  cases r with
  | error e => exact hx pins σ H s e s' I hq
  | ok fl =>
    cases fl with
    | ret z =>
      have q := I.after hq
      obtain ⟨zv, H', I', rz, q'⟩ := id q
      cases z with
      | notImplemented => cases zv <;> first | (cases rz; done) | (obtain ⟨_, rz⟩ := rz; cases rz)
      | _ => exact q
    | next => exact False.elim hq
    | brk => exact False.elim hq
    | cont => exact False.elim hq
/-! ### the pen: a list of the cells, an index, what is left of a great cell -/
def PenAt (H : Hp) (pn : Addr) (n : Nat) : Prop := ∃ (cl : Addr) (ns : List Int) (at_ rest : Int), H pn = some (.lst [.ref cl, .int at_, .int rest]) ∧ H cl = some (.lst (ns.map V.int)) ∧ ns.length ≤ 63 ∧ 0 ≤ at_ ∧ at_ ≤ n
/-- all but pn stays -/
def But (pn : Addr) (H H' : Hp) : Prop := ∀ b o, H b = some o → b ≠ pn → H' b = some o
theorem But.refl (pn : Addr) (H : Hp) : But pn H H := fun _ _ h _ => h
theorem But.trans {pn : Addr} {H H1 H2 : Hp} (a : But pn H H1) (b : But pn H1 H2) : But pn H H2 := fun c o h n => b c o (a c o h n) n
theorem But.new {pn p : Addr} {H : Hp} {o : HO} (h : H p = none) : But pn H (upd H p o) := fun b u e _ => by rw [upd_ne (ne_of_none e h)]; exact e
theorem But.put {pn : Addr} {H : Hp} {o : HO} : But pn H (upd H pn o) := fun b u e n => by rw [upd_ne n]; exact e
theorem pen_new {H : Hp} {pn p : Addr} {n : Nat} {o : HO} (h : PenAt H pn n) (hp : H p = none) : PenAt (upd H p o) pn n := by
  obtain ⟨cl, ns, a, r, h1, h2, h3⟩ := h
  exact ⟨cl, ns, a, r, by rw [upd_ne (ne_of_none h1 hp)]; exact h1, by rw [upd_ne (ne_of_none h2 hp)]; exact h2, h3⟩
theorem PenAt.le {H : Hp} {pn : Addr} {n m : Nat} (h : PenAt H pn n) (le : n ≤ m) : PenAt H pn m := by
  obtain ⟨cl, ns, a, r, h1, h2, h3, h4, h5⟩ := h
  exact ⟨cl, ns, a, r, h1, h2, h3, h4, by omega⟩
def spDraw : Sp := fun vs H Q _ => ∃ (pn : Addr) (m : Int) (n : Nat), vs = [.ref pn, .int m] ∧ 0 < m ∧ m.natAbs.log2 < 9000 ∧ PenAt H pn n ∧ n < 100000 ∧
  ∀ (d : Int) (H' : Hp), 0 ≤ d → d < m → PenAt H' pn (n + 1) → But pn H H' → Q (.int d) H'
/-- pick(pen, some): one of some -/
def spPick : Sp := fun vs H Q _ => ∃ (pn l : Addr) (n : Nat) (xs : List V), vs = [.ref pn, .ref l] ∧ H l = some (.lst xs) ∧ l ≠ pn ∧ 0 < xs.length ∧ xs.length ≤ 1000 ∧ PenAt H pn n ∧ n < 100000 ∧
  ∀ (v : V) (H' : Hp), v ∈ xs → PenAt H' pn (n + 1) → But pn H H' → Q v H'
def spPen (K : PySem.W.Frag) : Sp := fun vs H Q _ => ∃ (a : Addr) (ns : List Int), vs = [.ref a] ∧ SqL K H a (ns.map V.int) ∧
  ∀ (pn : Addr) (H' : Hp), H pn = none → PenAt H' pn 0 → Same H H' → Q (.ref pn) H'
/-! ### lists of ints as data -/
theorem dp_ints {K : PySem.W.Frag} {H : Hp} : ∀ ns : List Int, DpAll K H (ns.map V.int) (ns.map PyData.int)
  | [] => .nil
  | n :: ns => .cons (.int n) (dp_ints ns)
theorem lay_ints : ∀ ns : List Int, PyData.canLayAll0 (ns.map PyData.int) = true
  | [] => rfl
  | n :: ns => by
    show (true && PyData.canLayAll0 (ns.map PyData.int)) = true
    rw [lay_ints ns]
    rfl
theorem dep_ints : ∀ ns : List Int, PyData.depthAll (ns.map PyData.int) = 0
  | [] => rfl
  | n :: ns => by
    show max 0 (PyData.depthAll (ns.map PyData.int)) = 0
    rw [dep_ints ns]
    rfl
theorem shaped_ints (ns : List Int) : SeqAt.shaped (.list (ns.map PyData.int)) = true := by
  show (PyData.canLayAll0 (ns.map PyData.int) && decide (PyData.depthAll (ns.map PyData.int) + 1 ≤ 64)) = true
  rw [lay_ints, dep_ints]
  rfl
theorem pow_lt {i : Int} {b : Nat} (h0 : 0 ≤ i) (h : i < 2 ^ b) : i.natAbs < 2 ^ b := by
  have e : ((2 ^ b : Nat) : Int) = (2 : Int) ^ b := by simp
  omega
theorem mix_lt {x a c d e : Int} (x0 : 0 ≤ x) (x1 : x < 2147483648) (a0 : 0 ≤ a) (a1 : a < 100000) (c0 : 0 ≤ c) (c1 : c ≤ 1000) (d0 : 0 ≤ d) (d1 : d ≤ 100000) (e0 : 0 ≤ e) (e1 : e ≤ 100000) : (x * (2 * a + c) + d * a * a + e).natAbs < 2 ^ 64 := by
  have h1 : x * (2 * a + c) ≤ 2147483648 * 201000 := Int.mul_le_mul (by omega) (by omega) (by omega) (by decide)
  have h2 : 0 ≤ x * (2 * a + c) := Int.mul_nonneg x0 (by omega)
  have h3 : d * a ≤ 100000 * 100000 := Int.mul_le_mul d1 (by omega) a0 (by decide)
  have h4 : 0 ≤ d * a := Int.mul_nonneg d0 a0
  have h5 : d * a * a ≤ (100000 * 100000) * 100000 := Int.mul_le_mul h3 (by omega) a0 (by decide)
  have h6 : 0 ≤ d * a * a := Int.mul_nonneg h4 a0
  generalize x * (2 * a + c) = y at *
  generalize d * a * a = z at *
  refine pow_lt (by omega) (by omega)
theorem cut_ints (ns : List Int) (k : Nat) : cutV (ns.map V.int) none (some (k : Int)) = (ns.take k).map V.int := by
  unfold cutV
  rw [HT.sIx_none, HT.sIx_nat, List.drop_zero, Nat.sub_zero, List.map_take, List.length_map]
  by_cases h : k ≤ ns.length
  · rw [Nat.min_eq_left h]
  · rw [Nat.min_eq_right (by omega), List.take_of_length_le (by rw [List.length_map]; exact Nat.le_refl _), List.take_of_length_le (by rw [List.length_map]; omega)]
/-- names that are still the built-in ones -/
structure BI (mg : Str → Option Value) : Prop where
  z_len : mg "len" = none
  z_abs : mg "abs" = none
  z_int : mg "int" = none
  z_bool : mg "bool" = none
  z_list : mg "list" = none
  z_repr : mg "repr" = none
  z_isinstance : mg "isinstance" = none
  z_range : mg "range" = none
end My
/-! The end of a law whose def shows containers: a def that keeps its promise where nothing is being shown. -/
namespace My
open PySem PySem.Spec PyProof.Rows L2
/-- the heap h at the law's start as the walk sees it: the script's list at a, the tables of code objects -/
structure Begin (P : Program) (w : World) (K : PySem.W.Frag) (cs : List (Addr × Addr)) (a : Addr) (ns : List Int) (H : Hp) (h : Heap) : Prop where
  tbl : ∀ p ∈ cs, H p.2 = some (.tbl #[])
  kind : ∀ b, H b = none ∨ b ∈ cs.map (·.2) ∨ ∃ o xs, H b = some (.frz o (.lst xs))
  seq : SqL K H a (ns.map V.int)
  ok : HOk P w H h
  only : ∀ b, H b ≠ none → b = a ∨ b ∈ cs.map (·.2)
  out : H a ≠ none → K.lookup a = none
/-- what is known of a table and its code object -/
structure TabF (K : PySem.W.Frag) (h : Heap) (p : Addr × Addr) : Prop where
  get : h.get? p.2 = some { cls := .none, data := .fields #[] }
  out : K.lookup p.2 = none
  hd : PySem.W.CodeHd h p.1 p.2
def Goal (l : Program) (w : World) (fa a : Addr) (s₁ : Shared) : Prop := codeAny (model l w) callerA (.call (.ref fa) ⟨[.ref a], []⟩) (fun r s' => r = .ok (.ret (.bool true)) ∧ OldK s₁.heap s'.heap ∧ s'.os = s₁.os ∧ AllBare s'.gens) s₁
theorem tab_get {K : PySem.W.Frag} {h : Heap} {cs : List (Addr × Addr)} (t : ∀ p ∈ cs, TabF K h p) {b : Addr} (hb : b ∈ cs.map (·.2)) : h.get? b = some { cls := .none, data := .fields #[] } := by
  obtain ⟨p, hp, rfl⟩ := List.mem_map.mp hb
  exact (t p hp).get
section
variable {P : Program} {w : World} {K : PySem.W.Frag} {mg mb : Str → Option Value} {k : Nat} {fa a : Addr} {cs : List (Addr × Addr)} {fd : FuncData} {x : Str} {sp : Sp} {s₁ : Shared} {vs : List Value} {ns : List Int}
theorem from_begin {H : Hp} (B : Begin P w K cs a ns H s₁.heap) (hK : K.In s₁.heap) (gN : s₁.heap.Ns mainGlobals mg) (bN : s₁.heap.Ns builtinsNs mb) (bB : ∀ x : Str, x ≠ "__name__" → mb x = bootBuiltins x) (lim : s₁.heap.NoLimit) (gens : s₁.gens = #[])
    (ts : ∀ p ∈ cs, TabF K s₁.heap p) (mB : ∃ (bm : Addr) (ob : Obj), mg "__builtins__" = some (.ref bm) ∧ bm ≠ builtinsNs ∧ s₁.heap.get? bm = some ob ∧ ob.cls = .type "module" ∧ ob.dict = some builtinsNs ∧ ob.data = .plain)
    (la : s₁.heap.get? a = some { cls := .type "list", data := .seq vs.toArray }) (hr : Room k callerA)
    (F : ∀ base : Heap, K.In base → base.Ns mainGlobals mg → (∀ p ∈ cs, LamX.TabB base mg p.1 p.2) → FnG P w K mg base CX0 k fa fd [x] sp) (bd : ∀ (s : Shared) (u : Value), BindsTo s fd ⟨[u], []⟩ [(x, u)])
    (go : sp [.ref a] H (fun v _ => v = .bl true) fun _ _ _ => False) : Goal P w fa a s₁ := by
  have away : ∀ {b : Addr} {o : Obj}, s₁.heap.get? b = some o → (∀ ys n, o.data ≠ .seq ys n) → o.data ≠ .fields #[] → H b = none := fun {b o} e n1 n2 => by
    by_cases q : H b = none
    · exact q
    · exfalso
      rcases B.only b q with rfl | hb
      · rw [la] at e
        injection e with e
        subst e
        exact n1 _ _ rfl
      · rw [tab_get ts hb] at e
        injection e with e
        subst e
        exact n2 rfl
  have seen : ∀ {b : Addr} {o : Obj}, s₁.heap.get? b = some o → H b = none → (hidT s₁.heap H).get? b = some o := fun e n => hidT_get e n
  have nsOf : ∀ {b : Addr} {m : Str → Option Value}, s₁.heap.Ns b m → (hidT s₁.heap H).Ns b m := fun {b m} ⟨o, es, ep, e, d, r⟩ =>
    ⟨o, es, ep, seen e (away e (fun ys n z => by rw [d] at z; cases z) (fun z => by rw [d] at z; cases z)), d, r⟩
  have inK : K.In (hidT s₁.heap H) := fun b o e => by
    refine seen (hK b o e) ?_
    by_cases q : H b = none
    · exact q
    · exfalso
      rcases B.only b q with rfl | hb
      · rw [B.out q] at e
        cases e
      · obtain ⟨p, hp, rfl⟩ := List.mem_map.mp hb
        rw [(ts p hp).out] at e
        cases e
  have modK : L2.Mod K mg (hidT s₁.heap H) := ⟨inK, nsOf gN, ⟨mb, nsOf bN, bB⟩, let ⟨mc, h1, h2⟩ := lim; ⟨mc, nsOf h1, h2⟩⟩
  have tabs : ∀ p ∈ cs, LamX.TabB (hidT s₁.heap H) mg p.1 p.2 := fun p hp => by
    have tp := ts p hp
    refine ⟨?_, ?_, fun z => ?_⟩
    · obtain ⟨o, us, file, tf, flags, tg, inF, text, tt, e1, r1, r2, r3, rs⟩ := tp.hd
      exact ⟨o, us, file, tf, flags, tg, inF, text, tt, seen e1 (away e1 (fun ys n z => by rw [r2] at z; cases z) (fun z => by rw [r2] at z; cases z; simp at r3)), r1, r2, r3, rs⟩
    · obtain ⟨bm, ob, m1, m2, m3, m4, m5, m6⟩ := mB
      refine ⟨bm, ob, m1, m2, fun z => ?_, fun z => ?_, seen m3 (away m3 (fun ys n z => by rw [m6] at z; cases z) (fun z => by rw [m6] at z; cases z)), m4, m5, m6⟩
      · obtain ⟨o, es, ep, e, hd, _⟩ := gN
        rw [z, e] at m3
        cases m3
        rw [hd] at m6
        cases m6
      · rw [z, tp.get] at m3
        cases m3
        cases m6
    · obtain ⟨o, es, ep, e, hd, _⟩ := gN
      rw [z, tp.get] at e
      cases e
      cases hd
  have env0 : Env0 P w K mg (hidT s₁.heap H) callerA [] s₁ H := ⟨rfl, modK, fun b o e => of_hidT e, Nat.le_of_eq (hidT_size _ _), trivial, fun b hb => absurd (show b ∈ ([] : List Addr) from hb) (by simp), B.ok, .of_eq gens⟩
  unfold Goal
  refine codeAny_mono ((F _ inK (nsOf gN) tabs).run callerA [] s₁ H ⟨[.ref a], []⟩ [.ref a] [.ref a] _ _ rfl hr env0 (bd s₁ (.ref a)) (.cons rfl .nil) go) fun r s' done => ?_
  match r, done with
  | .error e, z => exact False.elim z
  | .ok .next, z => exact False.elim z
  | .ok .brk, z => exact False.elim z
  | .ok .cont, z => exact False.elim z
  | .ok (.ret u), ⟨v, H', os, bare, un, ok', r', q⟩ =>
    have q2 : v = .bl true := q
    subst q2
    have q3 : u = Value.bool true := r'
    subst q3
    have stays : ∀ b o, b ∉ cs.map (·.2) → s₁.heap.get? b = some o → s'.heap.get? b = some o := fun b o nb e => by
      rcases B.kind b with z | z | ⟨ob, xs, z⟩
      · exact un.keep b o e z (by intro z; exact absurd (show b ∈ ([] : List Addr) from z) (by simp)) (by simp)
      · exact absurd z nb
      · obtain ⟨e1, _⟩ := B.ok b _ z
        obtain ⟨e2, _⟩ := ok' b _ (un.frzs b ob _ z)
        rw [e] at e1
        cases e1
        exact e2
    have more : ∀ p ∈ cs, ∃ ys : Array Value, s'.heap.get? p.2 = some { cls := .none, data := .fields ys } := fun p hp => by
      obtain ⟨ys, z⟩ := un.tbls p.2 #[] (B.tbl p hp)
      exact ⟨_, ok' p.2 _ z⟩
    refine ⟨rfl, ⟨fun b o e => ?_, fun b o e => ?_⟩, os, bare⟩
    · by_cases hb : b ∈ cs.map (·.2)
      · obtain ⟨p, hp, rfl⟩ := List.mem_map.mp hb
        obtain ⟨ys, hm⟩ := more p hp
        rw [(ts p hp).get] at e
        cases e
        exact .inr (.inl ⟨((ts p hp).hd.tab (ts p hp).get).isCodeTable, rfl, #[], ys, rfl, by rw [Array.empty_append]; exact hm⟩)
      · exact .inl (stays b o hb e)
    · by_cases hb : b ∈ cs.map (·.2)
      · obtain ⟨p, hp, rfl⟩ := List.mem_map.mp hb
        obtain ⟨ys, hm⟩ := more p hp
        exact ⟨_, hm⟩
      · exact ⟨o, stays b o hb e⟩
/-- such a beginning is to be had -/
theorem begins (hK : K.In s₁.heap) (ts : ∀ p ∈ cs, TabF K s₁.heap p) (la : s₁.heap.get? a = some { cls := .type "list", data := .seq vs.toArray }) (hi : IntsAre vs ns) (hl : ns.length ≤ sizeLine) : ∃ H, Begin P w K cs a ns H s₁.heap := by
  have nt : a ∉ cs.map (·.2) := fun z => by
    have q := tab_get ts z
    rw [la] at q
    injection q with q
    injection q with _ _ q _
    cases q
  have rv := vals_ints hi
  let O : Option HO := if (K.lookup a).isSome = true then none else some (.frz { cls := .type "list", data := .seq vs.toArray } (.lst (ns.map V.int)))
  have atT : ∀ b, b ∈ cs.map (·.2) → (if b ∈ cs.map (·.2) then some (HO.tbl #[]) else if b = a then O else none) = some (HO.tbl #[]) := fun b h => if_pos h
  have atA : (if a ∈ cs.map (·.2) then some (HO.tbl #[]) else if a = a then O else none) = O := (if_neg nt).trans (if_pos rfl)
  have atN : ∀ b, b ∉ cs.map (·.2) → b ≠ a → (if b ∈ cs.map (·.2) then some (HO.tbl #[]) else if b = a then O else none) = none := fun b h1 h2 => (if_neg h1).trans (if_neg h2)
  refine ⟨fun b => if b ∈ cs.map (·.2) then some (.tbl #[]) else if b = a then O else none, fun p hp => atT _ (List.mem_map.mpr ⟨p, hp, rfl⟩), fun b => ?_, ?_, fun b u z => ?_, fun b z => ?_, fun z => ?_⟩
  · by_cases h1 : b ∈ cs.map (·.2)
    · exact .inr (.inl h1)
    · by_cases h2 : b = a
      · subst h2
        by_cases h3 : (K.lookup b).isSome = true
        · exact .inl (atA.trans (if_pos h3))
        · exact .inr (.inr ⟨_, _, atA.trans (if_neg h3)⟩)
      · exact .inl (atN b h1 h2)
  · cases h3 : K.lookup a with
    | none =>
      refine .inl (.inr ⟨_, atA.trans (if_neg ?_)⟩)
      rw [h3]
      exact Bool.noConfusion
    | some o =>
      have e := hK a o h3
      rw [la] at e
      cases e
      exact .inr ⟨_, vs.toArray, _, h3, rfl, rfl, rfl, by rw [List.size_toArray, hi.length]; exact hl, by simpa using rv⟩
  · by_cases h1 : b ∈ cs.map (·.2)
    · have z' := (atT b h1).symm.trans z
      cases z'
      exact tab_get ts h1
    · by_cases h2 : b = a
      · subst h2
        have z' := atA.symm.trans z
        by_cases h3 : (K.lookup b).isSome = true
        · have z2 := (if_pos h3).symm.trans z'
          cases z2
        · have z2 := (if_neg h3).symm.trans z'
          cases z2
          exact ⟨la, by rw [List.length_map]; exact hl, vs, _, rv, la⟩
      · have z' := (atN b h1 h2).symm.trans z
        cases z'
  · by_cases h1 : b ∈ cs.map (·.2)
    · exact .inr h1
    · by_cases h2 : b = a
      · exact .inl h2
      · exact absurd (atN b h1 h2) z
  · cases h3 : K.lookup a with
    | none => rfl
    | some o => exact absurd (atA.trans (if_pos (by rw [h3]; rfl))) z
end
/-- what is known of the law's promise at the head's heap h; TF: what the top says of the tables -/
def LawG (l : PySem.W.OpenLaw) (w : World) (K : PySem.W.Frag) (k n : Nat) (x : Str) (mg : Str → Option Value) (fa : Addr) (h : Heap) : Prop :=
  ∃ (fd : FuncData) (cs : List (Addr × Addr)) (sp : Sp), (∀ p ∈ cs, TabF K h p) ∧ (∀ (s : Shared) (u : Value), BindsTo s fd ⟨[u], []⟩ [(x, u)]) ∧
    (∀ (H : Hp) (a : Addr) (ns : List Int), ns.length ≤ n → (∀ z ∈ ns, Builtin.Int.intBits z ≤ 1048576) → (∀ p ∈ cs, H p.2 = some (.tbl #[])) → SqL K H a (ns.map V.int) → sp [.ref a] H (fun v _ => v = .bl true) fun _ _ _ => False) ∧
    ∀ base : Heap, K.In base → base.Ns mainGlobals mg → (∀ p ∈ cs, LamX.TabB base mg p.1 p.2) → FnG l.prog w K mg base CX0 k fa fd [x] sp
theorem walk_G {l : PySem.W.OpenLaw} {n k : Nat} {q : Program} {loose : List Str} {XP : (Str → Option Value) → Heap → Prop} {YP : World → Heap → Prop} {d : DefRec} {K : Params → PySem.W.Frag} {x : Str}
    (hn : l.most = some n) (hn2 : n ≤ sizeLine) (hdf : d.params.defaults = []) (hr : Room k callerA) (hY : ∀ (w : World) (h : Heap), YP w h → (K w.params).In h)
    (F : ∀ (w : World) (mg : Str → Option Value) (fa : Addr) (h : Heap), YP w h → (K w.params).In h → h.Ns mainGlobals mg → mg d.name = some (.ref fa) →
      (∀ (y : Str) (c T : Addr), ((recsOf q).any fun e => e.name == y) = true → PySem.W.tabIn (K w.params) y = some (c, T) → (K w.params).lookup T = none → TabF (K w.params) h (c, T)) → LawG l w (K w.params) k n x mg fa h) :
    PySem.W.WalkO q loose XP YP l.row.toRowW d [] (fun f vs => PySem.call f vs) := by
  refine Att.attach_callB hn hdf fun w s₀ s₁ mg mb fa o pm cd doc a vs ns G Y ho hd hcd hmg hobj hints hlen hbits hg => ?_
  have KX := hY w _ Y
  obtain ⟨fd, cs, sp, ts, hb, hsp, hF⟩ := F w mg fa _ Y KX G.T.g hmg fun y c T hrec hT hN => by
    obtain ⟨e, he⟩ := Option.isSome_iff_exists.mp (show ((recsOf q).find? fun e => e.name == y).isSome = true by rw [List.find?_isSome]; obtain ⟨e, h1, h2⟩ := List.any_eq_true.mp hrec; exact ⟨e, h1, h2⟩)
    obtain ⟨h1, h2⟩ := PySem.W.tab_of G.T KX he hT
    exact ⟨h2, hN, h1⟩
  obtain ⟨H, B⟩ := begins (P := l.prog) (w := w) KX ts hobj hints (Nat.le_trans hlen hn2)
  exact from_begin B KX G.T.g G.T.b G.T.builtins G.T.nolimit hg ts G.T.bmain hobj hr hF hb (hsp H a ns hlen hbits B.tbl B.seq)
end My
/-! What the top has written, by name. -/
namespace My
open PySem PySem.Spec PyProof.Rows L2
/-- the module has the def -/
structure Has (K : PySem.W.Frag) (mg : Str → Option Value) (x : Str) (st : Stmt) : Prop where
  ex : ∃ f fd, mg x = some (.ref f) ∧ Fun K x x st f fd
/-- a def that makes functions, its code object at c -/
structure HasC (K : PySem.W.Frag) (mg : Str → Option Value) (x : Str) (st : Stmt) (c : Addr) : Prop where
  ex : ∃ (f : Addr) (oc : Value) (od : Option Addr) (kV doc pm : Value) (an : Option Addr) (ct : Value) (osl : Array (Option Value)), mg x = some (.ref f) ∧
    K.lookup f = some ⟨oc, od, .func (PySem.W.fnOf x x (defArgs st) (defBody st) (defScope st) .none kV doc pm an (.ref c) ct), osl⟩ ∧ PySem.W.codeIn K (.ref c) x = true ∧ PySem.W.keepIn K (.ref f) = true
/-- the class has the method -/
structure HasM (K : PySem.W.Frag) (C : Addr) (m qual : Str) (st : Stmt) : Prop where
  ex : ∃ f fd, PySem.W.findIn K (.ref C) m = some (some (.ref f)) ∧ PySem.W.isFn K (.ref f) = true ∧ Fun K m qual st f fd
/-- the class has the method, with defaults -/
structure HasD (K : PySem.W.Frag) (C : Addr) (m qual : Str) (st : Stmt) (dvs : List V) (kws : List (Str × V)) : Prop where
  ex : ∃ f fd, PySem.W.findIn K (.ref C) m = some (some (.ref f)) ∧ PySem.W.isFn K (.ref f) = true ∧ FunD K m qual (defArgs st) (defBody st) (defScope st) dvs kws f fd
section
variable {P : Program} {w : World} {K : PySem.W.Frag} {mg : Str → Option Value} {base : Heap} {CX : CXT} {k : Nat} {x m qual : Str} {st : Stmt} {ps ks : List Str} {sp : Sp} {C c : Addr}
def BindW (x qual : Str) (st : Stmt) (ps : List Str) : Prop := ∀ (kV doc pm : Value) (an : Option Addr) (cdv ct : Value) (us : List Value), us.length = ps.length → bindArgs (PySem.W.fnOf x qual (defArgs st) (defBody st) (defScope st) .none kV doc pm an cdv ct) ⟨us, []⟩ = pure (ps.zip us)
theorem def_at (A : Has K mg x st) (ok : ∀ f fd, Fun K x x st f fd → FnOk P w K mg base CX k f fd ps sp) (b : BindW x x st ps) : DefAt P w K mg base CX k x ps sp := by
  obtain ⟨f, fd, h1, F⟩ := A.ex
  exact ⟨f, fd, ok f fd F, h1, F.kp, F.binds b⟩
theorem def_atG (A : Has K mg x st) (ok : ∀ f fd, Fun K x x st f fd → FnG P w K mg base CX k f fd ps sp) (b : BindW x x st ps) : DefG P w K mg base CX k x ps sp := by
  obtain ⟨f, fd, h1, F⟩ := A.ex
  exact ⟨f, fd, ok f fd F, h1, F.kp, F.binds b⟩
theorem meth_at (A : HasM K C m qual st) (ok : ∀ f fd, Fun K m qual st f fd → FnOk P w K mg base CX k f fd ps sp) (b : BindW m qual st ps) : MethAt P w K mg base CX k C m ps sp := by
  obtain ⟨f, fd, h1, h2, F⟩ := A.ex
  exact ⟨f, fd, ⟨h1, h2, F.kp⟩, ok f fd F, F.binds b⟩
theorem call_at (A : HasM K C "__call__" qual st) (ok : ∀ f fd, Fun K "__call__" qual st f fd → FnOk P w K mg base CX k f fd ps sp) (b : BindW "__call__" qual st ps) : CallAt P w K mg base CX k C ps sp := by
  obtain ⟨f, fd, h1, h2, F⟩ := A.ex
  obtain ⟨oc, od, kV, doc, pm, an, cdv, ct, osl, e, lk, _⟩ := F.ex
  refine ⟨f, fd, ⟨h1, h2, ?_⟩, ok f fd F, F.binds b⟩
  unfold PySem.W.fnIn
  rw [lk]
theorem cmp_at (A : HasM K C m qual st) (ok : ∀ f fd, Fun K m qual st f fd → FnOk P w K mg base CX k f fd ps sp) (b : BindW m qual st ps) : CmpAt P w K mg base CX k C m ps sp := by
  obtain ⟨f, fd, h1, h2, F⟩ := A.ex
  exact ⟨f, fd, h1, h2, ok f fd F, F.binds b⟩
/-- called with keywords alone -/
theorem methK_at {gV : List V → List V → List V} {g : List Value → List Value → List Value} (A : HasM K C m qual st) (ok : ∀ f fd, Fun K m qual st f fd → FnOk P w K mg base CX k f fd ps sp)
    (b : ∀ (kV doc pm : Value) (an : Option Addr) (cdv ct : Value) (us ws : List Value), us.length = 1 → ws.length = ks.length → bindArgs (PySem.W.fnOf m qual (defArgs st) (defBody st) (defScope st) .none kV doc pm an cdv ct) ⟨us, ks.zip ws⟩ = pure (ps.zip (g us ws)))
    (r : ∀ {vs : List V} {us : List Value} {zs : List V} {ws : List Value}, Vals vs us → Vals zs ws → Vals (gV vs zs) (g us ws)) : MethK P w K mg base CX k C m ps ks sp gV := by
  obtain ⟨f, fd, h1, h2, F⟩ := A.ex
  obtain ⟨oc, od, kV, doc, pm, an, cdv, ct, osl, rfl, lk, hcd⟩ := id F.ex
  exact ⟨f, _, g, ⟨h1, h2, F.kp⟩, ok f _ F, ⟨fun s us ws _ l1 l2 => .of_eq (b kV doc pm an cdv ct us ws l1 l2), r⟩⟩
/-- the class is made with all its arguments -/
theorem make_all {dvs : List V} (A : HasD K C "__init__" qual st dvs []) (hx : mg x = some (.ref C)) (mk : PySem.W.makesIn K C = true) (kp : PySem.W.keepIn K (.ref C) = true) (ok : ∀ f fd, FunD K "__init__" qual (defArgs st) (defBody st) (defScope st) dvs [] f fd → FnOk P w K mg base CX k f fd ps sp) (hd : dvs ≠ [])
    (b : ∀ (T : Addr) (kV doc pm : Value) (an : Option Addr) (cdv ct : Value) (us its : List Value), us.length = ps.length → its.length = dvs.length →
      ∃ k, bindArgs (PySem.W.fnOf "__init__" qual (defArgs st) (defBody st) (defScope st) (.ref T) kV doc pm an cdv ct) ⟨us, []⟩ = seqItems? (.ref T) >>= k ∧ k (some its.toArray) = pure (ps.zip (us ++ its.drop dvs.length))) : MakeAt P w K mg base CX k x C ps sp [] := by
  obtain ⟨f, fd, h1, h2, F⟩ := A.ex
  obtain ⟨ds, r, bs⟩ := F.binds1 ps.length dvs.length hd (by omega) b
  rw [List.drop_length] at r
  exact ⟨f, fd, ds, ⟨mk, h1, h2, kp⟩, ok f fd F, hx, bs, r⟩
end
end My
/-! Ints beside instances: the int's own slots decline. -/
namespace My
open PySem PySem.Spec PyProof.Rows
def Plain (h : Heap) (l : Addr) : Prop := ∃ (c : Value) (d : Option Addr) (sl : Array (Option Value)), h.get? l = some { cls := c, dict := d, data := .plain, slots := sl }
def Declines (B : Builtin) (a : Int) (t : Tok) (l : Addr) : Prop := Meets (B ⟨[.int a t, .ref l], []⟩) fun _ R s => Plain s.heap l ∧ R (.ok (.ret Value.notImplemented)) s
theorem dec_add (a : Int) (t : Tok) (l : Addr) : Declines Builtin.«int.__add__» a t l :=
  .of_wp fun prog w A R s h => by obtain ⟨hp, g, d, tk, os⟩ := s; obtain ⟨⟨c, dd, sl, hl⟩, h⟩ := h; wp_walk; exact ⟨_, rfl, h⟩
theorem dec_sub (a : Int) (t : Tok) (l : Addr) : Declines Builtin.«int.__sub__» a t l :=
  .of_wp fun prog w A R s h => by obtain ⟨hp, g, d, tk, os⟩ := s; obtain ⟨⟨c, dd, sl, hl⟩, h⟩ := h; wp_walk; exact ⟨_, rfl, h⟩
theorem dec_mul (a : Int) (t : Tok) (l : Addr) : Declines Builtin.«int.__mul__» a t l :=
  .of_wp fun prog w A R s h => by obtain ⟨hp, g, d, tk, os⟩ := s; obtain ⟨⟨c, dd, sl, hl⟩, h⟩ := h; wp_walk; exact ⟨_, rfl, h⟩
theorem dec_floordiv (a : Int) (t : Tok) (l : Addr) : Declines Builtin.«int.__floordiv__» a t l :=
  .of_wp fun prog w A R s h => by obtain ⟨hp, g, d, tk, os⟩ := s; obtain ⟨⟨c, dd, sl, hl⟩, h⟩ := h; wp_walk; exact ⟨_, rfl, h⟩
theorem dec_mod (a : Int) (t : Tok) (l : Addr) : Declines Builtin.«int.__mod__» a t l :=
  .of_wp fun prog w A R s h => by obtain ⟨hp, g, d, tk, os⟩ := s; obtain ⟨⟨c, dd, sl, hl⟩, h⟩ := h; wp_walk; exact ⟨_, rfl, h⟩
theorem dec_lt (a : Int) (t : Tok) (l : Addr) : Declines Builtin.«int.__lt__» a t l :=
  .of_wp fun prog w A R s h => by obtain ⟨hp, g, d, tk, os⟩ := s; obtain ⟨⟨c, dd, sl, hl⟩, h⟩ := h; wp_walk; exact ⟨_, rfl, h⟩
theorem dec_le (a : Int) (t : Tok) (l : Addr) : Declines Builtin.«int.__le__» a t l :=
  .of_wp fun prog w A R s h => by obtain ⟨hp, g, d, tk, os⟩ := s; obtain ⟨⟨c, dd, sl, hl⟩, h⟩ := h; wp_walk; exact ⟨_, rfl, h⟩
theorem dec_gt (a : Int) (t : Tok) (l : Addr) : Declines Builtin.«int.__gt__» a t l :=
  .of_wp fun prog w A R s h => by obtain ⟨hp, g, d, tk, os⟩ := s; obtain ⟨⟨c, dd, sl, hl⟩, h⟩ := h; wp_walk; exact ⟨_, rfl, h⟩
theorem dec_ge (a : Int) (t : Tok) (l : Addr) : Declines Builtin.«int.__ge__» a t l :=
  .of_wp fun prog w A R s h => by obtain ⟨hp, g, d, tk, os⟩ := s; obtain ⟨⟨c, dd, sl, hl⟩, h⟩ := h; wp_walk; exact ⟨_, rfl, h⟩
theorem dec_eq (a : Int) (t : Tok) (l : Addr) : Declines Builtin.«int.__eq__» a t l :=
  .of_wp fun prog w A R s h => by obtain ⟨hp, g, d, tk, os⟩ := s; obtain ⟨⟨c, dd, sl, hl⟩, h⟩ := h; wp_walk; exact ⟨_, rfl, h⟩
end My
/-! Own operators: an instance beside an instance, beside an int, an int beside it, in place, the sign. -/
namespace My
open PySem PySem.Spec PySem.Calls PyProof.Rows L2
section
open PySem.W
variable {prog : Program} {w : World} {A : Around} {E : Value → Shared → Prop} {s : Shared} {K : Frag} {x C L f f0 : Addr} {h₀ : Heap} {m : Str → Option Value} {ox : Obj} {od : Option Obj}
/-- what is known of the int's slot -/
structure IntSlot (K : Frag) (nm : String) (id : String) (B : Builtin) : Prop where
  slot : Slot "int" (PySem.dunder nm) id
  entry : entryFor table id = some B
  args : ∀ a b : Value, argsOk id ⟨[a, b], []⟩
  dec : ∀ a t l, Declines B a t l
theorem int_plain (i : Int) (t : Tok) (s : Shared) : s.TypeIs (.int i t) "int" := by
  first | exact .int | exact trivial | rfl | exact ⟨_, rfl⟩
theorem int_call {i : Int} {t : Tok} {nm id : String} {B : Builtin} {Q : Value → Shared → Prop} (S : IntSlot K nm id B) (hp : Plain s.heap x) (h : Q .notImplemented s) : wpAny (model prog w) A (call (.builtin id) [.int i t, .ref x]) Q E s :=
  call_meets S.slot (int_plain i t s) S.entry (S.args _ _) (S.dec i t x) ⟨hp, h⟩
/-- an int beside an instance: the reflected method -/
theorem binR_K {op : Operator} {i : Int} {t : Tok} {id : String} {B : Builtin} {fo ro : Option Value} {Q : Value → Shared → Prop} (S : IntSlot K op.info.2 id B) (F : Fr h₀ L s.heap m) (X₀ : K.In h₀) (I : InstAt s.heap x ox C od) (hp : Plain s.heap x) (hc : selfFirst K C = true)
    (hs : findIn K (.ref C) (PySem.dunder op.info.2) = some (some (.ref f0))) (hr : findIn K (.ref C) (dunderR op.info.2) = some (some (.ref f))) (hf : isFn K (.ref f) = true)
    (h1 : findIn K (.type "int") (PySem.dunder op.info.2) = some fo) (h2 : findIn K (.type "int") (dunderR op.info.2) = some ro) (hl : ((fo.isSome && !isSeqSlot fo) || (ro.isSome && !isSeqSlot ro)) = true) (hsub : subIn K (.ref C) (.type "int") = some false)
    (h : wpAny (model prog w) A (call (.ref f) [.ref x, .int i t]) (PySem.W.CmpBack Q) E s) : wpAny (model prog w) A (binaryOp op (.int i t) (.ref x)) Q E s := by
  have X := X₀.keeps F.keep
  obtain ⟨cd, rest, hcd, hm⟩ := ksp_first hc
  have two := ksp_try X I hr hf h
  rcases hi : op.info with ⟨sym, nm'⟩
  rw [hi] at hs hr h1 h2 S two
  dsimp only at hs hr h1 h2 S two
  have one : wpAny (model prog w) A (tryMethod (.int i t) (PySem.dunder nm') (.ref x)) (fun r s' => r = none ∧ s' = s) E s := wpAny_tryMethod_declines (int_plain i t s) S.slot (int_call S hp ⟨rfl, rfl, rfl⟩)
  obtain ⟨hh, g, d, tt, os⟩ := s
  have L1 : Looks (model prog w) hh (typeOf (.ref x)) (.ref C) := I.type
  have L2 : Looks (model prog w) hh (typeOf (.int i t)) (.type "int") := Looks.of_pure rfl
  have L3 : Looks (model prog w) hh (fillsNumberSlot (.ref C) nm') true := fills_K X hcd hm hs
  have L4 : Looks (model prog w) hh (fillsNumberSlot (.type "int") nm') true := hl ▸ ksp_fillsT X h1 h2
  have L5 : Looks (model prog w) hh (isSubtype (.ref C) (.type "int")) false := looks_subIn X hsub
  have L7 : Looks (model prog w) hh (numberSlotInPython (.type "int") nm') false := Looks.of_pure rfl
  have hne : (Value.type "int" == Value.ref C) = false := Bool.eq_false_iff.mpr fun q => by cases beq_iff_eq.mp q
  simp only [binaryOp, hi]
  refine wpAny_holding (wpAny_bind ?_)
  unfold binaryOp1
  refine wpAny_bind (L2.at (wpAny_bind (L1.at (wpAny_bind (L4.at ?_)))))
  simp only [hne, Bool.false_eq_true, if_false]
  ksp_lk
  refine wpAny_mono one (fun r s' hr' => ?_) fun _ _ e => e
  obtain ⟨rfl, rfl⟩ := hr'
  ksp_lk
  refine wpAny_mono two (fun r s' hr' => ?_) fun _ _ e => e
  obtain ⟨v, rfl, hq⟩ := hr'
  ksp_lk
  exact hq
/-- an int compared with an instance: the reflected method -/
theorem cmpR_K {op : CmpOp} {i : Int} {t : Tok} {id : String} {B : Builtin} {Q : Value → Shared → Prop} (hu : A.units < cLine) (sl : Slot "int" (cmpInfo op).2.1 id) (en : entryFor table id = some B) (ar : ∀ a b : Value, argsOk id ⟨[a, b], []⟩) (de : ∀ a t l, Declines B a t l)
    (F : Fr h₀ L s.heap m) (X₀ : K.In h₀) (I : InstAt s.heap x ox C od) (hp : Plain s.heap x) (hs : findIn K (.ref C) (cmpInfo op).2.2 = some (some (.ref f))) (hf : isFn K (.ref f) = true) (hsub : subIn K (.ref C) (.type "int") = some false)
    (h : wpAny (model prog w) A (call (.ref f) [.ref x, .int i t]) (PySem.W.CmpBack Q) E s) (h1 : oneThing? op (.int i t) (.ref x) = none) : wpAny (model prog w) A (richCompare op (.int i t) (.ref x)) Q E s := by
  have X := X₀.keeps F.keep
  have two : wpAny (model prog w) A (tryCompare (.ref x) (cmpInfo op).2.2 (.int i t)) (fun r s' => ∃ v, r = some v ∧ Q v s') E s := by
    unfold tryCompare
    refine wpAny_bind (ifBound_K X I hs hf (wpAny_mono h (fun v s' hv => ?_) fun _ _ e => e))
    cases v <;> first | exact hv.elim | exact wpAny_pure ⟨_, rfl, hv⟩
  have one : wpAny (model prog w) A (tryCompare (.int i t) (cmpInfo op).2.1 (.ref x)) (fun r s' => r = none ∧ s' = s) E s :=
    wpAny_tryCompare_declines (int_plain i t s) sl (call_meets sl (int_plain i t s) en (ar _ _) (de i t x) ⟨hp, rfl, rfl, rfl⟩)
  have hne : (Value.type "int" != Value.ref C) = true := by
    have : (Value.type "int" == Value.ref C) = false := Bool.eq_false_iff.mpr fun q => by cases beq_iff_eq.mp q
    simp [bne, this]
  unfold richCompare
  simp only [h1]
  refine wpAny_holding (wpAny_bind (wpAny_cRoomFor hu ?_))
  refine wpAny_bind ((Looks.of_pure (show typeOf (.int i t) = pure (.type "int") from rfl)).here (wpAny_bind (I.type.here ?_)))
  simp only [hne, if_true]
  refine wpAny_bind ((looks_subIn X hsub).here ?_)
  simp only [Bool.false_eq_true, if_false, Bool.not_false, if_true]
  refine wpAny_bind (wpAny_mono one (fun r s' z => ?_) fun _ _ e => e)
  obtain ⟨rfl, rfl⟩ := z
  refine wpAny_bind (wpAny_mono two (fun r s' z => ?_) fun _ _ e => e)
  obtain ⟨v, rfl, hq⟩ := z
  exact wpAny_pure hq
end
/-! ### a method run somewhere below the body -/
structure Und (X : Cx) (n : Nat) (A : Around) : Prop where
  room : Room n A
  fr : A.frames = X.A.frames
theorem Und.here {X : Cx} {n : Nat} (hr : Room n X.A) : Und X n X.A := ⟨hr, rfl⟩
theorem Und.in1 {X : Cx} {n : Nat} {A : Around} (u : Und X (n + 1) A) : Und X n A.in1 := ⟨u.room.in1, u.fr⟩
section
variable {X : Cx} {pins : List (Addr × Obj)} {σ : L2.St} {H : Hp} {s : Shared} {CX : CXT} {k : Nat} {ps : List Str} {sp : Sp} {E : XK} {C : Addr} {m : Str}
theorem run_at {f : Addr} {fd : FuncData} {A : Around} {vs : List V} {us : List Value} {Q : VK} (F : FnOk X.prog X.w X.K X.mg X.base CX k f fd ps sp) (hb : L2.Binds X.K fd ps []) (hx : Passes CX X E) (u : Und X k A) (I : Inv X pins σ H s) (r : Vals vs us) (hsp : sp vs H Q E) :
    wpAny (model X.prog X.w) A (call (.ref f) us) (EP X pins σ Q) X.xe s := by
  have e0 : Env0 X.prog X.w X.K X.mg X.base A X.stack s H := by
    have e := I.env0
    exact ⟨by rw [u.fr]; exact e.frames, e.mod, e.bs, e.bsz, e.funs, e.frf, e.hok, e.bare⟩
  have hl : (us ++ []).length = ps.length := by rw [List.append_nil, ← r.length]; exact F.len _ _ _ _ hsp
  have bd := hb s us I.kIn hl
  rw [List.append_nil] at bd
  refine wpAny_call (codeAny_mono (F.run A X.stack s H ⟨us, []⟩ us vs _ E u.room e0 bd r hsp) fun r s' hq => ?_)
  match r, hq with
  | .error e, hq => exact hx pins σ H s e s' I hq
  | .ok (.ret z), hq => exact I.after hq
  | .ok .next, hq => exact False.elim hq
  | .ok .brk, hq => exact False.elim hq
  | .ok .cont, hq => exact False.elim hq
theorem ep_back {Q : VK} {v : Value} {s' : Shared} (h : EP X pins σ Q v s') : PySem.W.CmpBack (EP X pins σ Q) v s' := by
  cases v with
  | notImplemented =>
    obtain ⟨zv, H', I', rz, q'⟩ := h
    cases zv <;> first | (cases rz; done) | (obtain ⟨_, rz⟩ := rz; cases rz)
  | _ => exact h
theorem ins_plain {a dx : Addr} {fs : List (Str × V)} (I : Inv X pins σ H s) (ha : H a = some (.ins C dx fs)) : ∃ (ox od : Obj), PySem.W.InstAt s.heap a ox C (some od) ∧ Plain s.heap a := by
  obtain ⟨mA, J, _⟩ := ins_get I.hok ha
  have g : Plain s.heap a := ⟨_, _, _, J.1⟩
  obtain ⟨od, J, _⟩ := J.look
  exact ⟨_, od, J, g⟩
/-- a two-place method of C beside an instance of C or an int -/
structure BinF (K : PySem.W.Frag) (C : Addr) (nm : String) : Prop where
  sf : PySem.W.selfFirst K C = true
  rc : ∃ rc, PySem.W.findIn K (.ref C) (dunderR nm) = some rc ∧ (rc = none ∨ ∃ g : Addr, rc = some (.ref g))
  i1 : ∃ fo, PySem.W.findIn K (.type "int") (PySem.dunder nm) = some fo
  i2 : ∃ ro, PySem.W.findIn K (.type "int") (dunderR nm) = some ro
  su : PySem.W.subIn K (.type "int") (.ref C) = some false
def OrInt (H : Hp) (C : Addr) (y : V) : Prop := (∃ b dy gs, y = .ref b ∧ H b = some (.ins C dy gs)) ∨ ∃ j, y = .int j
def rBinO (C : Addr) (sp : Sp) (E : XK) : R2 := fun x y H Q => ∃ a dx fs, x = .ref a ∧ H a = some (.ins C dx fs) ∧ OrInt H C y ∧ sp [x, y] H Q E
theorem op_binO {op : Operator} (M : CmpAt X.prog X.w X.K X.mg X.base CX k C m ps sp) (B : BinF X.K C op.info.2) (hr : Room k X.A) (hx : Passes CX X E) (hm : PySem.dunder op.info.2 = m := by rfl) : OpR X (binaryOp op) (rBinO C sp E) := by
  intro pins s σ H x y v u Q I rx ry h
  obtain ⟨f, fd, hs, hf, F, hb⟩ := M.ex
  obtain ⟨a, dx, fs, rfl, ha, oi, hsp⟩ := h
  obtain rfl : v = Value.ref a := rx
  obtain ⟨ox, od, J, _⟩ := ins_plain I ha
  obtain ⟨m', hF⟩ := I.fr
  subst hm
  have go : wpAny (model X.prog X.w) X.A (call (.ref f) [.ref a, u]) (PySem.W.CmpBack (EP X pins σ Q)) X.xe s := wpAny_mono (run_at (vs := [.ref a, y]) F hb hx (Und.here hr) I (.cons rfl (.cons ry .nil)) hsp) (fun _ _ z => ep_back z) fun _ _ z => z
  rcases oi with ⟨b, dy, gs, rfl, hb'⟩ | ⟨j, rfl⟩
  · obtain rfl : u = Value.ref b := ry
    obtain ⟨oy, od', J', _⟩ := ins_plain I hb'
    exact PySem.W.binop_K hF I.ok.mod.kin J J'.type B.sf hs hf go
  · obtain ⟨t, rfl⟩ := ry
    obtain ⟨rc, r1, r2⟩ := B.rc
    obtain ⟨fo, i1⟩ := B.i1
    obtain ⟨ro, i2⟩ := B.i2
    exact PySem.W.ksp_binT hF I.ok.mod.kin J rfl B.sf hs hf r1 r2 i1 i2 B.su go
/-- an int beside an instance: the reflected method -/
structure RefF (K : PySem.W.Frag) (C : Addr) (nm : String) : Prop where
  sf : PySem.W.selfFirst K C = true
  f0 : ∃ f : Addr, PySem.W.findIn K (.ref C) (PySem.dunder nm) = some (some (.ref f))
  ii : ∃ fo ro, PySem.W.findIn K (.type "int") (PySem.dunder nm) = some fo ∧ PySem.W.findIn K (.type "int") (dunderR nm) = some ro ∧ ((fo.isSome && !isSeqSlot fo) || (ro.isSome && !isSeqSlot ro)) = true
  su : PySem.W.subIn K (.ref C) (.type "int") = some false
def rBinR (C : Addr) (sp : Sp) (E : XK) : R2 := fun x y H Q => ∃ i b dy gs, x = .int i ∧ y = .ref b ∧ H b = some (.ins C dy gs) ∧ sp [y, x] H Q E
theorem op_binR {op : Operator} {id : String} {Bu : Builtin} (M : CmpAt X.prog X.w X.K X.mg X.base CX k C m ps sp) (S : IntSlot X.K op.info.2 id Bu) (B : RefF X.K C op.info.2) (hr : Room k X.A) (hx : Passes CX X E) (hm : dunderR op.info.2 = m := by rfl) : OpR X (binaryOp op) (rBinR C sp E) := by
  intro pins s σ H x y v u Q I rx ry h
  obtain ⟨f, fd, hs, hf, F, hb⟩ := M.ex
  obtain ⟨i, b, dy, gs, rfl, rfl, hb', hsp⟩ := h
  obtain rfl : u = Value.ref b := ry
  obtain ⟨t, rfl⟩ := rx
  obtain ⟨ox, od, J, pl⟩ := ins_plain I hb'
  obtain ⟨m', hF⟩ := I.fr
  subst hm
  obtain ⟨f0, h0⟩ := B.f0
  obtain ⟨fo, ro, i1, i2, i3⟩ := B.ii
  exact binR_K S hF I.ok.mod.kin J pl B.sf h0 hs hf i1 i2 i3 B.su (wpAny_mono (run_at (vs := [.ref b, .int i]) F hb hx (Und.here hr) I (.cons rfl (.cons ⟨t, rfl⟩ .nil)) hsp) (fun _ _ z => ep_back z) fun _ _ z => z)
theorem is_add {K : PySem.W.Frag} : IntSlot K (Operator.info .Add).2 "int.__add__" Builtin.«int.__add__» := ⟨PySem.F.slot_int_add, PySem.F.entry_int_add, PySem.F.args_int_add_2, dec_add⟩
theorem is_sub {K : PySem.W.Frag} : IntSlot K (Operator.info .Sub).2 "int.__sub__" Builtin.«int.__sub__» := ⟨PySem.F.slot_int_sub, PySem.F.entry_int_sub, PySem.F.args_int_sub_2, dec_sub⟩
theorem is_mul {K : PySem.W.Frag} : IntSlot K (Operator.info .Mult).2 "int.__mul__" Builtin.«int.__mul__» := ⟨PySem.F.slot_int_mul, PySem.F.entry_int_mul, PySem.F.args_int_mul_2, dec_mul⟩
/-- an int compared with an instance -/
def rCmpR (C : Addr) (sp : Sp) (E : XK) : R2 := fun x y H Q => ∃ i b dy gs, x = .int i ∧ y = .ref b ∧ H b = some (.ins C dy gs) ∧ sp [y, x] H Q E
theorem op_cmpRv {op : CmpOp} {id : String} {Bu : Builtin} (M : CmpAt X.prog X.w X.K X.mg X.base CX k C m ps sp) (su : PySem.W.subIn X.K (.ref C) (.type "int") = some false) (hr : Room k X.A) (hx : Passes CX X E) (hm : (cmpInfo op).2.2 = m) (hco : ∀ v u, compareOp op v u = richCompare op v u)
    (h1 : ∀ i t b, oneThing? op (.int i t) (.ref b) = none) (sl : Slot "int" (cmpInfo op).2.1 id) (en : entryFor table id = some Bu) (ar : ∀ a b : Value, argsOk id ⟨[a, b], []⟩) (de : ∀ a t l, Declines Bu a t l) : OpR X (compareOp op) (rCmpR C sp E) := by
  intro pins s σ H x y v u Q I rx ry h
  obtain ⟨f, fd, hs, hf, F, hb⟩ := M.ex
  obtain ⟨i, b, dy, gs, rfl, rfl, hb', hsp⟩ := h
  obtain rfl : u = Value.ref b := ry
  obtain ⟨t, rfl⟩ := rx
  obtain ⟨ox, od, J, pl⟩ := ins_plain I hb'
  obtain ⟨m', hF⟩ := I.fr
  subst hm
  rw [hco]
  exact cmpR_K hr.units0 sl en ar de hF I.ok.mod.kin J pl hs hf su (wpAny_mono (run_at (vs := [.ref b, .int i]) F hb hx (Und.here hr) I (.cons rfl (.cons ⟨t, rfl⟩ .nil)) hsp) (fun _ _ z => ep_back z) fun _ _ z => z) (h1 i t b)
theorem op_ltR (M : CmpAt X.prog X.w X.K X.mg X.base CX k C "__gt__" ps sp) (su : PySem.W.subIn X.K (.ref C) (.type "int") = some false) (hr : Room k X.A) (hx : Passes CX X E) : OpR X (compareOp .Lt) (rCmpR C sp E) := op_cmpRv M su hr hx rfl (fun _ _ => rfl) (fun _ _ _ => rfl) PySem.F.slot_int_lt PySem.F.entry_int_lt PySem.F.args_int_lt_2 dec_lt
theorem op_leR (M : CmpAt X.prog X.w X.K X.mg X.base CX k C "__ge__" ps sp) (su : PySem.W.subIn X.K (.ref C) (.type "int") = some false) (hr : Room k X.A) (hx : Passes CX X E) : OpR X (compareOp .LtE) (rCmpR C sp E) := op_cmpRv M su hr hx rfl (fun _ _ => rfl) (fun _ _ _ => rfl) PySem.F.slot_int_le PySem.F.entry_int_le PySem.F.args_int_le_2 dec_le
theorem op_gtR (M : CmpAt X.prog X.w X.K X.mg X.base CX k C "__lt__" ps sp) (su : PySem.W.subIn X.K (.ref C) (.type "int") = some false) (hr : Room k X.A) (hx : Passes CX X E) : OpR X (compareOp .Gt) (rCmpR C sp E) := op_cmpRv M su hr hx rfl (fun _ _ => rfl) (fun _ _ _ => rfl) PySem.F.slot_int_gt PySem.F.entry_int_gt PySem.F.args_int_gt_2 dec_gt
theorem op_geR (M : CmpAt X.prog X.w X.K X.mg X.base CX k C "__le__" ps sp) (su : PySem.W.subIn X.K (.ref C) (.type "int") = some false) (hr : Room k X.A) (hx : Passes CX X E) : OpR X (compareOp .GtE) (rCmpR C sp E) := op_cmpRv M su hr hx rfl (fun _ _ => rfl) (fun _ _ _ => rfl) PySem.F.slot_int_ge PySem.F.entry_int_ge PySem.F.args_int_ge_2 dec_ge
/-- - of an instance -/
def rNegO (C : Addr) (sp : Sp) (E : XK) : V → Hp → VK → Prop := fun x H Q => ∃ a dx fs, x = .ref a ∧ H a = some (.ins C dx fs) ∧ sp [x] H Q E
theorem un_negO (M : CmpAt X.prog X.w X.K X.mg X.base CX k C "__neg__" ps sp) (hr : Room k X.A) (hx : Passes CX X E) : UnR X (unaryOp .USub) (rNegO C sp E) := by
  intro pins s σ H x v Q I rx h
  obtain ⟨f, fd, hs, hf, F, hb⟩ := M.ex
  obtain ⟨a, dx, fs, rfl, ha, hsp⟩ := h
  obtain rfl : v = Value.ref a := rx
  obtain ⟨ox, od, J, _⟩ := ins_plain I ha
  obtain ⟨m', hF⟩ := I.fr
  exact PySem.W.ksp_neg hF I.ok.mod.kin J hs hf (run_at (vs := [.ref a]) F hb hx (Und.here hr) I (.cons rfl .nil) hsp)
/-- str(x) of an instance with its own __str__ -/
def rStrO (C : Addr) (sp : Sp) (E : XK) : List V → Hp → VK → Prop := fun xs H Q => ∃ a dx fs, xs = [.ref a] ∧ H a = some (.ins C dx fs) ∧ sp [.ref a] H (fun v H' => ∃ x, v = .str x ∧ Q v H') E
theorem call_strO (M : CmpAt X.prog X.w X.K X.mg X.base CX k C "__str__" ps sp) (hr : Room (k + 2) X.A) (hx : Passes CX X E) : CallR X (.type "str") (rStrO C sp E) := by
  intro pins s σ H xs us Q I r h
  obtain ⟨f, fd, hs, hf, F, hb⟩ := M.ex
  obtain ⟨a, dx, fs, rfl, ha, hsp⟩ := h
  obtain ⟨u, rfl, r1⟩ := vals1 r
  obtain rfl : u = Value.ref a := r1
  obtain ⟨ox, od, J, _⟩ := ins_plain I ha
  have U : Und X k X.A.in1.in1 := (Und.here hr).in1.in1
  refine PySem.W.kso_call U.room.units0 (I.kIn) J hs hf (wpAny_mono (run_at (vs := [.ref a]) F hb hx U I (.cons rfl .nil) hsp) (fun v s' z => ?_) fun _ _ z => z)
  obtain ⟨z, H', I', rz, x, rfl, q⟩ := z
  obtain ⟨t, rfl⟩ := rz
  exact ⟨.str x, H', I', ⟨t, rfl⟩, q⟩
end
end My
/-! != by an own ==. -/
namespace My
open PySem PySem.Spec PySem.Calls PyProof.Rows L2
theorem slot_one : Slot "object" "__ne__" "object.__ne__" :=
  .of (owner := "object") (n := "__ne__") (by rw [typeLookup_type, builtinLookup_eq_fast]; kernel_rfl) (by decide +kernel) (by decide +kernel) (by decide +kernel) (.inl (by decide +kernel)) (by rw [isSubtype_type]; kernel_rfl)
section
open PySem.W
variable {prog : Program} {w : World} {A : Around} {E : Value → Shared → Prop} {s : Shared} {K : Frag} {x C L f : Addr} {h₀ : Heap} {m : Str → Option Value} {ox : Obj} {od : Option Obj} {b tb : Value}
/-- what an own == hands back, turned about -/
def NotBack (Q : Value → Shared → Prop) (v : Value) (s' : Shared) : Prop := ∃ c, v = .bool c ∧ Q (.bool (!c)) s'
theorem one_call {Q : Value → Shared → Prop} (hu : A.in1.units < cLine) (X : K.In s.heap) (I : InstAt s.heap x ox C od) (hm : mroIn K C (.type "object") = some true) (hs : findIn K (.ref C) "__eq__" = some (some (.ref f))) (hf : isFn K (.ref f) = true)
    (h : wpAny (model prog w) A.in1 (call (.ref f) [.ref x, b]) (NotBack Q) E s) : wpAny (model prog w) A (call (.builtin "object.__ne__") [.ref x, b]) Q E s := by
  refine wpAny_call (codeAny_call_builtin slot_one.plain PySem.F.cmpEntry_ne (check_slot (i := "object.__ne__") (owner := "object") (n := "__ne__") PySem.F.cmpKind_ne PySem.F.cmpSplit_ne (I.type.andThen (looks_mroIn X hm)) (PySem.F.cmpArgs_ne _ _) ?_))
  unfold Builtin.«object.__ne__»
  refine wpAny_bind (m := slotArgs "__ne__" 1 _) (wpAny_pure ?_)
  refine wpAny_bind (m := cRoomFor _ _) (wpAny_cRoomFor hu ?_)
  refine wpAny_bind (m := callSpecialIfBound? (.ref x) (Str.ofString "__eq__") _) (ifBound_K X I hs hf (wpAny_mono h (fun r s' hq => ?_) fun _ _ y => y))
  obtain ⟨c, rfl, hq⟩ := hq
  refine wpAny_bind (m := truthy (.bool c)) (wpAny_truthy_bool ?_)
  exact wpAny_pure hq
theorem ne_K {Q : Value → Shared → Prop} (hu : A.units < cLine) (hu1 : A.in1.units < cLine) (F : Fr h₀ L s.heap m) (X₀ : K.In h₀) (I : InstAt s.heap x ox C od) (hb : Looks (model prog w) s.heap (typeOf b) tb) (hn : notFirst K C tb = true)
    (hm : mroIn K C (.type "object") = some true) (h1 : findIn K (.ref C) "__ne__" = some (some (.builtin "object.__ne__"))) (hs : findIn K (.ref C) "__eq__" = some (some (.ref f))) (hf : isFn K (.ref f) = true)
    (h : wpAny (model prog w) A.in1 (call (.ref f) [.ref x, b]) (NotBack Q) E s) : wpAny (model prog w) A (richCompare .NotEq (.ref x) b) Q E s := by
  have X := X₀.keeps F.keep
  have one : wpAny (model prog w) A (tryCompare (.ref x) "__ne__" b) (fun r s' => ∃ v, r = some v ∧ Q v s') E s := by
    unfold tryCompare
    refine wpAny_bind ?_
    simp only [callSpecialIfBound?, bindSpecialIfBound?]
    refine wpAny_holding (wpAny_bind (wpAny_bind (wpAny_bind (I.type.here ((looks_findIn X h1).here ?_)))))
    refine wpAny_bind (wpAny_askSetting (wpAny_ite ?_))
    have fin : wpAny (model prog w) A (call (.builtin "object.__ne__") ([.ref x] ++ [b]) >>= fun v => pure (some v)) (fun r s' => wpAny (model prog w) A (match r with | some .notImplemented | none => pure none | some v => pure (some v)) (fun r s' => ∃ v, r = some v ∧ Q v s') E s') E s := by
      refine wpAny_bind (one_call hu1 X I hm hs hf (wpAny_mono h (fun v s' z => ?_) fun _ _ z => z))
      obtain ⟨c, rfl, hq⟩ := z
      exact ⟨c, rfl, wpAny_pure (wpAny_pure ⟨_, rfl, hq⟩)⟩
    split
    · exact wpAny_bind ((Looks.of_pure (slot_one.bind (.ref x))).here (wpAny_pure (by exact fin)))
    · exact wpAny_tryCatch (wpAny_bind ((Looks.of_pure (slot_one.bind (.ref x))).here (wpAny_pure (by exact fin))))
  unfold richCompare
  simp only [oneThing_ref]
  refine wpAny_holding (wpAny_bind (wpAny_cRoomFor hu ?_))
  refine wpAny_bind (I.type.here (wpAny_bind (hb.here ?_)))
  split
  · rename_i q
    have e : subIn K tb (.ref C) = some false := by
      rcases Bool.or_eq_true_iff.mp hn with e | e
      · rw [beq_iff_eq.mp e] at q; simp at q
      · exact beq_iff_eq.mp e
    refine wpAny_bind ((looks_subIn X e).here ?_)
    simp only [Bool.false_eq_true, if_false]
    refine wpAny_bind (wpAny_mono one (fun r s' z => ?_) fun _ _ e => e)
    obtain ⟨v, rfl, hq⟩ := z
    exact wpAny_pure hq
  · refine wpAny_bind (wpAny_pure ?_)
    simp only [Bool.false_eq_true, if_false]
    refine wpAny_bind (wpAny_mono one (fun r s' z => ?_) fun _ _ e => e)
    obtain ⟨v, rfl, hq⟩ := z
    exact wpAny_pure hq
end
section
variable {X : Cx} {CX : CXT} {k : Nat} {ps : List Str} {sp : Sp} {E : XK} {C : Addr}
def rNeO (K : PySem.W.Frag) (C : Addr) (sp : Sp) (E : XK) : R2 := fun x y H Q => ∃ a dx fs t, x = .ref a ∧ H a = some (.ins C dx fs) ∧ TyX K H y t ∧ PySem.W.notFirst K C t = true ∧ sp [.ref a, y] H (fun v H' => ∃ b, v = .bl b ∧ Q (.bl (!b)) H') E
theorem op_neO (M : CmpAt X.prog X.w X.K X.mg X.base CX k C "__eq__" ps sp) (hm : PySem.W.mroIn X.K C (.type "object") = some true) (h1 : PySem.W.findIn X.K (.ref C) "__ne__" = some (some (.builtin "object.__ne__"))) (hr : Room (k + 1) X.A) (hx : Passes CX X E) : OpR X (compareOp .NotEq) (rNeO X.K C sp E) := by
  intro pins s σ H x y v u Q I rx ry h
  obtain ⟨f, fd, hs, hf, F, hb⟩ := M.ex
  obtain ⟨a, dx, fs, t, rfl, ha, ty, hn, hsp⟩ := h
  obtain rfl : v = Value.ref a := rx
  obtain ⟨ox, od, J, _⟩ := ins_plain I ha
  obtain ⟨m', hF⟩ := I.fr
  obtain ⟨Pz, Z, pz, _⟩ := kit_of I ry ty
  have U : Und X k X.A.in1 := (Und.here hr).in1
  refine ne_K hr.units0 U.room.units0 hF I.ok.mod.kin J (Z.ty _ _ I.kIn pz) hn hm h1 hs hf (wpAny_mono (run_at (vs := [.ref a, y]) F hb hx U I (.cons rfl (.cons ry .nil)) hsp) (fun v s' z => ?_) fun _ _ z => z)
  obtain ⟨z, H', I', rz, b, rfl, q⟩ := z
  obtain rfl : v = Value.bool b := rz
  exact ⟨b, rfl, .bl (!b), H', I', rfl, q⟩
end
end My
/-! Static methods by the class's name; ints divided by ints of any sign; lists beside the empty one. -/
namespace My
open PySem PySem.Spec PySem.Calls PyProof.Rows L2
/-- C.m is a staticmethod with the def at f -/
structure Stat (K : PySem.W.Frag) (C : Addr) (m : Str) (f : Addr) : Prop where
  ga : PySem.W.specialIn K (.ref C) "__getattribute__" = some (some (.builtin "type.__getattribute__"))
  rc : ∃ (mc : Value) (p : Addr) (rest : List Value), PySem.W.readsIn K C mc = true ∧ PySem.W.findCls K (.ref C) mc m = some (.get (.builtin "staticmethod.__get__") (.ref p) .none (.ref C)) ∧ PySem.W.recIn K p "staticmethod" = some (.ref f :: rest)
  kp : PySem.W.keepIn K (.ref f) = true
structure StatAt (P : Program) (w : World) (K : PySem.W.Frag) (mg : Str → Option Value) (base : Heap) (CX : CXT) (k : Nat) (C : Addr) (m : Str) (ps : List Str) (sp : Sp) : Prop where
  ex : ∃ f fd, Stat K C m f ∧ FnOk P w K mg base CX k f fd ps sp ∧ L2.Binds K fd ps []
structure StatK (P : Program) (w : World) (K : PySem.W.Frag) (mg : Str → Option Value) (base : Heap) (CX : CXT) (k : Nat) (C : Addr) (m : Str) (ps ks : List Str) (sp : Sp) (gV : List V → List V → List V) : Prop where
  ex : ∃ f fd g, Stat K C m f ∧ FnOk P w K mg base CX k f fd ps sp ∧ KBn K fd ps 0 ks g gV
section
variable {X : Cx} {CX : CXT} {k : Nat} {C : Addr} {ps ks : List Str} {sp : Sp} {E : XK} {m : Str} {e o : Expr} {es : List Expr} {kws : List Keyword} {t tk : TA} {ta : TE} {pos apos : Pos} {gV : List V → List V → List V}
theorem getstat_ok {pins : List (Addr × Obj)} {σ : L2.St} {H : Hp} {s : Shared} {f : Addr} {pl : Sem Bool} {A : Around} {Er : Value → Shared → Prop} {Q : Value × List Value → Shared → Prop} (I : Inv X pins σ H s) (c : Stat X.K C m f) (h : ∀ s', Inv X pins σ H s' → Q (.ref f, []) s') : wpAny (model X.prog X.w) A (getMethod (.ref C) m pl) Q Er s := by
  obtain ⟨mc, p, rest, h1, h2, h3⟩ := c.rc
  refine PySem.W.method_cls I.kIn c.ga (PySem.W.cls_bind I.kIn h1 h2 ?_)
  exact wpAny_call (PySem.W.sm_get (s := { s with toks := s.toks + 1 }) I.kIn h3 (PySem.W.handed_on rfl (h _ (I.tok _))))
def tStat (C : Addr) (sp : Sp) (E : XK) (ta : TE) (t : TA) : TE := fun σ H Q => ta σ H fun x H1 => x = .ref C ∧ t σ H1 fun vs H2 => sp vs H2 Q E
theorem pe_st {pl : Sem Bool} (M : StatAt X.prog X.w X.K X.mg X.base CX k C m ps sp) (hr : Room k X.A) (hx : Passes CX X E) (he : PE X o ta) (ha : PA X (e :: es) t)
    (hst : starEach (e :: es) X.env = (false, eval e X.env) :: starEach es X.env := by rfl) (hpl : (backTo pos (starEach es X.env)).any (·.1) = false := by rfl)
    (ht : eval (.Call (.Attribute o m apos) (e :: es) [] pos) X.env = (do
      let ov ← eval o X.env
      standAt apos.atName
      let (f, first) ← holding [ov] (getMethod ov m pl)
      callWith pos f first (backTo pos (starEach (e :: es) X.env)) (backToKw pos (keywordEach [] X.env))) := by rfl) :
    PE X (.Call (.Attribute o m apos) (e :: es) [] pos) (tStat C sp E ta t) := by
  obtain ⟨f, fd, c, F, b⟩ := M.ex
  refine ⟨fun pins s σ H Q I h => ?_⟩
  refine PySem.W.methodCall_KW (pl := pl) (thn (he.run pins s σ H _ I h) fun u s1 ⟨x, H1, I1, rx, ex, q⟩ => ?_) ht
  subst ex
  obtain rfl : u = Value.ref C := rx
  refine getstat_ok I1 c fun s1 I1 => ?_
  refine PySem.W.callWith_K (first := []) (h₀ := X.base) I.ok.mod.kin c.kp (thn (ha.run pos pins s1 σ H1 _ I1 q) fun us s2 ⟨vs, H2, I2, r, q2⟩ => ⟨I2.kIn, ?_⟩) hst hpl
  exact run_fn (us := us) (vs := vs) F hr b .nil hx I2 r (by rw [List.append_nil]; exact q2)
def tStatK (C : Addr) (j : Nat) (sp : Sp) (gV : List V → List V → List V) (E : XK) (ta : TE) (tk : TA) : TE := fun σ H Q => ta σ H fun x H1 => x = .ref C ∧ tk σ H1 fun zs H2 => zs.length = j ∧ sp (gV [] zs) H2 Q E
theorem pe_stK {pl : Sem Bool} (M : StatK X.prog X.w X.K X.mg X.base CX k C m ps ks sp gV) (hr : Room k X.A) (hx : Passes CX X E) (he : PE X o ta) (hkw : PK X kws tk)
    (hall : (backToKw pos (keywordEach kws X.env)).all (·.1.isSome) = true := by rfl) (hks : (backToKw pos (keywordEach kws X.env)).filterMap (·.1) = ks := by rfl)
    (hpl : ((backTo pos (starEach [] X.env)).any (·.1) || (backToKw pos (keywordEach kws X.env)).any (·.1.isNone)) = false := by rfl)
    (ht : eval (.Call (.Attribute o m apos) [] kws pos) X.env = (do
      let ov ← eval o X.env
      standAt apos.atName
      let (f, first) ← holding [ov] (getMethod ov m pl)
      callWith pos f first (backTo pos (starEach [] X.env)) (backToKw pos (keywordEach kws X.env))) := by rfl) :
    PE X (.Call (.Attribute o m apos) [] kws pos) (tStatK C ks.length sp gV E ta tk) := by
  obtain ⟨f, fd, g, c, F, b⟩ := M.ex
  refine ⟨fun pins s σ H Q I h => ?_⟩
  refine PySem.W.methodCall_KW (pl := pl) (thn (he.run pins s σ H _ I h) fun u s1 ⟨x, H1, I1, rx, ex, q⟩ => ?_) ht
  subst ex
  obtain rfl : u = Value.ref C := rx
  refine getstat_ok I1 c fun s1 I1 => ?_
  refine PySem.W.callWith_KW0 (first := []) (h₀ := X.base) I.ok.mod.kin c.kp hall (thn (hkw.run pos pins s1 σ H1 _ I1 q) fun ws s2 ⟨zs, H2, I2, rz, l2, q2⟩ => ⟨I2.kIn, ?_⟩) hpl
  rw [hks]
  exact run_fnN (us := []) (vs := []) F hr b hx I2 .nil rz rfl l2 q2
/-! ### // and % by any int but 0 -/
def CDivX (_ j : Int) : Prop := j ≠ 0 ∧ j.natAbs.log2 < 9000
theorem op_fdivX : OpR X (binaryOp .FloorDiv) (rI CDivX fun i j => .int (i.fdiv j)) := opI fun _ _ _ _ _ _ _ hc q => floordiv_int hc.1 q (.inl (PyProof.noPylong_of_log2 hc.2))
/-! ### lists of unlike lengths -/
def rEqL : R2 := fun x y H Q => ∃ l b xs ys, x = .ref l ∧ y = .ref b ∧ H l = some (.lst xs) ∧ H b = some (.lst ys) ∧ xs.length ≠ ys.length ∧ Q (.bl false) H
theorem op_eqL (hu : X.A.units < cLine) : OpR X (compareOp .Eq) rEqL := by
  intro pins s σ H x y v u Q I rx ry h
  obtain ⟨l, b, xs, ys, rfl, rfl, h1, h2, hn, q⟩ := h
  obtain rfl : v = Value.ref l := rx
  obtain rfl : u = Value.ref b := ry
  obtain ⟨z, its, n, r, hl, e⟩ := I.lstM h1
  obtain ⟨z2, its2, n2, r2, hl2, e2⟩ := I.lstM h2
  have hs : (its.toArray.size != its2.toArray.size) = true := by
    have a1 := r.length
    have a2 := r2.length
    simp only [List.size_toArray, bne_iff_ne, ne_eq]
    omega
  show wpAny (model X.prog X.w) X.A (richCompare .Eq (.ref l) (.ref b)) _ _ s
  refine wpAny_richCompare_same_room (op := .Eq) ⟨_, e, rfl⟩ ⟨_, e2, rfl⟩ PySem.F.slot_list_eq (call_meets PySem.F.slot_list_eq ⟨_, e, rfl⟩ PySem.F.entry_list_eq (PySem.F.args_list_eq_2 _ _) (AutoSeq1.list___eq___list_list_0 l its.toArray n b its2.toArray n2 hs) ⟨e, e2, ?_⟩) hu
  exact ⟨(fun x => nomatch x), .bl false, H, I, rfl, q⟩
end
end My
/-! The order of two pairs of ints; two promises of one def. -/
namespace My
open PySem PySem.Spec PySem.Calls PyProof.Rows L2
def ordP (r : Int → Int → Bool) (z : Bool) (a b c d : Int) : Bool := if a = c then (if b = d then z else r b d) else r a c
def rOrd (K : PySem.W.Frag) (r : Int → Int → Bool) (z : Bool) : R2 := fun x y H Q => ∃ (l m : Addr) (a b c d : Int), x = .ref l ∧ y = .ref m ∧ SqT K H l [.int a, .int b] ∧ SqT K H m [.int c, .int d] ∧ Q (.bl (ordP r z a b c d)) H
theorem int_here {s : Shared} {A : Around} (a c : Int) (t u : Tok) : SeqAt.EqAt A s (.int a t) (.int c u) (decide (a = c)) := by
  have e : (a == c) = decide (a = c) := by
    by_cases q : a = c
    · rw [decide_eq_true q]; exact beq_iff_eq.mpr q
    · rw [decide_eq_false q]; exact beq_eq_false_iff_ne.mpr q
  rw [← e]
  exact SeqAt.EqAt.int_int _ _ _ _
theorem op_ordV {X : Cx} {op : CmpOp} {r : Int → Int → Bool} {z : Bool} (hco : ∀ v u, compareOp op v u = richCompare op v u)
    (tup : ∀ {A : Around} {s : Shared} {l b : Addr} {is js : Array Value} {e r : Nat → Bool}, s.heap.IsTuple l is → s.heap.IsTuple b js → A.units < cLine → is.size = 2 → js.size = 2 → (∀ j (h1 : j < is.size) (h2 : j < js.size), SeqAt.EqAt A.in1 s is[j] js[j] (e j)) →
      (∀ j (h1 : j < is.size) (h2 : j < js.size), e j = false → Ob.RcOp op A.in1 s is[j] js[j] (r j)) → Ob.RcOp op A s (.ref l) (.ref b) (Ob.lexAt e r z 0 2))
    (int : ∀ {A : Around} {s : Shared} (a b : Int) (t u : Tok), Ob.RcOp op A s (.int a t) (.int b u) (r a b)) (hu : X.A.units < cLine) : OpR X (compareOp op) (rOrd X.K r z) := by
  intro pins s σ H x y v u Q I rx ry h
  obtain ⟨l, m, a, b, c, d, rfl, rfl, hl, hm, q⟩ := h
  obtain rfl : v = Value.ref l := rx
  obtain rfl : u = Value.ref m := ry
  obtain ⟨is, r1, p1, _⟩ := I.tuple hl
  obtain ⟨js, r2, p2, _⟩ := I.tuple hm
  cases r1 with
  | cons ra r1 =>
    cases r1 with
    | cons rb r1 =>
      cases r1
      cases r2 with
      | cons rc r2 =>
        cases r2 with
        | cons rd r2 =>
          cases r2
          obtain ⟨ta, rfl⟩ := ra
          obtain ⟨tb, rfl⟩ := rb
          obtain ⟨tc, rfl⟩ := rc
          obtain ⟨td, rfl⟩ := rd
          have R := tup (A := X.A) (s := s) (e := fun j => if j = 0 then decide (a = c) else decide (b = d)) (r := fun j => if j = 0 then r a c else r b d) p1 p2 hu rfl rfl (fun j h1 h2 => by
            match j, h1 with
            | 0, _ => exact int_here a c ta tc
            | 1, _ => exact int_here b d tb td) (fun j h1 h2 _ => by
            match j, h1 with
            | 0, _ => exact int a c ta tc
            | 1, _ => exact int b d tb td)
          rw [hco]
          refine R X.prog X.w X.xe (EP X pins σ Q) ⟨.bl _, H, I, rfl, ?_⟩
          have e : Ob.lexAt (fun j => if j = 0 then decide (a = c) else decide (b = d)) (fun j => if j = 0 then r a c else r b d) z 0 2 = ordP r z a b c d := by
            unfold ordP
            simp only [Ob.lexAt_succ, Ob.lexAt_zero]
            by_cases h1 : a = c
            · by_cases h2 : b = d
              · simp [h1, h2]
              · simp [h1, h2]
            · simp [h1]
          rw [e]
          exact q
section
variable {X : Cx}
theorem op_ltP (hu : X.A.units < cLine) : OpR X (compareOp .Lt) (rOrd X.K (fun i j => decide (i < j)) false) := op_ordV (fun _ _ => rfl) (fun {A s l b is js e r} h1 h2 h3 h4 h5 h6 h7 => by have z := Ob.RcOp.tuples_lt h1 h2 h3 h6 h7; rw [h4, h5] at z; exact z) (fun a b t u => Ob.RcOp.lt_int a b t u) hu
theorem op_leP (hu : X.A.units < cLine) : OpR X (compareOp .LtE) (rOrd X.K (fun i j => decide (i ≤ j)) true) := op_ordV (fun _ _ => rfl) (fun {A s l b is js e r} h1 h2 h3 h4 h5 h6 h7 => by have z := Ob.RcOp.tuples_le h1 h2 h3 h6 h7; rw [h4, h5] at z; exact z) (fun a b t u => Ob.RcOp.le_int a b t u) hu
theorem op_gtP (hu : X.A.units < cLine) : OpR X (compareOp .Gt) (rOrd X.K (fun i j => decide (j < i)) false) := op_ordV (fun _ _ => rfl) (fun {A s l b is js e r} h1 h2 h3 h4 h5 h6 h7 => by have z := Ob.RcOp.tuples_gt h1 h2 h3 h6 h7; rw [h4, h5] at z; exact z) (fun a b t u => Ob.RcOp.gt_int a b t u) hu
theorem op_geP (hu : X.A.units < cLine) : OpR X (compareOp .GtE) (rOrd X.K (fun i j => decide (j ≤ i)) true) := op_ordV (fun _ _ => rfl) (fun {A s l b is js e r} h1 h2 h3 h4 h5 h6 h7 => by have z := Ob.RcOp.tuples_ge h1 h2 h3 h6 h7; rw [h4, h5] at z; exact z) (fun a b t u => Ob.RcOp.ge_int a b t u) hu
end
/-! ### within a comprehension -/
theorem op_cmpB {X : Cx} {K : PySem.W.Frag} {CX : CXT} {k : Nat} {C : Addr} {m : Str} {ps : List Str} {sp : Sp} {E : XK} {op : CmpOp} (hK : X.K = K) (M : CmpAt X.prog X.w X.K X.mg X.base CX k C m ps sp) (hr : Room k X.A) (hx : Passes CX X E) (hop : (cmpInfo op).2.1 = m := by rfl)
    (hco : ∀ v u, compareOp op v u = richCompare op v u := by intro _ _; rfl) : OpR X (compareOp op) (rCmpO K C sp E) := by
  subst hK
  exact op_cmpO M hr hx hop hco
/-! ### a def that keeps two promises -/
def spOr (s1 s2 : Sp) : Sp := fun vs H Q E => s1 vs H Q E ∨ s2 vs H Q E
section
variable {P : Program} {w : World} {K : PySem.W.Frag} {mg : Str → Option Value} {base : Heap} {CX : CXT} {k : Nat} {f : Addr} {fd : FuncData} {ps : List Str} {s1 s2 : Sp}
theorem ok_or (h1 : FnOk P w K mg base CX k f fd ps s1) (h2 : FnOk P w K mg base CX k f fd ps s2) : FnOk P w K mg base CX k f fd ps (spOr s1 s2) :=
  ⟨fun vs H Q E h => h.elim (h1.len vs H Q E) (h2.len vs H Q E), fun A outer s H args us vs Q E hr e0 hb r h => h.elim (h1.run A outer s H args us vs Q E hr e0 hb r) (h2.run A outer s H args us vs Q E hr e0 hb r)⟩
theorem okG_or (h1 : FnG P w K mg base CX k f fd ps s1) (h2 : FnG P w K mg base CX k f fd ps s2) : FnG P w K mg base CX k f fd ps (spOr s1 s2) :=
  ⟨fun vs H Q E h => h.elim (h1.len vs H Q E) (h2.len vs H Q E), fun A outer s H args us vs Q E hg hr e0 hb r h => h.elim (h1.run A outer s H args us vs Q E hg hr e0 hb r) (h2.run A outer s H args us vs Q E hg hr e0 hb r)⟩
end
end My
/-! Signs in place; an instance called by keywords; what a comprehension may hold. -/
namespace My
open PySem PySem.Spec PySem.Calls PyProof.Rows L2
section
open PySem.W
variable {prog : Program} {w : World} {M : Model} {A : Around} {E : Value → Shared → Prop} {s : Shared} {K : Frag} {x C L f : Addr} {h₀ : Heap} {m : Str → Option Value} {ox : Obj} {od : Option Obj} {nm : String}
/-- beside one of its own class -/
theorem bin1_S {b : Value} {Q : Value → Shared → Prop} (X : K.In s.heap) (I : InstAt s.heap x ox C od) (hb : Looks (model prog w) s.heap (typeOf b) (.ref C)) (hc : selfFirst K C = true) (hs : findIn K (.ref C) (PySem.dunder nm) = some (some (.ref f))) (hf : isFn K (.ref f) = true)
    (h : wpAny (model prog w) A (call (.ref f) [.ref x, b]) (PySem.W.CmpBack Q) E s) : wpAny (model prog w) A (binaryOp1 nm (.ref x) b) (fun r s' => ∃ v, r = some v ∧ Q v s') E s := by
  obtain ⟨cd, rest, hcd, hm⟩ := ksp_first hc
  have one := ksp_try X I hs hf h
  obtain ⟨hh, g, d, tt, os⟩ := s
  have L1 : Looks (model prog w) hh (typeOf (.ref x)) (.ref C) := I.type
  have L2 : Looks (model prog w) hh (typeOf b) (.ref C) := hb
  have L3 : Looks (model prog w) hh (fillsNumberSlot (.ref C) nm) true := fills_K X hcd hm hs
  unfold binaryOp1
  refine wpAny_bind (L1.at (wpAny_bind (L2.at (wpAny_bind (L3.at ?_)))))
  simp only [beq_self_eq_true, if_true]
  ksp_lk
  refine wpAny_mono one (fun r s' hr' => ?_) fun _ _ e => e
  obtain ⟨v, rfl, hq⟩ := hr'
  ksp_lk
  exact ⟨v, rfl, hq⟩
/-- beside a value of a built-in type -/
theorem bin1_T {T : String} {b : Value} {fo ro rc : Option Value} {Q : Value → Shared → Prop} (X : K.In s.heap) (I : InstAt s.heap x ox C od) (hb : typeOf b = pure (.type T)) (hc : selfFirst K C = true)
    (hs : findIn K (.ref C) (PySem.dunder nm) = some (some (.ref f))) (hf : isFn K (.ref f) = true) (hr : findIn K (.ref C) (dunderR nm) = some rc) (hp : rc = none ∨ ∃ g : Addr, rc = some (.ref g))
    (h1 : findIn K (.type T) (PySem.dunder nm) = some fo) (h2 : findIn K (.type T) (dunderR nm) = some ro) (hsub : subIn K (.type T) (.ref C) = some false)
    (h : wpAny (model prog w) A (call (.ref f) [.ref x, b]) (PySem.W.CmpBack Q) E s) : wpAny (model prog w) A (binaryOp1 nm (.ref x) b) (fun r s' => ∃ v, r = some v ∧ Q v s') E s := by
  obtain ⟨cd, rest, hcd, hm⟩ := ksp_first hc
  have one := ksp_try X I hs hf h
  obtain ⟨hh, g, d, tt, os⟩ := s
  have L1 : Looks (model prog w) hh (typeOf (.ref x)) (.ref C) := I.type
  have L2 : Looks (model prog w) hh (typeOf b) (.type T) := Looks.of_pure hb
  have L3 : Looks (model prog w) hh (fillsNumberSlot (.ref C) nm) true := fills_K X hcd hm hs
  have L4 : Looks (model prog w) hh (fillsNumberSlot (.type T) nm) ((fo.isSome && !isSeqSlot fo) || (ro.isSome && !isSeqSlot ro)) := ksp_fillsT X h1 h2
  have L5 : Looks (model prog w) hh (isSubtype (.type T) (.ref C)) false := looks_subIn X hsub
  have L6 : Looks (model prog w) hh (numberSlotInPython (.ref C) nm) true := ksp_inPy X hs hr hp
  have L7 : Looks (model prog w) hh (numberSlotInPython (.type T) nm) false := Looks.of_pure rfl
  have L8 : Looks (model prog w) hh (typeLookup (.type T) (dunderR nm)) ro := looks_findIn X h2
  generalize ((fo.isSome && !isSeqSlot fo) || (ro.isSome && !isSeqSlot ro)) = right at L4
  have hne : (Value.ref C == Value.type T) = false := Bool.eq_false_iff.mpr fun q => by cases beq_iff_eq.mp q
  unfold binaryOp1
  refine wpAny_bind (L1.at (wpAny_bind (L2.at (wpAny_bind (L3.at ?_)))))
  simp only [hne, Bool.false_eq_true, if_false]
  cases right with
  | false =>
    ksp_lk
    refine wpAny_mono one (fun r s' hr' => ?_) fun _ _ e => e
    obtain ⟨v, rfl, hq⟩ := hr'
    ksp_lk
    exact ⟨v, rfl, hq⟩
  | true =>
    ksp_lk
    refine wpAny_mono one (fun r s' hr' => ?_) fun _ _ e => e
    obtain ⟨v, rfl, hq⟩ := hr'
    ksp_lk
    exact ⟨v, rfl, hq⟩
/-- the class has no slot in place -/
theorem noInplace {h : Heap} {cd : ClassData} {add : Bool} (X : K.In h) (hc : clsIn K C = some cd) (hm : cd.mro = [.ref C, .type "object"]) (h1 : findIn K (.ref C) (dunderI nm) = some none) (h2 : findIn K (.type "object") (dunderI nm) = some none) : Looks M h (fillsInplaceSlot (.ref C) nm add) false := by
  intro A Q E s k q
  have Lm : Looks M h (mroOf (.ref C)) cd.mro := (looks_clsIn X hc).andThen (f := fun cd => pure cd.mro) .now
  have Lm' := Lm.keeps k
  obtain ⟨hh, g, d, tt, os⟩ := s
  have X' : K.In hh := X.keeps k
  have L1 : Looks M hh (typeLookup (.ref C) (dunderI nm)) none := looks_findIn X' h1
  have L2 : Looks M hh (typeLookup (.type "object") (dunderI nm)) none := looks_findIn X' h2
  unfold fillsInplaceSlot
  refine wpAny_bind (Lm'.at ?_)
  rw [hm, List.anyM_cons]
  refine wpAny_bind ?_
  repeat lk
  exact q
theorem inpl_K {op : Operator} {b : Value} {Q : Value → Shared → Prop} {cd : ClassData} (X : K.In s.heap) (I : InstAt s.heap x ox C od) (hc : clsIn K C = some cd) (hm : cd.mro = [.ref C, .type "object"]) (h1 : findIn K (.ref C) (dunderI op.info.2) = some none) (h2 : findIn K (.type "object") (dunderI op.info.2) = some none)
    (h : wpAny (model prog w) A (binaryOp1 op.info.2 (.ref x) b) (fun r s' => ∃ v, r = some v ∧ Q v s') E s) : wpAny (model prog w) A (inplaceOp op (.ref x) b) Q E s := by
  have L2 : Looks (model prog w) s.heap (fillsInplaceSlot (.ref C) op.info.2 (op == .Add)) false := noInplace X hc hm h1 h2
  unfold inplaceOp
  refine wpAny_holding ?_
  dsimp only
  refine wpAny_bind (I.type.here (wpAny_bind (L2.here ?_)))
  simp only [Bool.false_eq_true, if_false]
  refine wpAny_bind (wpAny_mono h (fun r s' z => ?_) fun _ _ e => e)
  obtain ⟨v, rfl, hq⟩ := z
  exact wpAny_pure hq
end
/-- the class has no slot in place -/
structure InpF (K : PySem.W.Frag) (C : Addr) (nm : String) : Prop where
  mro : ∃ cd, PySem.W.clsIn K C = some cd ∧ cd.mro = [.ref C, .type "object"]
  no1 : PySem.W.findIn K (.ref C) (dunderI nm) = some none
  no2 : PySem.W.findIn K (.type "object") (dunderI nm) = some none
section
variable {X : Cx} {CX : CXT} {k : Nat} {ps ks : List Str} {sp : Sp} {E : XK} {C : Addr} {m : Str}
theorem iop_O {op : Operator} (M : CmpAt X.prog X.w X.K X.mg X.base CX k C m ps sp) (B : BinF X.K C op.info.2) (N : InpF X.K C op.info.2) (hr : Room k X.A) (hx : Passes CX X E) (hm : PySem.dunder op.info.2 = m := by rfl) : OpR X (inplaceOp op) (rBinO C sp E) := by
  intro pins s σ H x y v u Q I rx ry h
  obtain ⟨f, fd, hs, hf, F, hb⟩ := M.ex
  obtain ⟨a, dx, fs, rfl, ha, oi, hsp⟩ := h
  obtain rfl : v = Value.ref a := rx
  obtain ⟨ox, od, J, _⟩ := ins_plain I ha
  obtain ⟨cd, c1, c2⟩ := N.mro
  subst hm
  have go : wpAny (model X.prog X.w) X.A (call (.ref f) [.ref a, u]) (PySem.W.CmpBack (EP X pins σ Q)) X.xe s := wpAny_mono (run_at (vs := [.ref a, y]) F hb hx (Und.here hr) I (.cons rfl (.cons ry .nil)) hsp) (fun _ _ z => ep_back z) fun _ _ z => z
  refine inpl_K I.kIn J c1 c2 N.no1 N.no2 ?_
  rcases oi with ⟨b, dy, gs, rfl, hb'⟩ | ⟨j, rfl⟩
  · obtain rfl : u = Value.ref b := ry
    obtain ⟨oy, od', J', _⟩ := ins_plain I hb'
    exact bin1_S I.kIn J J'.type B.sf hs hf go
  · obtain ⟨t, rfl⟩ := ry
    obtain ⟨rc, r1, r2⟩ := B.rc
    obtain ⟨fo, i1⟩ := B.i1
    obtain ⟨ro, i2⟩ := B.i2
    exact bin1_T I.kIn J rfl B.sf hs hf r1 r2 i1 i2 B.su go
/-! ### an instance called -/
/-- f(e, ..), told without the context -/
def tCallI (C : Addr) (sp : Sp) (E : XK) (tf : TE) (t : TA) : TE := fun σ H Q => tf σ H fun y H1 => ∃ a, y = V.ref a ∧ t σ H1 fun vs H2 => (∃ dx fs, H2 a = some (.ins C dx fs)) ∧ sp (V.ref a :: vs) H2 Q E
theorem pe_clI {fe e : Expr} {es : List Expr} {tf : TE} {t : TA} {pos : Pos} (M : CallAt X.prog X.w X.K X.mg X.base CX k C ps sp) (hr : Room k X.A) (hx : Passes CX X E) (hf : PE X fe tf) (ha : PA X (e :: es) t)
    (ht : eval (.Call fe (e :: es) [] pos) X.env = (do callWith pos (← eval fe X.env) [] (backTo pos (starEach (e :: es) X.env)) (backToKw pos (keywordEach [] X.env))) := by rfl)
    (hs : starEach (e :: es) X.env = (false, eval e X.env) :: starEach es X.env := by rfl) (hpl : (backTo pos (starEach es X.env)).any (·.1) = false := by rfl) : PE X (.Call fe (e :: es) [] pos) (tCallI C sp E tf t) := by
  obtain ⟨f, fd, c, F, b⟩ := M.ex
  refine ⟨fun pins s σ H Q I h => ?_⟩
  refine Call_ (thn (hf.run pins s σ H _ I h) fun u s1 ⟨y, H1, I1, ry, a, ey, q⟩ => ?_) ht
  subst ey
  obtain rfl : u = Value.ref a := ry
  refine StX.callO_with (thn (ha.run pos pins s1 σ H1 _ I1 q) fun us s2 ⟨vs, H2, I2, r, ⟨dx, fs, hi⟩, q2⟩ => ?_) hs hpl
  obtain ⟨ox, od, J, hd⟩ := StX.insC_at (X := X) I2 (.inr ⟨dx, fs, hi⟩)
  refine ⟨⟨C, ox, od, J, hd⟩, ?_⟩
  have hl : (Value.ref a :: us ++ []).length = ps.length := by
    rw [List.append_nil, List.length_cons, ← r.length]
    exact F.len _ _ _ _ q2
  have bd := b s2 (.ref a :: us) I2.kIn hl
  rw [List.append_nil] at bd
  refine wpAny_call (PySem.W.kco_code I2.kIn J hd c.at_ c.fn c.fi (codeAny_mono (F.run X.A X.stack s2 H2 ⟨.ref a :: us, []⟩ (.ref a :: us) (.ref a :: vs) _ E hr I2.env0 bd (.cons rfl r) q2) fun r s' hq => ?_))
  match r, hq with
  | .error e, hq => exact hx pins σ H2 s2 e s' I2 hq
  | .ok (.ret z), hq => exact I2.after hq
  | .ok .next, hq => exact False.elim hq
  | .ok .brk, hq => exact False.elim hq
  | .ok .cont, hq => exact False.elim hq
structure CallK (P : Program) (w : World) (K : PySem.W.Frag) (mg : Str → Option Value) (base : Heap) (CX : CXT) (k : Nat) (C : Addr) (ps ks : List Str) (sp : Sp) (gV : List V → List V → List V) : Prop where
  ex : ∃ f fd g, StX.CallO K C f ∧ FnOk P w K mg base CX k f fd ps sp ∧ KBn K fd ps 1 ks g gV
def tCallK (C : Addr) (j : Nat) (sp : Sp) (gV : List V → List V → List V) (E : XK) (tf : TE) (tk : TA) : TE := fun σ H Q => tf σ H fun y H1 => ∃ a, y = V.ref a ∧ tk σ H1 fun zs H2 => zs.length = j ∧ (∃ dx fs, H2 a = some (.ins C dx fs)) ∧ sp (gV [.ref a] zs) H2 Q E
/-- the call's node where the callee is an instance, keywords alone -/
theorem callO_kw {M : Model} {A : Around} {Er : Value → Shared → Prop} {s : Shared} {a : Addr} {pos : Pos} {Q : Value → Shared → Prop} {args : List (Bool × Sem Value)} {kw : List (Option Str × Sem Value)} (hplain : (args.any (·.1) || kw.any (·.1.isNone)) = false)
    (h : wpAny M A (evalArgs (.ref a) true args kw) (fun z s₁ => (∃ C ox od, PySem.W.InstAt s₁.heap a ox C od ∧ ox.data = .plain) ∧ wpAny M A (call (.ref a) ([] ++ z.pos) z.kw) Q Er s₁) Er s) : wpAny M A (callWith pos (.ref a) [] args kw) Q Er s := by
  unfold callWith
  refine wpAny_bind (wpAny_holding (wpAny_mono h (fun z s₁ h₁ => wpAny_bind (wpAny_standAt ?_)) fun _ _ y => y))
  obtain ⟨⟨C, ox, od, J, hd⟩, h₁⟩ := h₁
  simp only [hplain]
  refine wpAny_bind ((PySem.W.kco_keeper (M := M) J hd).here ?_)
  refine wpAny_bind (wpAny_mono (wpAny_operateT h₁) (fun r s₂ hr => wpAny_bind (wpAny_holding (wpAny_point (wpAny_pure hr)))) fun _ _ y => y)
theorem pe_clK {fe : Expr} {kws : List Keyword} {tf : TE} {tk : TA} {pos : Pos} {gV : List V → List V → List V} (M : CallK X.prog X.w X.K X.mg X.base CX k C ps ks sp gV) (hr : Room k X.A) (hx : Passes CX X E) (hf : PE X fe tf) (hkw : PK X kws tk)
    (ht : eval (.Call fe [] kws pos) X.env = (do callWith pos (← eval fe X.env) [] (backTo pos (starEach [] X.env)) (backToKw pos (keywordEach kws X.env))) := by rfl)
    (hall : (backToKw pos (keywordEach kws X.env)).all (·.1.isSome) = true := by rfl) (hks : (backToKw pos (keywordEach kws X.env)).filterMap (·.1) = ks := by rfl)
    (hpl : ((backTo pos (starEach [] X.env)).any (·.1) || (backToKw pos (keywordEach kws X.env)).any (·.1.isNone)) = false := by rfl) : PE X (.Call fe [] kws pos) (tCallK C ks.length sp gV E tf tk) := by
  obtain ⟨f, fd, g, c, F, b⟩ := M.ex
  refine ⟨fun pins s σ H Q I h => ?_⟩
  rw [ht]
  refine wpAny_bind (thn (hf.run pins s σ H _ I h) fun u s1 ⟨y, H1, I1, ry, a, ey, q⟩ => ?_)
  subst ey
  obtain rfl : u = Value.ref a := ry
  refine callO_kw hpl (evalArgs_kw2_nil hall (thn (hkw.run pos pins s1 σ H1 _ I1 q) fun ws s2 ⟨zs, H2, I2, rz, l2, ⟨dx, fs, hi⟩, q2⟩ => ?_))
  obtain ⟨ox, od, J, hd⟩ := StX.insC_at (X := X) I2 (.inr ⟨dx, fs, hi⟩)
  refine ⟨⟨C, ox, od, J, hd⟩, ?_⟩
  rw [hks]
  have r2 := b.rel (vs := [V.ref a]) (us := [Value.ref a]) (.cons rfl .nil) rz
  refine wpAny_call (PySem.W.kco_code I2.kIn J hd c.at_ c.fn c.fi (codeAny_mono (F.run X.A X.stack s2 H2 ⟨[.ref a], ks.zip ws⟩ (g [.ref a] ws) (gV [.ref a] zs) _ E hr I2.env0 (b.to s2 [.ref a] ws I2.kIn rfl (rz.length.symm.trans l2)) r2 q2) fun r s' hq => ?_))
  match r, hq with
  | .error e, hq => exact hx pins σ H2 s2 e s' I2 hq
  | .ok (.ret z), hq => exact I2.after hq
  | .ok .next, hq => exact False.elim hq
  | .ok .brk, hq => exact False.elim hq
  | .ok .cont, hq => exact False.elim hq
/-- a class of the module made by keywords alone -/
structure MakeK (P : Program) (w : World) (K : PySem.W.Frag) (mg : Str → Option Value) (base : Heap) (CX : CXT) (k : Nat) (x : Str) (C : Addr) (ps ks : List Str) (sp : Sp) (gV : List V → List V → List V) : Prop where
  ex : ∃ f fd g, Mk K C f ∧ FnOk P w K mg base CX k f fd ps sp ∧ mg x = some (.ref C) ∧ KBn K fd ps 1 ks g gV
theorem pe_mkK {x : Str} {p pos : Pos} {kws : List Keyword} {tk : TA} {gV : List V → List V → List V} (M : MakeK X.prog X.w X.K X.mg X.base CX k x C ps ks sp gV) (hr : Room (k + 1) X.A) (hg : Gl X x) (hx : Passes CX X E) (hkw : PK X kws tk)
    (hall : (backToKw pos (keywordEach kws X.env)).all (·.1.isSome) = true := by rfl) (hks : (backToKw pos (keywordEach kws X.env)).filterMap (·.1) = ks := by rfl) (hdb : (x == ("__debug__" : Str)) = false := by decide)
    (hpl : ((backTo pos (starEach [] X.env)).any (·.1) || (backToKw pos (keywordEach kws X.env)).any (·.1.isNone)) = false := by rfl) : PE X (.Call (.Name x p) [] kws pos) (tMakeK C 0 ks.length sp gV E tNil tk) := by
  obtain ⟨f, fd, g, mk, F, hm, b⟩ := M.ex
  exact pe_makeK0 mk F hr hg hm b hx hkw hall hks hdb hpl
end
end My
/-! For the end: static methods, makers with defaults, calls by keywords. -/
namespace My
open PySem PySem.Spec PyProof.Rows L2
def gApp (vs zs : List V) : List V := vs ++ zs
def gSw (vs zs : List V) : List V := vs ++ zs.reverse
theorem nm_part : Sup.Nm "part" := ⟨by decide, by decide, by decide, by decide, fun _ _ _ _ _ _ _ _ _ _ _ _ => rfl⟩
theorem app_rel {vs : List V} {us : List Value} {zs : List V} {ws : List Value} (h1 : Vals vs us) (h2 : Vals zs ws) : Vals (gApp vs zs) (us ++ ws) := h1.append h2
/-- the class has the static method -/
structure HasS (K : PySem.W.Frag) (C : Addr) (m qual : Str) (st : Stmt) : Prop where
  ex : ∃ f fd, Stat K C m f ∧ Fun K m qual st f fd
section
variable {P : Program} {w : World} {K : PySem.W.Frag} {mg : Str → Option Value} {base : Heap} {CX : CXT} {k : Nat} {m qual : Str} {st : Stmt} {ps ks : List Str} {sp : Sp} {C : Addr}
theorem stat_at (A : HasS K C m qual st) (ok : ∀ f fd, Fun K m qual st f fd → FnOk P w K mg base CX k f fd ps sp) (b : BindW m qual st ps) : StatAt P w K mg base CX k C m ps sp := by
  obtain ⟨f, fd, h1, F⟩ := A.ex
  exact ⟨f, fd, h1, ok f fd F, F.binds b⟩
theorem statK_at {gV : List V → List V → List V} {g : List Value → List Value → List Value} (A : HasS K C m qual st) (ok : ∀ f fd, Fun K m qual st f fd → FnOk P w K mg base CX k f fd ps sp)
    (b : ∀ (kV doc pm : Value) (an : Option Addr) (cdv ct : Value) (us ws : List Value), us.length = 0 → ws.length = ks.length → bindArgs (PySem.W.fnOf m qual (defArgs st) (defBody st) (defScope st) .none kV doc pm an cdv ct) ⟨us, ks.zip ws⟩ = pure (ps.zip (g us ws)))
    (r : ∀ {vs : List V} {us : List Value} {zs : List V} {ws : List Value}, Vals vs us → Vals zs ws → Vals (gV vs zs) (g us ws)) : StatK P w K mg base CX k C m ps ks sp gV := by
  obtain ⟨f, fd, h1, F⟩ := A.ex
  obtain ⟨oc, od, kV, doc, pm, an, cdv, ct, osl, rfl, _⟩ := id F.ex
  exact ⟨f, _, g, h1, ok f _ F, ⟨fun s us ws _ l1 l2 => .of_eq (b kV doc pm an cdv ct us ws l1 l2), r⟩⟩
end
theorem sw_rel {vs : List V} {us : List Value} {zs : List V} {ws : List Value} (h1 : Vals vs us) (h2 : Vals zs ws) : Vals (gSw vs zs) (us ++ ws.reverse) := h1.append h2.reverse
theorem kinds7 {K : PySem.W.Frag} {C : Addr} (a0 : PySem.W.kitOne K (.type "int") (.ref C) = some false) (b0 : PySem.W.notFirst K C (.type "int") = true) (a1 : PySem.W.kitOne K (.type "tuple") (.ref C) = some false) (b1 : PySem.W.notFirst K C (.type "tuple") = true) (a2 : PySem.W.kitOne K (.type "NoneType") (.ref C) = some false) (b2 : PySem.W.notFirst K C (.type "NoneType") = true) (a3 : PySem.W.kitOne K (.type "str") (.ref C) = some false) (b3 : PySem.W.notFirst K C (.type "str") = true) (a4 : PySem.W.kitOne K (.type "list") (.ref C) = some false) (b4 : PySem.W.notFirst K C (.type "list") = true) (a5 : PySem.W.kitOne K (.type "bool") (.ref C) = some false) (b5 : PySem.W.notFirst K C (.type "bool") = true) (a6 : PySem.W.kitOne K (.type "dict") (.ref C) = some false) (b6 : PySem.W.notFirst K C (.type "dict") = true) : ∀ t ∈ ["int", "tuple", "NoneType", "str", "list", "bool", "dict"], PySem.W.kitOne K (.type t) (.ref C) = some false ∧ PySem.W.notFirst K C (.type t) = true := fun t ht => by
  simp only [List.mem_cons, List.mem_nil_iff, or_false] at ht
  rcases ht with rfl | rfl | rfl | rfl | rfl | rfl | rfl
  · exact ⟨a0, b0⟩
  · exact ⟨a1, b1⟩
  · exact ⟨a2, b2⟩
  · exact ⟨a3, b3⟩
  · exact ⟨a4, b4⟩
  · exact ⟨a5, b5⟩
  · exact ⟨a6, b6⟩
section
variable {P : Program} {w : World} {K : PySem.W.Frag} {mg : Str → Option Value} {base : Heap} {CX : CXT} {k : Nat} {x qual : Str} {st : Stmt} {ps ks : List Str} {sp : Sp} {C : Addr} {dvs : List V}
/-- the class is made with its defaults left out -/
theorem make_dfl {n : Nat} (A : HasD K C "__init__" qual st dvs []) (hx : mg x = some (.ref C)) (mk : PySem.W.makesIn K C = true) (kp : PySem.W.keepIn K (.ref C) = true) (ok : ∀ f fd, FunD K "__init__" qual (defArgs st) (defBody st) (defScope st) dvs [] f fd → FnOk P w K mg base CX k f fd ps sp) (hd : dvs ≠ []) (hn : n + (dvs.length - 0) = ps.length)
    (b : ∀ (T : Addr) (kV doc pm : Value) (an : Option Addr) (cdv ct : Value) (us its : List Value), us.length = n → its.length = dvs.length →
      ∃ k, bindArgs (PySem.W.fnOf "__init__" qual (defArgs st) (defBody st) (defScope st) (.ref T) kV doc pm an cdv ct) ⟨us, []⟩ = seqItems? (.ref T) >>= k ∧ k (some its.toArray) = pure (ps.zip (us ++ its.drop 0))) : MakeAt P w K mg base CX k x C ps sp dvs := by
  obtain ⟨f, fd, h1, h2, F⟩ := A.ex
  obtain ⟨ds, r, bs⟩ := F.binds1 n 0 hd hn b
  rw [List.drop_zero] at r
  exact ⟨f, fd, ds, ⟨mk, h1, h2, kp⟩, ok f fd F, hx, bs, r⟩
theorem make_sw (A : HasD K C "__init__" qual st dvs []) (hx : mg x = some (.ref C)) (mk : PySem.W.makesIn K C = true) (kp : PySem.W.keepIn K (.ref C) = true) (ok : ∀ f fd, FunD K "__init__" qual (defArgs st) (defBody st) (defScope st) dvs [] f fd → FnOk P w K mg base CX k f fd ps sp) (hd : dvs ≠ [])
    (b : ∀ (T : Addr) (kV doc pm : Value) (an : Option Addr) (cdv ct : Value) (us its ws : List Value), us.length = 1 → its.length = dvs.length → ws.length = ks.length →
      ∃ k, bindArgs (PySem.W.fnOf "__init__" qual (defArgs st) (defBody st) (defScope st) (.ref T) kV doc pm an cdv ct) ⟨us, ks.zip ws⟩ = seqItems? (.ref T) >>= k ∧ k (some its.toArray) = pure (ps.zip (us ++ ws.reverse))) : MakeK P w K mg base CX k x C ps ks sp gSw := by
  obtain ⟨f, fd, h1, h2, F⟩ := A.ex
  obtain ⟨its, kb⟩ := F.kbindsD (ps := ps) 1 ks (fun us _ ws => us ++ ws.reverse) hd (fun h1 _ h3 => h1.append h3.reverse) b
  exact ⟨f, fd, _, ⟨mk, h1, h2, kp⟩, ok f fd F, hx, kb⟩
theorem callK_at {g : List Value → List Value → List Value} (A : HasM K C "__call__" qual st) (ok : ∀ f fd, Fun K "__call__" qual st f fd → FnOk P w K mg base CX k f fd ps sp)
    (b : ∀ (kV doc pm : Value) (an : Option Addr) (cdv ct : Value) (us ws : List Value), us.length = 1 → ws.length = ks.length → bindArgs (PySem.W.fnOf "__call__" qual (defArgs st) (defBody st) (defScope st) .none kV doc pm an cdv ct) ⟨us, ks.zip ws⟩ = pure (ps.zip (us ++ ws))) : CallK P w K mg base CX k C ps ks sp gApp := by
  obtain ⟨f, fd, h1, h2, F⟩ := A.ex
  obtain ⟨oc, od, kV, doc, pm, an, cdv, ct, osl, rfl, lk, _⟩ := id F.ex
  refine ⟨f, _, _, ⟨h1, h2, ?_⟩, ok f _ F, ⟨fun s us ws _ l1 l2 => .of_eq (b kV doc pm an cdv ct us ws l1 l2), app_rel⟩⟩
  unfold PySem.W.fnIn
  rw [lk]
end
end My
/-! int == an instance; bool(x), abs(x) of an instance; // and % of an int by an instance. -/
namespace My
open PySem PySem.Spec PySem.Calls PyProof.Rows L2
theorem is_fdv {K : PySem.W.Frag} : IntSlot K (Operator.info .FloorDiv).2 "int.__floordiv__" Builtin.«int.__floordiv__» := ⟨PySem.F.slot_int_floordiv, PySem.F.entry_int_floordiv, PySem.F.args_int_floordiv_2, dec_floordiv⟩
theorem is_mod {K : PySem.W.Frag} : IntSlot K (Operator.info .Mod).2 "int.__mod__" Builtin.«int.__mod__» := ⟨PySem.F.slot_int_mod, PySem.F.entry_int_mod, PySem.F.args_int_mod_2, dec_mod⟩
section
open PySem.W
variable {prog : Program} {w : World} {A : Around} {E : Value → Shared → Prop} {s : Shared} {K : Frag} {x C L f : Addr} {h₀ : Heap} {m : Str → Option Value} {ox : Obj} {od : Option Obj}
theorem bool_call {Q : Value → Shared → Prop} (F : Fr h₀ L s.heap m) (X₀ : K.In h₀) (I : InstAt s.heap x ox C od) (hs : findIn K (.ref C) "__bool__" = some (some (.ref f))) (hf : isFn K (.ref f) = true)
    (h : wpAny (model prog w) A.in1.in1 (call (.ref f) [.ref x]) (PySem.W.BoolBack fun b s' => Q (.bool b) s') E s) : wpAny (model prog w) A (call (.type "bool") [.ref x]) Q E s := by
  refine callType_codes (T := "bool") (Bi := Builtin.«object.__init__») (Q₁ := fun r s' => ∃ b, r = .bool b ∧ Q r s') PySem.F.called_bool (PySem.F.typeCall_bool_1 _) PySem.F.entry_object_init ?_ ?_
  · refine codeAny_of_tree ?_
    show wpAny _ A.in1.in1 (do checkBuiltinCall "bool.__new__" ⟨[.type "bool", .ref x], []⟩; again (.builtin "bool.__new__" ⟨[.type "bool", .ref x], []⟩)) _ _ s
    refine wpAny_bind (wpAny_of_eq (PySem.F.newCall_bool_1 _) (wpAny_pure ⟨plainId_quiet (by decide +kernel) _, codeAny_builtin PySem.F.entry_bool_new ?_⟩))
    rw [Around.under_plainId (by decide +kernel) _]
    unfold Builtin.«bool.__new__»
    have f1 := PySem.F.conv_sub_bool
    have go : wpAny (model prog w) A.in1.in1 (truthy (.ref x)) (fun b s' => Q (.bool b) s') E s := truthy_K F X₀ I hs hf h
    refine wpAny_bind (m := isType (.type "bool")) (wpAny_pure ?_)
    refine wpAny_bind (m := isSubtype (.type "bool") (.type "bool")) (wpAny_of_eq f1 ?_)
    refine wpAny_bind (wpAny_pure ?_)
    refine wpAny_bind (m := truthy (.ref x)) (wpAny_mono go (fun b s' hq => ?_) fun _ _ y => y)
    exact wpAny_pure ⟨b, rfl, hq⟩
  · rintro obj s' ⟨b, rfl, hq⟩
    exact ⟨PySem.typeIs_bool _ _, PySem.F.args_object_init_2 _ _, object_init_meets PySem.F.called_bool.init.lookup PySem.F.called_bool.made (by decide) prog w A.in1 _ s' ⟨PySem.typeIs_bool _ _, rfl, hq⟩⟩
theorem abs_call {Q : Value → Shared → Prop} (X : K.In s.heap) (I : InstAt s.heap x ox C od) (hs : findIn K (.ref C) "__abs__" = some (some (.ref f))) (hf : isFn K (.ref f) = true)
    (h : wpAny (model prog w) A.in1 (call (.ref f) [.ref x]) Q E s) : wpAny (model prog w) A (call (.builtin "abs") [.ref x]) Q E s := by
  refine call_function_entry kind_abs plain_abs entry_abs (args_abs _) ?_
  unfold Builtin.«abs»
  refine wpAny_bind (m := oneArg "abs" _) (wpAny_pure ?_)
  refine wpAny_bind (m := callSpecial? (.ref x) (Str.ofString "__abs__")) (special_fn X I hs (beq_iff_eq.mp hf) (wpAny_mono h (fun r s' hr => ?_) fun _ _ y => y))
  exact wpAny_pure ⟨_, rfl, hr⟩
end
section
variable {X : Cx} {CX : CXT} {k : Nat} {C : Addr} {ps : List Str} {sp : Sp} {E : XK}
theorem op_eqR (M : CmpAt X.prog X.w X.K X.mg X.base CX k C "__eq__" ps sp) (su : PySem.W.subIn X.K (.ref C) (.type "int") = some false) (hr : Room k X.A) (hx : Passes CX X E) : OpR X (compareOp .Eq) (rCmpR C sp E) := op_cmpRv M su hr hx rfl (fun _ _ => rfl) (fun _ _ _ => rfl) PySem.F.slot_int_eq PySem.F.entry_int_eq PySem.F.args_int_eq_2 dec_eq
/-- bool(x) of an instance with its own __bool__ -/
def rBoolO (C : Addr) (sp : Sp) (E : XK) : List V → Hp → VK → Prop := fun xs H Q => ∃ a dx fs, xs = [.ref a] ∧ H a = some (.ins C dx fs) ∧ sp [.ref a] H (fun v H' => ∃ b, v = .bl b ∧ Q v H') E
theorem call_boolO (M : CmpAt X.prog X.w X.K X.mg X.base CX k C "__bool__" ps sp) (hr : Room (k + 2) X.A) (hx : Passes CX X E) : CallR X (.type "bool") (rBoolO C sp E) := by
  intro pins s σ H xs us Q I r h
  obtain ⟨f, fd, hs, hf, F, hb⟩ := M.ex
  obtain ⟨a, dx, fs, rfl, ha, hsp⟩ := h
  obtain ⟨u, rfl, r1⟩ := vals1 r
  obtain rfl : u = Value.ref a := r1
  obtain ⟨ox, od, J, _⟩ := ins_plain I ha
  obtain ⟨m', hF⟩ := I.fr
  have U : Und X k X.A.in1.in1 := (Und.here hr).in1.in1
  refine bool_call hF I.ok.mod.kin J hs hf (wpAny_mono (run_at (vs := [.ref a]) F hb hx U I (.cons rfl .nil) hsp) (fun v s' z => ?_) fun _ _ z => z)
  obtain ⟨z, H', I', rz, b, rfl, q⟩ := z
  cases (show v = Value.bool b from rz)
  exact ⟨.bl b, H', I', rfl, q⟩
/-- abs(x) of an instance with its own __abs__ -/
def rAbsO (C : Addr) (sp : Sp) (E : XK) : List V → Hp → VK → Prop := fun xs H Q => ∃ a dx fs, xs = [.ref a] ∧ H a = some (.ins C dx fs) ∧ sp [.ref a] H Q E
theorem call_absO (M : CmpAt X.prog X.w X.K X.mg X.base CX k C "__abs__" ps sp) (hr : Room (k + 1) X.A) (hx : Passes CX X E) : CallR X (.builtin "abs") (rAbsO C sp E) := by
  intro pins s σ H xs us Q I r h
  obtain ⟨f, fd, hs, hf, F, hb⟩ := M.ex
  obtain ⟨a, dx, fs, rfl, ha, hsp⟩ := h
  obtain ⟨u, rfl, r1⟩ := vals1 r
  obtain rfl : u = Value.ref a := r1
  obtain ⟨ox, od, J, _⟩ := ins_plain I ha
  have U : Und X k X.A.in1 := (Und.here hr).in1
  exact abs_call I.kIn J hs hf (run_at (vs := [.ref a]) F hb hx U I (.cons rfl .nil) hsp)
end
end My
/-! enumerate of a tuple; a class made by a star; a tuple turned about. -/
namespace My
open PySem PySem.Spec PySem.Calls PyProof.Rows L2
/-! ### enumerate(tuple) -/
theorem enum1_meets {v : Value} {o : Obj} {H : Heap → Prop} (B : Begins v o H) :
    Meets (Builtin.«enumerate.__new__» ⟨[.type "enumerate", v], []⟩) (fun _ R s => H s.heap ∧
      R (.ok (.ret (.ref (s.heap.push o).objs.size))) { s with heap := (s.heap.push o).push { cls := .type "enumerate", data := .fields #[.none, .bool false, .ref s.heap.objs.size, rawInt 0, .none, .none] } }) :=
  .of_wp fun prog w A R s h => by
    obtain ⟨hp, g, d, tk, os⟩ := s
    obtain ⟨h1, h⟩ := h
    have hsub := sub_enumerate
    have q1 : ∀ {A' : Around} {E : Value → Shared → Prop} {Q : Value → Shared → Prop}, Q (.ref hp.objs.size) ⟨hp.push o, g, d, tk, os⟩ → wpAny (model prog w) A' (pyIter v) Q E ⟨hp, g, d, tk, os⟩ :=
      fun q => B.iter prog w _ _ ⟨hp, g, d, tk, os⟩ _ h1 q
    wp_walk using q1
    refine wpAny_stack_any fun st => wpAny_pure ?_
    split
    · rename_i c _ _ _ _ _
      cases (c == Value.type "enumerate")
      · wp_walk using q1
        exact ⟨_, rfl, h⟩
      · wp_walk using q1
        exact ⟨_, rfl, h⟩
    · wp_walk using q1
      exact ⟨_, rfl, h⟩
section
variable {prog : Program} {w : World} {A : Around} {E : Value → Shared → Prop} {s : Shared}
theorem enum1_begins {v : Value} {o : Obj} {H : Heap → Prop} {Q : Value → Shared → Prop} (B : Begins v o H) (h1 : H s.heap)
    (h : ∀ h', IsEnum h' (s.heap.objs.size + 1) s.heap.objs.size 0 .none → h'.get? s.heap.objs.size = some o → h'.objs.size = s.heap.objs.size + 2 →
      (∀ b o, s.heap.get? b = some o → h'.get? b = some o) → Q (.ref (s.heap.objs.size + 1)) { s with heap := h' }) :
    wpAny (model prog w) A (call (.type "enumerate") [v]) Q E s := by
  refine callType_new F.called_enumerate (by decide) (F.typeCall_enumerate_1 _) (F.newCall_enumerate_1 _) (fun obj => F.args_object_init_2 obj _) F.entry_enumerate_new (enum1_meets B) ⟨h1, ?_⟩
  have hz : (s.heap.push o).objs.size = s.heap.objs.size + 1 := Heap.size_push ..
  show _ ∧ _
  rw [hz]
  have he : IsEnum ((s.heap.push o).push { cls := .type "enumerate", data := .fields #[.none, .bool false, .ref s.heap.objs.size, rawInt 0, .none, .none] }) (s.heap.objs.size + 1) s.heap.objs.size 0 .none := by
    have z := Heap.get?_push_size (s.heap.push o) (o := { cls := .type "enumerate", data := .fields #[.none, .bool false, .ref s.heap.objs.size, rawInt 0, .none, .none] }) rfl
    rw [hz] at z
    exact z
  exact ⟨⟨_, he, rfl⟩, h _ he (Heap.get?_push_of_some _ (Heap.get?_push_size _ B.free)) (by rw [Heap.size_push, hz]) fun b o x => Heap.get?_push_of_some _ (Heap.get?_push_of_some _ x)⟩
end
/-- the tuple at a, each item in a new pair -/
def IteT (K : PySem.W.Frag) (a : Addr) : It :=
  ⟨fun i H => ∃ (xs : List V) (x : V), SqT K H a xs ∧ xs[i]? = some x, fun i H v H' => ∃ T x, v = .ref T ∧ H T = none ∧ H' = upd H T (.tup [.int (i : Nat), x]) ∧ ∀ xs, SqT K H a xs → xs[i]? = some x, fun i H => ∃ xs : List V, SqT K H a xs ∧ xs.length = i⟩
theorem turn_enumT {P : Program} {w : World} {K : PySem.W.Frag} {elts : List Expr} {kk : Nat} {tpos : Pos} (a e it : Addr) :
    Turn P w K (.Tuple elts kk tpos) (IteT K a) [e, it] e (fun i h => (∃ old, IsEnum h e it ((i : Nat) : Int) old) ∧ h.IsTupleIter it a i ∧ e ≠ it) where
  mem := by simp
  obj := fun i h st b hb => by
    obtain ⟨⟨old, he⟩, ⟨o, ho, hc, hd⟩, _⟩ := st
    rcases (show b = e ∨ b = it by simpa using hb) with rfl | rfl
    · exact ⟨_, he, fun v q => nomatch q⟩
    · exact ⟨o, ho, fun v q => by rw [hd] at q; cases q⟩
  keep := fun i h h' st k => let ⟨⟨old, he⟩, hi, hne⟩ := st; ⟨⟨old, k e (by simp) _ he⟩, hi.at fun o q => k it (by simp) o q, hne⟩
  item := by
    intro X hP hw hK hc i pins s σ H E I hf st hg
    subst hP hw hK
    obtain ⟨⟨old, he⟩, hit, hne⟩ := st
    obtain ⟨xs, x, hq, hx⟩ := hg
    obtain ⟨its, rv, p, hz⟩ := I.tuple hq
    obtain ⟨u, hu, ru⟩ := rv.get hx
    have hel : e < s.heap.objs.size := Heap.lt_size he
    have hil : it < s.heap.objs.size := by obtain ⟨_, q, _⟩ := hit; exact Heap.lt_size q
    have hat : a ≠ it := fun z => by
      obtain ⟨o1, e1, c1, _⟩ := p
      obtain ⟨o2, e2, c2, _⟩ := hit
      rw [z, e2] at e1
      cases e1
      rw [c2] at c1
      exact absurd c1 (by decide)
    have hae : a ≠ e := fun z => by
      obtain ⟨o1, e1, c1, _⟩ := p
      rw [z, show s.heap.get? e = _ from he] at e1
      cases e1
      exact absurd (show Value.type "enumerate" = Value.type "tuple" from c1) (by decide)
    have D := Draws.tuple (prog := X.prog) (w := X.w) (A := X.A.in1) (I.ok.hd hc) it a hat its.toArray
    have hlt : i < its.toArray.size := by
      have := (List.getElem?_eq_some_iff.mp hu).1
      simpa using this
    refine wpAny_pyNext_enum_itemC (n := its.toArray.size) D he ⟨hit, p⟩ hlt hne (by simp; exact ⟨hne, Ne.symm hae⟩) fun x' h' tk hPx ho hst' hT hsz hk => ?_
    have ex : x' = u := by
      have h1 : its.toArray[i]? = some x' := hPx
      rw [List.getElem?_toArray, hu] at h1
      exact (Option.some.inj h1).symm
    subst ex
    refine ⟨_, rfl, wpAny_letOwnedTupleGo_enum (s := { s with heap := h', toks := tk + 1 }) ho fun h'' he' sb => ?_⟩
    have hT2 : h''.get? s.heap.objs.size = some { cls := .type "tuple", data := .seq #[.int i tk, x'] } := (sb.2 _ (Nat.ne_of_gt hel)).trans hT
    have new : ObjOk X.prog X.w (upd H s.heap.objs.size (.tup [.int (i : Nat), x])) h'' s.heap.objs.size (.tup [.int (i : Nat), x]) :=
      ⟨by show 2 ≤ sizeLine; decide, [.int i tk, x'], .cons ⟨_, rfl⟩ (.cons ru .nil), ⟨_, hT2, rfl, _, rfl⟩⟩
    have I1 : Inv X pins σ (upd H s.heap.objs.size (.tup [.int (i : Nat), x])) { s with heap := h'', toks := tk + 1 } :=
      I.turnedNew (ch := [e, it]) (fun b ob hb q => (sb.2 b (fun z => hb (by simp [z]))).trans (hk b ob (fun z => hb (by simp [z])) (fun z => hb (by simp [z])) q)) hf (Nat.le_refl _) new
    refine ⟨.ref s.heap.objs.size, _, I1, rfl, ⟨_, x, rfl, I.hok.fresh (Nat.le_refl _), rfl, fun ys hy => by rw [I.tuple_inj hy hq]; exact hx⟩, ⟨⟨x', ?_⟩, hst'.1.at fun o q => (sb.2 it (Ne.symm hne)).trans q, hne⟩, fun b hb => ?_⟩
    · have e1 : ((i + 1 : Nat) : Int) = (i : Int) + 1 := by omega
      rw [e1]
      exact he'
    · have hb' : b < s.heap.objs.size := by
        rcases (show b = e ∨ b = it by simpa using hb) with rfl | rfl
        · exact hel
        · exact hil
      rw [upd_ne (Nat.ne_of_lt hb')]
      exact (hf b hb).1
  done := by
    intro X hP hw hK hc i pins s σ H E I hf st hg
    subst hP hw hK
    obtain ⟨⟨old, he⟩, hit, hne⟩ := st
    obtain ⟨xs, hq, hx⟩ := hg
    obtain ⟨its, rv, p, hz⟩ := I.tuple hq
    obtain ⟨f0, f1, f2, f3, f4, f5⟩ := hf it (by simp)
    have hl := rv.length
    have hat : a ≠ it := fun z => by
      obtain ⟨o1, e1, c1, _⟩ := p
      obtain ⟨o2, e2, c2, _⟩ := hit
      rw [z, e2] at e1
      cases e1
      rw [c2] at c1
      exact absurd c1 (by decide)
    have D := Draws.tuple (prog := X.prog) (w := X.w) (A := X.A.in1) (I.ok.hd hc) it a hat its.toArray
    have ei : i = its.toArray.size := by
      rw [List.size_toArray]
      omega
    subst ei
    exact wpAny_pyNext_enum_endD D he ⟨hit, p⟩ fun h' eb => ⟨rfl, I.turned (t' := s.toks) (fun b o hb q => eb b o hb q) f0 f1 f3 f4 f5⟩
  self := fun A i s Q E st h => let ⟨⟨_, he⟩, _⟩ := st; wpAny_pyIter_enum he h
def iEnumT (K : PySem.W.Frag) (ta : TA) : TI := fun σ H R => ta σ H fun vs H1 => ∃ a xs, vs = [.ref a] ∧ SqT K H1 a xs ∧ R (IteT K a) H1
theorem pi_enumT {X : Cx} {e : Expr} {ta : TA} {p pos tpos : Pos} {elts : List Expr} {kk : Nat} (hg : Gl X "enumerate") (hm : X.mg "enumerate" = none) (ha : PA X [e] ta) (hs : starEach [e] X.env = [(false, eval e X.env)] := by rfl) :
    PI X (.Tuple elts kk tpos) (.Call (.Name "enumerate" p) [e] [] pos) (iEnumT X.K ta) := by
  refine ⟨fun pins s σ H R I h => ?_⟩
  refine Call_ (ld_blt I hg hm boot_enumerate (PyProof.Rows.callWith_type1 (thn (ha.run pos pins s σ H _ I h) fun us s1 ⟨vs, H1, I1, r1, q1⟩ => ?_) hs rfl))
  obtain ⟨a, xs, ex, hq, q⟩ := q1
  subst ex
  cases r1 with
  | cons r rr =>
    cases rr
    cases r
    obtain ⟨its, rv, p', hz⟩ := I1.tuple hq
    refine enum1_begins (begins_tuple a its.toArray) p' fun h' he hit hsz hk => wpAny_pyIter_enum he ?_
    have I2 : Inv X pins σ H1 { s1 with heap := h' } := I1.kept (t' := s1.toks) hk
    refine ⟨s1.heap.objs.size + 1, [s1.heap.objs.size + 1, s1.heap.objs.size], _, _, H1, rfl, I2, turn_enumT a (s1.heap.objs.size + 1) s1.heap.objs.size, ⟨⟨.none, he⟩, ⟨_, hit, rfl, rfl⟩, Nat.succ_ne_self _⟩, fun b hb => ?_, q⟩
    have hle : s1.heap.objs.size ≤ b := by
      rcases (show b = s1.heap.objs.size + 1 ∨ b = s1.heap.objs.size by simpa using hb) with rfl | rfl
      · exact Nat.le_add_right _ _
      · exact Nat.le_refl _
    exact I1.fpOk hle (I1.hok.fresh hle)
/-! ### t[::-1] of a tuple -/
section
variable {prog : Program} {w : World} {A : Around} {E : Value → Shared → Prop} {s : Shared}
theorem places_rev (n : Nat) : Builtin.Slice.slicePlaces ((n : Int) - 1) (-1) (-1) = n := by
  unfold Builtin.Slice.slicePlaces
  rw [if_neg (by decide)]
  split
  · have e : ((n : Int) - 1 - -1 - 1) / (- -1) + 1 = n := by
      rw [show (- -1 : Int) = 1 by decide, Int.ediv_one]
      omega
    rw [e]
    omega
  · omega
theorem pick_rev (xs : Array Value) : ((List.range xs.size).filterMap fun (k : Nat) => xs[((xs.size : Int) - 1 + (k : Int) * (-1)).toNat]?).toArray = xs.toList.reverse.toArray := by
  have h := PySem.W.krv_pick xs
  rw [← h]
  unfold slicePick
  rw [PySem.W.krv_bounds]
  show _ = ((sliceRange ((xs.size : Int) - 1) (-1) (-1)).filterMap (xs[·]?)).toArray
  rw [PySem.W.krv_sliceRange, List.filterMap_map]
  congr 1
  have go : ∀ l : List Nat, (∀ k ∈ l, k < xs.size) → l.filterMap (fun (k : Nat) => xs[((xs.size : Int) - 1 + (k : Int) * (-1)).toNat]?) = l.filterMap ((fun x => xs[x]?) ∘ fun k => xs.size - 1 - k) := by
    intro l
    induction l with
    | nil => intro _; rfl
    | cons k l ih =>
      intro h
      have hk := h k List.mem_cons_self
      have e : ((xs.size : Int) - 1 + (k : Int) * (-1)).toNat = xs.size - 1 - k := by omega
      rw [List.filterMap_cons, List.filterMap_cons, e, ih fun x hx => h x (List.mem_cons_of_mem _ hx)]
      rfl
  exact go _ fun k hk => List.mem_range.mp hk
theorem getItem_rev {t sl : Addr} {items : Array Value} {vl vu vs : Value} {Q : Value → Shared → Prop} (ht : IsTup s.heap t items) (hs : s.heap.IsSliceOf sl vl vu vs) (pl : IsPart vl none) (pu : IsPart vu none) (ps : IsPart vs (some (-1)))
    (h : Q (.ref s.heap.objs.size) { s with heap := s.heap.push { cls := .type "tuple", data := .seq items.toList.reverse.toArray } }) (hsz : items.size ≤ sizeLine) : wpAny (model prog w) A (getItem (.ref t) (.ref sl)) Q E s := by
  have hok : sizeOk (.seq items.toList.reverse.toArray) := by
    show items.toList.reverse.toArray.size ≤ sizeLine
    rw [List.size_toArray, List.length_reverse, Array.length_toList]
    exact hsz
  obtain ⟨os, hos, hcs, hds⟩ := id hs
  have hTs : s.TypeIs (.ref sl) "slice" := ⟨os, hos, hcs⟩
  unfold getItem
  try with_reducible refine wpAny_holding ?_
  first | refine wpAny_bind (wpAny_pure ?_) | skip
  refine wpAny_bind (wpAny_sequenceKey ht.typeIs (by decide) ?_)
  refine wpAny_bind (wpAny_callSpecial?_slot (name := Str.ofString "__getitem__") ht.typeIs PyProof.Rows.slot_tuple_getitem
    (wpAny_call_entry PyProof.Rows.slot_tuple_getitem ht.typeIs entry_tuple_getitem ?_ (args_tuple_getitem _ _)))
  show wpAny _ _ (Builtin.Tuple.tupleItemsOf (.ref t) >>= _) _ _ s
  refine wpAny_bind (tupleItemsOf_ ht ?_)
  refine wpAny_bind (wpAny_typeOf hTs ?_)
  rw [if_pos (by decide)]
  have app : ∀ {Q : Int × Int × Nat → Shared → Prop}, Q ((items.size : Int) - 1, -1, items.size) s → wpAny (model prog w) A.in1 (Builtin.Slice.sliceApplied (.ref sl) (pure (items.size : Int))) Q E s := fun {Q} q => by
    unfold Builtin.Slice.sliceApplied Builtin.Slice.sliceFields
    refine wpAny_bind (wpAny_bind (wpAny_field hos hds (x := vl) rfl (wpAny_bind (wpAny_field hos hds (x := vu) rfl (wpAny_bind (wpAny_field hos hds (x := vs) rfl (wpAny_pure ?_)))))))
    refine wpAny_bind (HT.slicePart_ ps ?_)
    show wpAny _ _ (if ((-1 : Int) == 0) = true then _ else _) _ _ s
    rw [if_neg (by decide)]
    refine wpAny_bind (HT.slicePart_ pl (wpAny_bind (HT.slicePart_ pu (wpAny_bind (wpAny_pure ?_)))))
    have e : Builtin.Slice.slicePlaces ((items.size : Int) - 1) (-1) (-1) = items.size := places_rev _
    show wpAny _ _ (pure (((items.size : Int) - 1), (-1 : Int), Builtin.Slice.slicePlaces ((items.size : Int) - 1) (-1) (-1))) _ _ s
    rw [e]
    exact wpAny_pure q
  refine wpAny_bind (app ?_)
  have hno : ¬ ((((items.size : Int) - 1) == 0 && (-1 : Int) == 1 && items.size == items.size) = true) := by
    intro q
    rw [Bool.and_eq_true, Bool.and_eq_true] at q
    exact absurd q.1.2 (by decide)
  show wpAny _ _ (if (((items.size : Int) - 1) == 0 && (-1 : Int) == 1 && items.size == items.size) = true then _ else _) _ _ s
  rw [if_neg hno, pick_rev]
  first
    | exact wpAny_bind (m := Builtin.Tuple.tupleExact _) (wpAny_newObj_type (wpAny_pure ⟨_, rfl, wpAny_pure h⟩) hok)
    | exact wpAny_bind (m := Builtin.Tuple.tupleExact _) (wpAny_newObj_type (wpAny_bind (wpAny_pure (wpAny_pure ⟨_, rfl, wpAny_pure h⟩))) hok)
    | exact wpAny_bind (wpAny_bind (m := Builtin.Tuple.tupleExact _) (wpAny_newObj_type (wpAny_pure (wpAny_pure ⟨_, rfl, wpAny_pure h⟩)) hok))
    | exact wpAny_bind (wpAny_bind (m := Builtin.Tuple.tupleExact _) (wpAny_newObj_type (wpAny_pure ⟨_, rfl, wpAny_pure h⟩) hok))
end
end My
/-! A class made by a star, classmethods, x[k] by an own __getitem__, bool of a tuple, a tuple turned about, enumerate in a for. -/
namespace My
open PySem PySem.Spec PySem.Calls PyProof.Rows L2
/-! ### t[::-1] -/
def tRevT (K : PySem.W.Frag) (te : TE) : TE := fun σ H Q => te σ H fun x H1 => ∃ a xs, x = .ref a ∧ SqT K H1 a xs ∧ ∀ p, H1 p = none → Q (.ref p) (upd H1 p (.tup xs.reverse))
theorem pe_revT {X : Cx} {e : Expr} {te : TE} {k : Nat} {p1 p2 p3 pos : Pos} (he : PE X e te) : PE X (.Subscript e (.Slice none none (some (.UnaryOp .USub (.Constant (.int 1) k p1) p2)) p3) pos) (tRevT X.K te) := by
  refine ⟨fun pins s σ H Q I h => ?_⟩
  refine Subscript_ (thn (he.run pins s σ H _ I h) fun v t1 ⟨x, H1, I1, r1, a, xs, ex, hx, q⟩ => ?_)
  subst ex
  cases r1
  have step : PO X (some (.UnaryOp .USub (.Constant (.int 1) k p1) p2)) (tPart (tUn (rU fun i => .int (-i)) (tC (.int 1)))) := po_some (pe_un un_neg pe_int)
  refine wpAny_Slice (thn (po_none.run pins t1 σ H1 (fun o H2 => o = none ∧ H2 = H1) I1 ⟨rfl, rfl⟩) fun vl t2 ⟨l, H2, I2, pl, el, e2⟩ => ?_)
  subst el e2
  refine thn (po_none.run pins t2 σ H2 (fun o H3 => o = none ∧ H3 = H2) I2 ⟨rfl, rfl⟩) fun vu t3 ⟨u, H3, I3, pu, eu, e3⟩ => ?_
  subst eu e3
  refine thn (step.run pins t3 σ H3 (fun o H4 => o = some (-1) ∧ H4 = H3) I3 ⟨1, rfl, -1, rfl, rfl, rfl⟩) fun vs t4 ⟨o, H4, I4, ps, eo, e4⟩ => ?_
  subst eo e4
  have I5 : Inv X pins σ H4 { t4 with heap := t4.heap.push { cls := .type "slice", data := .fields #[vl, vu, vs] } } := I4.kept (t' := t4.toks) fun b ob q => Heap.get?_push_of_some _ q
  obtain ⟨its, r, ht, hz⟩ := I5.tuple hx
  have hlen := r.length
  show wpAny (model X.prog X.w) X.A (subscriptTail e (.Slice none none (some (.UnaryOp .USub (.Constant (.int 1) k p1) p2)) p3) (.ref a) (.ref t4.heap.objs.size)) (EP X pins σ Q) X.xe { t4 with heap := t4.heap.push { cls := .type "slice", data := .fields #[vl, vu, vs] } }
  refine tail_any (ops := [.ref a, .ref t4.heap.objs.size]) ht.typeIs (PyProof.Rows.slot_tuple_getitem.lookup) ?_ (by with_unfolding_all rfl)
  refine getItem_rev ht (Heap.IsSliceOf.new _ vl vu vs) pl pu ps ?_ (by rw [List.size_toArray]; omega)
  refine ⟨.ref _, _, I5.laid (t' := t4.toks) (o := .tup xs.reverse) (fun b ob q => Heap.get?_push_of_some _ q) (Nat.le_refl _) ?_, rfl, q _ (I5.hok.fresh (Nat.le_refl _))⟩
  exact ⟨by rw [List.length_reverse]; exact hz, _, r.reverse, ⟨_, Heap.get?_push_size _ rfl, rfl, _, rfl⟩⟩
/-! ### bool(t) -/
section
variable {prog : Program} {w : World} {A : Around} {E : Value → Shared → Prop} {s : Shared}
theorem bool_tup {t : Addr} {items : Array Value} {Q : Value → Shared → Prop} (hfit : (items.size : Int) < 2 ^ 63) (ht : IsTup s.heap t items) (h : ∀ tk, Q (.bool (!items.isEmpty)) { s with toks := tk }) : wpAny (model prog w) A (call (.type "bool") [.ref t]) Q E s := by
  refine callType_codes (T := "bool") (Bi := Builtin.«object.__init__») (Q₁ := fun r s' => ∃ b, r = .bool b ∧ Q r s') PySem.F.called_bool (PySem.F.typeCall_bool_1 _) PySem.F.entry_object_init ?_ ?_
  · refine codeAny_of_tree ?_
    show wpAny _ A.in1.in1 (do checkBuiltinCall "bool.__new__" ⟨[.type "bool", .ref t], []⟩; again (.builtin "bool.__new__" ⟨[.type "bool", .ref t], []⟩)) _ _ s
    refine wpAny_bind (wpAny_of_eq (PySem.F.newCall_bool_1 _) (wpAny_pure ⟨plainId_quiet (by decide +kernel) _, codeAny_builtin PySem.F.entry_bool_new ?_⟩))
    rw [Around.under_plainId (by decide +kernel) _]
    unfold Builtin.«bool.__new__»
    have f1 := PySem.F.conv_sub_bool
    have go : wpAny (model prog w) A.in1.in1 (truthy (.ref t)) (fun b s' => Q (.bool b) s') E s := truthy_tuple ht hfit (h _)
    refine wpAny_bind (m := isType (.type "bool")) (wpAny_pure ?_)
    refine wpAny_bind (m := isSubtype (.type "bool") (.type "bool")) (wpAny_of_eq f1 ?_)
    refine wpAny_bind (wpAny_pure ?_)
    refine wpAny_bind (m := truthy (.ref t)) (wpAny_mono go (fun b s' hq => ?_) fun _ _ y => y)
    exact wpAny_pure ⟨b, rfl, hq⟩
  · rintro obj s' ⟨b, rfl, hq⟩
    exact ⟨PySem.typeIs_bool _ _, PySem.F.args_object_init_2 _ _, object_init_meets PySem.F.called_bool.init.lookup PySem.F.called_bool.made (by decide) prog w A.in1 _ s' ⟨PySem.typeIs_bool _ _, rfl, hq⟩⟩
end
theorem call_boolT {X : Cx} : CallR X (.type "bool") (fun xs H Q => ∃ (a : Addr) (zs : List V), xs = [.ref a] ∧ SqT X.K H a zs ∧ Q (.bl (!zs.isEmpty)) H) := by
  intro pins s σ H xs us Q I r h
  obtain ⟨a, zs, rfl, hq, q⟩ := h
  obtain rfl := Vals.ref1 r
  obtain ⟨its, rv, pl, hz⟩ := I.tuple hq
  have hl := line63
  have hlen := rv.length
  refine bool_tup (by simp only [List.size_toArray]; omega) pl fun tk => ?_
  exact ⟨.bl (!zs.isEmpty), H, I.tok _, by rw [isEmpty_of rv]; rfl, q⟩
/-! ### a class whose __init__ takes a star -/
structure MakeR (P : Program) (w : World) (K : PySem.W.Frag) (mg : Str → Option Value) (base : Heap) (CX : CXT) (k : Nat) (x : Str) (C : Addr) (sp : Sp) : Prop where
  ex : ∃ f, Mk K C f ∧ FnR P w K mg base CX k f sp ∧ mg x = some (.ref C)
section
variable {X : Cx} {CX : CXT} {k : Nat} {C : Addr} {sp : Sp} {E : XK} {x : Str} {e : Expr} {es : List Expr} {te : TE} {t : TA} {p sp_ pos : Pos}
theorem pe_mkR (M : MakeR X.prog X.w X.K X.mg X.base CX k x C sp) (hr : Room (k + 1) X.A) (hg : Gl X x) (hx : Passes CX X E) (ha : PA X (e :: es) t) (hdb : (x == ("__debug__" : Str)) = false := by decide)
    (he : starEach (e :: es) X.env = (false, eval e X.env) :: starEach es X.env := by rfl) (hpl : (backTo pos (starEach es X.env)).any (·.1) = false := by rfl) : PE X (.Call (.Name x p) (e :: es) [] pos) (StX.tMakeR C sp E t) := by
  obtain ⟨f, mk, F, hm⟩ := M.ex
  exact StX.pe_makeR mk F hr hg hm hx ha hdb he hpl
/-- C() -/
theorem pe_mkR0 (M : MakeR X.prog X.w X.K X.mg X.base CX k x C sp) (hr : Room (k + 1) X.A) (hg : Gl X x) (hx : Passes CX X E) (hdb : (x == ("__debug__" : Str)) = false := by decide) : PE X (.Call (.Name x p) [] [] pos) (StX.tMakeR C sp E tNil) := by
  obtain ⟨f, mk, F, hm⟩ := M.ex
  refine ⟨fun pins s σ H Q I h => ?_⟩
  refine wpAny_Call_Name_kw (ld_glob I hg hm ?_ hdb)
  refine PySem.W.callWith_K0 (first := []) I.kIn mk.kp ?_
  exact StX.run_makeR mk F hr hx I .nil h
/-- C(*e) -/
def tMakeS (K : PySem.W.Frag) (C : Addr) (sp : Sp) (E : XK) (te : TE) : TE := fun σ H Q => te σ H fun y H1 => ∃ a xs, y = V.ref a ∧ (SqT K H1 a xs ∨ SqL K H1 a xs) ∧ ∀ x dx, H1 x = none → H1 dx = none → dx ≠ x →
  sp (V.ref x :: xs) (upd (upd H1 dx (.own x)) x (.ins C dx [])) (fun v H2 => v = .non ∧ Q (.ref x) H2) E
theorem pe_mkS (M : MakeR X.prog X.w X.K X.mg X.base CX k x C sp) (hr : Room (k + 1) X.A) (hg : Gl X x) (hx : Passes CX X E) (he : PE X e te) (hdb : (x == ("__debug__" : Str)) = false := by decide)
    (hst : starEach [.Starred e sp_] X.env = [(true, eval e X.env)] := by rfl) : PE X (.Call (.Name x p) [.Starred e sp_] [] pos) (tMakeS X.K C sp E te) := by
  obtain ⟨f, mk, F, hm⟩ := M.ex
  refine ⟨fun pins s σ H Q I h => ?_⟩
  refine wpAny_Call_Name_kw (ld_glob I hg hm ?_ hdb)
  refine PySem.W.callWith_S (h₀ := X.base) I.ok.mod.kin mk.kp (thn (he.run pins s σ H _ I h) fun v t1 ⟨y, H1, I1, ry, a, xs, ey, hxs, q⟩ => ?_) hst
  subst ey
  obtain rfl : v = Value.ref a := ry
  exact StX.star_any I1 hxs fun us t2 I2 rv => ⟨I2.kIn, StX.run_makeR mk F hr hx I2 rv q⟩
end
/-! ### classmethods -/
theorem fnR_of {P : Program} {w : World} {K : PySem.W.Frag} {mg : Str → Option Value} {base : Heap} {CX : CXT} {k : Nat} {f : Addr} {fd : FuncData} {ps : List Str} {sp : Sp} (F : FnOk P w K mg base CX k f fd ps sp) (b : L2.Binds K fd ps []) : FnR P w K mg base CX k f sp := by
  intro A outer s H us vs Q E hr e0 r hsp
  have hl : (us ++ []).length = ps.length := by
    rw [List.append_nil, ← r.length]
    exact F.len _ _ _ _ hsp
  have hb := b s us (e0.mod.kin.keeps fun b o e => (e0.bs b o e).1) hl
  rw [List.append_nil] at hb
  exact F.run A outer s H ⟨us, []⟩ us vs Q E hr e0 hb r hsp
structure ClsAt (P : Program) (w : World) (K : PySem.W.Frag) (mg : Str → Option Value) (base : Heap) (CX : CXT) (k : Nat) (C : Addr) (m : Str) (sp : Sp) : Prop where
  ex : ∃ mc p g, ClX.CRead K C mc ∧ ClX.CMet K C mc m p g ∧ FnR P w K mg base CX k g sp
theorem pe_cm {X : Cx} {CX : CXT} {k : Nat} {C : Addr} {sp : Sp} {E : XK} {o e : Expr} {es : List Expr} {m : Str} {pos apos : Pos} {ta : TE} {t : TA} {pl : Sem Bool} (M : ClsAt X.prog X.w X.K X.mg X.base CX k C m sp) (hr : Room k X.A) (hx : Passes CX X E) (he : PE X o ta) (ha : PA X (e :: es) t)
    (hst : starEach (e :: es) X.env = (false, eval e X.env) :: starEach es X.env := by rfl) (hpl : (backTo pos (starEach es X.env)).any (·.1) = false := by rfl)
    (ht : eval (.Call (.Attribute o m apos) (e :: es) [] pos) X.env = (do
      let ov ← eval o X.env
      standAt apos.atName
      let (f, first) ← holding [ov] (getMethod ov m pl)
      callWith pos f first (backTo pos (starEach (e :: es) X.env)) (backToKw pos (keywordEach [] X.env))) := by rfl) :
    PE X (.Call (.Attribute o m apos) (e :: es) [] pos) (ClX.tCMeth C sp E ta t) := by
  obtain ⟨mc, p, g, r, c, F⟩ := M.ex
  exact ClX.pe_cmeth he r c F hr hx ha hst hpl ht
/-! ### x[k] by an own __getitem__ -/
structure GetAt (P : Program) (w : World) (K : PySem.W.Frag) (mg : Str → Option Value) (base : Heap) (CX : CXT) (k : Nat) (C : Addr) (ps : List Str) (sp : Sp) : Prop where
  ex : ∃ f fd, PySem.W.findIn K (.ref C) "__getitem__" = some (some (.ref f)) ∧ PySem.W.isFn K (.ref f) = true ∧ PySem.W.fnIn K f = true ∧ FnOk P w K mg base CX k f fd ps sp ∧ L2.Binds K fd ps []
def tGet (C : Addr) (sp : Sp) (E : XK) (ta tb : TE) : TE := fun σ H Q => ta σ H fun x H1 => tb σ H1 fun y H2 => ∃ a dx fs, x = .ref a ∧ H2 a = some (.ins C dx fs) ∧ sp [x, y] H2 Q E
theorem pe_get {X : Cx} {CX : CXT} {k : Nat} {C : Addr} {ps : List Str} {sp : Sp} {E : XK} {a b : Expr} {ta tb : TE} {pos : Pos} (M : GetAt X.prog X.w X.K X.mg X.base CX k C ps sp) (hr : Room (k + 1) X.A) (hx : Passes CX X E) (ha : PE X a ta) (hb : PE X b tb)
    (hsl : ∀ (x : Addr) (i : Value), subscripted b true (.ref x) i = runValue (.builtin "lifetime.subscript" ⟨[.ref x, i], []⟩) := by intro _ _; with_unfolding_all rfl) : PE X (.Subscript a b pos) (tGet C sp E ta tb) := by
  obtain ⟨f, fd, hs, hf, hfn, F, hbd⟩ := M.ex
  refine ⟨fun pins s σ H Q I h => ?_⟩
  refine Subscript_ (binT ha hb I h fun v u s2 x y H2 I2 rx ry q => ?_)
  obtain ⟨p, dx, fs, rfl, hp, hsp⟩ := q
  obtain rfl : v = Value.ref p := rx
  obtain ⟨ox, od, J, _⟩ := ins_plain I2 hp
  obtain ⟨m', hF⟩ := I2.fr
  have U : Und X k X.A.in1 := (Und.here hr).in1
  exact PySem.W.sub_K hF I2.ok.mod.kin J hs hfn hf (run_at (vs := [.ref p, y]) F hbd hx U I2 (.cons rfl (.cons ry .nil)) hsp) (hsl _ _)
end My
/-! A class made by a star, a classmethod, an own __getitem__, from what the top finds. -/
namespace My
open PySem PySem.Spec PyProof.Rows L2
theorem nm_at : Sup.Nm "at" := ⟨by decide, by decide, by decide, by decide, fun _ _ _ _ _ _ _ _ _ _ _ _ => rfl⟩
theorem nm_value : Sup.Nm "value" := ⟨by decide, by decide, by decide, by decide, fun _ _ _ _ _ _ _ _ _ _ _ _ => rfl⟩
structure HasCM (K : PySem.W.Frag) (C : Addr) (m qual : Str) (st : Stmt) : Prop where
  ex : ∃ mc p g fd, ClX.CRead K C mc ∧ ClX.CMet K C mc m p g ∧ Fun K m qual st g fd
section
variable {P : Program} {w : World} {K : PySem.W.Frag} {mg : Str → Option Value} {base : Heap} {CX : CXT} {k : Nat} {x m qual : Str} {st : Stmt} {ps ks : List Str} {sp : Sp} {C : Addr}
theorem makeR_at (A : HasM K C "__init__" qual st) (hx : mg x = some (.ref C)) (mk : PySem.W.makesIn K C = true) (kp : PySem.W.keepIn K (.ref C) = true)
    (ok : ∀ (f : Addr) (oc : Value) (od : Option Addr) (kV doc pm : Value) (an : Option Addr) (cdv ct : Value) (osl : Array (Option Value)), K.lookup f = some ⟨oc, od, .func (PySem.W.fnOf "__init__" qual (defArgs st) (defBody st) (defScope st) .none kV doc pm an cdv ct), osl⟩ → PySem.W.codeIn K cdv qual = true → FnR P w K mg base CX k f sp) : MakeR P w K mg base CX k x C sp := by
  obtain ⟨f, fd, h1, h2, F⟩ := A.ex
  obtain ⟨oc, od, kV, doc, pm, an, cdv, ct, osl, rfl, lk, hcd⟩ := F.ex
  exact ⟨f, ⟨mk, h1, h2, kp⟩, ok f _ _ _ _ _ _ _ _ _ lk hcd, hx⟩
theorem cls_at (A : HasCM K C m qual st) (ok : ∀ f fd, Fun K m qual st f fd → FnOk P w K mg base CX k f fd ps sp) (b : BindW m qual st ps) : ClsAt P w K mg base CX k C m sp := by
  obtain ⟨mc, p, g, fd, h1, h2, F⟩ := A.ex
  exact ⟨mc, p, g, h1, h2, fnR_of (ok g fd F) (F.binds b)⟩
theorem get_at (A : HasM K C "__getitem__" qual st) (ok : ∀ f fd, Fun K "__getitem__" qual st f fd → FnOk P w K mg base CX k f fd ps sp) (b : BindW "__getitem__" qual st ps) : GetAt P w K mg base CX k C ps sp := by
  obtain ⟨f, fd, h1, h2, F⟩ := A.ex
  have F' := F
  obtain ⟨oc, od, kV, doc, pm, an, cdv, ct, osl, rfl, lk, _⟩ := id F.ex
  refine ⟨f, _, h1, h2, ?_, ok f _ F', F'.binds b⟩
  unfold PySem.W.fnIn
  rw [lk]
end
end My
/-! Values of other kinds, ints shown, what stays where the pen and the tables change. -/
namespace My
open PySem PySem.Spec PyProof.Rows L2
/-! ### values of other kinds -/
/-- the built-in kind of a value -/
inductive Ty0 (H : Hp) : V → String → Prop where
  | non : Ty0 H .non "NoneType"
  | bl (b : Bool) : Ty0 H (.bl b) "bool"
  | int (i : Int) : Ty0 H (.int i) "int"
  | str (x : Str) : Ty0 H (.str x) "str"
  | lst {a : Addr} {xs : List V} (e : H a = some (.lst xs)) : Ty0 H (.ref a) "list"
  | tup {a : Addr} {xs : List V} (e : H a = some (.tup xs)) : Ty0 H (.ref a) "tuple"
  | dK {a : Addr} {kvs : List (Key × V)} (e : H a = some (.dK kvs)) : Ty0 H (.ref a) "dict"
theorem Ty0.tyx {K : PySem.W.Frag} {H : Hp} {v : V} {t : String} (h : Ty0 H v t) : TyX K H v (.type t) := by
  cases h with
  | non => exact .base .non
  | bl b => exact .base (.bl b)
  | int i => exact .base (.int i)
  | str x => exact .base (.str x)
  | lst e => exact .base (.lst e)
  | tup e => exact .base (.tup e)
  | dK e => exact .base (.dK e)
def isI : V → Bool
  | .int _ => true
  | _ => false
theorem isI_int {v : V} (h : isI v = true) : ∃ i, v = .int i := by
  cases v with
  | int i => exact ⟨i, rfl⟩
  | _ => cases h
def isT (t : String) : Bool := t == "int"
theorem Ty0.isI {H : Hp} {v : V} {t : String} (h : Ty0 H v t) : My.isI v = isT t := by cases h <;> rfl
theorem Ty0.kint {K : PySem.W.Frag} {H : Hp} {v : V} {t : String} (h : Ty0 H v t) : ∃ b, PySem.W.kitOne K (.type t) (.type "int") = some b ∧ (b = true → ∃ c, PySem.W.kitOne K (.type t) (.type "bool") = some c ∧ My.isI v = !c) ∧ (b = false → My.isI v = false) := by
  cases h with
  | non => exact ⟨false, kit_ty (by decide +kernel), (fun z => Bool.noConfusion z), fun _ => rfl⟩
  | bl b => exact ⟨true, kit_ty (by decide +kernel), fun _ => ⟨true, kit_ty (by decide +kernel), rfl⟩, (fun z => Bool.noConfusion z)⟩
  | int i => exact ⟨true, kit_ty (by decide +kernel), fun _ => ⟨false, kit_ty (by decide +kernel), rfl⟩, (fun z => Bool.noConfusion z)⟩
  | str x => exact ⟨false, kit_ty (by decide +kernel), (fun z => Bool.noConfusion z), fun _ => rfl⟩
  | lst e => exact ⟨false, kit_ty (by decide +kernel), (fun z => Bool.noConfusion z), fun _ => rfl⟩
  | tup e => exact ⟨false, kit_ty (by decide +kernel), (fun z => Bool.noConfusion z), fun _ => rfl⟩
  | dK e => exact ⟨false, kit_ty (by decide +kernel), (fun z => Bool.noConfusion z), fun _ => rfl⟩
theorem Ty0.keep {H H' : Hp} {v : V} {t : String} (h : Ty0 H v t) (k : ∀ b o, H b = some o → (∀ p, v = .ref p → p = b → H' b = some o)) : Ty0 H' v t := by
  cases h with
  | non => exact .non
  | bl b => exact .bl b
  | int i => exact .int i
  | str x => exact .str x
  | lst e => exact .lst (k _ _ e _ rfl rfl)
  | tup e => exact .tup (k _ _ e _ rfl rfl)
  | dK e => exact .dK (k _ _ e _ rfl rfl)
theorem Ty0.same {H H' : Hp} {v : V} {t : String} (h : Ty0 H v t) (k : Same H H') : Ty0 H' v t := h.keep fun b o e _ _ _ => k b o e
theorem same_new {H : Hp} {p : Addr} {o : HO} (h : H p = none) : Same H (upd H p o) := fun b u e => by rw [upd_ne (ne_of_none e h)]; exact e
/-- a value of a built-in kind, or an instance of the class at C -/
def TyL (C : Addr) (H : Hp) (v : V) : Prop := (∃ t, Ty0 H v t) ∨ ∃ a dx fs, v = .ref a ∧ H a = some (.ins C dx fs)
theorem TyL.same {C : Addr} {H H' : Hp} {v : V} (h : TyL C H v) (k : Same H H') : TyL C H' v := by
  rcases h with ⟨t, h⟩ | ⟨a, dx, fs, e, h⟩
  · exact .inl ⟨t, h.same k⟩
  · exact .inr ⟨a, dx, fs, e, k _ _ h⟩
theorem TyL.int (C : Addr) (H : Hp) (i : Int) : TyL C H (.int i) := .inl ⟨_, .int i⟩
theorem pen_ne {H : Hp} {pn l : Addr} {n : Nat} (hp : PenAt H pn n) (hl : H l = none) : l ≠ pn := by
  obtain ⟨cl, ns, a, r, g1, _⟩ := hp
  exact (ne_of_none g1 hl).symm
theorem but_same {pn : Addr} {H H' : Hp} (s : Same H H') : But pn H H' := fun b o e _ => s b o e
theorem pen_same {pn : Addr} {H H' : Hp} {n : Nat} (hp : PenAt H pn n) (k : Same H H') : PenAt H' pn n := by
  obtain ⟨cl, ns, a, r, g1, g2, g3⟩ := hp
  exact ⟨cl, ns, a, r, k _ _ g1, k _ _ g2, g3⟩
theorem mem_ints {v : V} {zs : List Int} (h : v ∈ zs.map V.int) : ∃ z, v = .int z ∧ z ∈ zs := by
  obtain ⟨z, hz, e⟩ := List.mem_map.mp h
  exact ⟨z, e.symm, hz⟩
theorem num_len {i : Int} (h : i.natAbs.log2 < 1920) : ((toString i : String) : Str).length ≤ 1921 := by
  have e := int_text_length_le (k := 1920) (by decide) h
  show (Str.ofString (toString i)).length ≤ 1921
  rw [PySem.ofString_length]
  exact e
theorem app_len (x y : Str) : (x ++ y).length = x.length + y.length := PySem.Str.length_append x y
/-- an int of less than 300 bits -/
def Sm (z : Int) : Prop := z.natAbs < 2 ^ 300
theorem Sm.mul {a b : Int} {i j : Nat} (ha : a.natAbs < 2 ^ i) (hb : b.natAbs < 2 ^ j) (h0 : 0 < i := by decide) (h1 : 0 < j := by decide) (h : i + j ≤ 1000000 := by decide) : CMulW a b := wide_mul ha hb h0 h1 h
theorem Sm.log {z : Int} (h : Sm z) : z.natAbs.log2 < 1920 := Nat.lt_of_lt_of_le (PySem.Flt.log2_lt_of (k := 300) (by decide) h) (by decide)
theorem shown_sum : ∀ (ns : List Int), (∀ z ∈ ns, z.natAbs.log2 < 1920) → ((PyData.shownAll (ns.map PyData.int)).map (·.length)).sum ≤ 1921 * ns.length ∧ (PyData.shownAll (ns.map PyData.int)).length = ns.length
  | [], _ => ⟨Nat.le_refl _, rfl⟩
  | n :: ns, h => by
    obtain ⟨h1, h2⟩ := shown_sum ns fun z hz => h z (List.mem_cons_of_mem _ hz)
    have e2 := num_len (h n List.mem_cons_self)
    refine ⟨?_, ?_⟩
    · show ((toString n : String) : Str).length + ((PyData.shownAll (ns.map PyData.int)).map (·.length)).sum ≤ 1921 * (ns.length + 1)
      omega
    · show (PyData.shownAll (ns.map PyData.int)).length + 1 = ns.length + 1
      omega
theorem showable_ints : ∀ (ns : List Int), (∀ z ∈ ns, z.natAbs.log2 < 1920) → PyData.showableAll (ns.map PyData.int) = true
  | [], _ => rfl
  | n :: ns, h => by
    show (decide (n.natAbs.log2 < 1920) && PyData.showableAll (ns.map PyData.int)) = true
    rw [showable_ints ns fun z hz => h z (List.mem_cons_of_mem _ hz), decide_eq_true (h n List.mem_cons_self)]
    rfl
/-- a list of ints shown -/
theorem ints_show {K : PySem.W.Frag} {H : Hp} {l : Addr} (ns : List Int) (hz : ∀ z ∈ ns, z.natAbs.log2 < 1920) (hl : ns.length ≤ 1000) (h : H l = some (.lst (ns.map V.int))) : Dr K H (.ref l) (.list (ns.map PyData.int)) ∧ (PyData.list (ns.map PyData.int)).showable = true ∧ (PyData.list (ns.map PyData.int)).depth ≤ 60 ∧ (PyData.list (ns.map PyData.int)).shown.length ≤ sizeLine := by
  refine ⟨.inl (.lst (SqL.of h) (dp_ints ns)), showable_ints ns hz, ?_, ?_⟩
  · show PyData.depthAll (ns.map PyData.int) + 1 ≤ 60
    rw [dep_ints]
    decide
  · have h1 := listText_len_le (PyData.shownAll (ns.map PyData.int))
    obtain ⟨h2, h3⟩ := shown_sum ns hz
    show (listText (PyData.shownAll (ns.map PyData.int))).length ≤ sizeLine
    rw [sizeLine_eq]
    omega
theorem yes_go {σ : L2.St} {H : Hp} {A B : Hp → Prop} (h : A H) : tYes σ H (fun b H3 => if b = true then A H3 else B H3) := by
  show (if true = true then A H else B H)
  rw [if_pos rfl]
  exact h
theorem take1 {α : Type} {ls : List α} {i : Nat} {y : α} (h : ls[i]? = some y) : ls.take (i + 1) = ls.take i ++ [y] := by rw [List.take_add_one, h]; rfl
theorem at_int {ls : List Int} {i : Nat} {v : V} (h : (ls.map V.int)[i]? = some v) : ∃ y, ls[i]? = some y ∧ v = .int y := by
  rw [List.getElem?_map] at h
  cases e : ls[i]? with
  | none => rw [e] at h; cases h
  | some y => rw [e] at h; cases h; exact ⟨y, rfl, rfl⟩
/-! ### tables of code objects, the pen, and all else -/
/-- all but the pen and the tables stays, the tables are tables -/
structure Kp (pn : Addr) (TS : List (Addr × Str)) (H H' : Hp) : Prop where
  keep : ∀ b o, H b = some o → b ≠ pn → (∀ ps, o ≠ .tbl ps) → H' b = some o
  tabs : LamX.Tabs TS H'
theorem Kp.trans {pn : Addr} {TS : List (Addr × Str)} {H H1 H2 : Hp} (a : Kp pn TS H H1) (b : Kp pn TS H1 H2) : Kp pn TS H H2 := ⟨fun c o h n m => b.keep c o (a.keep c o h n m) n m, b.tabs⟩
theorem tabs_but {pn : Addr} {TS : List (Addr × Str)} {H H' : Hp} {n : Nat} (t : LamX.Tabs TS H) (hp : PenAt H pn n) (k : But pn H H') : LamX.Tabs TS H' := fun p hp' => by
  obtain ⟨ps, h1, h2, h3⟩ := t p hp'
  obtain ⟨cl, ns, a, r, g1, _⟩ := hp
  refine ⟨ps, k _ _ h1 (ne_of h1 g1 (by intro z; cases z)), h2, fun pos cv hc => ?_⟩
  obtain ⟨c, e1, e2⟩ := h3 pos cv hc
  exact ⟨c, e1, k _ _ e2 (ne_of e2 g1 (by intro z; unfold LamX.CodeO at z; cases z))⟩
theorem Kp.but {pn : Addr} {TS : List (Addr × Str)} {H H' : Hp} {n : Nat} (t : LamX.Tabs TS H) (hp : PenAt H pn n) (k : But pn H H') : Kp pn TS H H' := ⟨fun b o h nb _ => k b o h nb, tabs_but t hp k⟩
theorem Kp.same {pn : Addr} {TS : List (Addr × Str)} {H H' : Hp} (t : LamX.Tabs TS H) (k : Same H H') : Kp pn TS H H' := ⟨fun b o h _ _ => k b o h, t.ext k⟩
theorem Kp.ext {pn : Addr} {TS : List (Addr × Str)} {H H' : Hp} (t : LamX.Tabs TS H') (k : LamX.ExtN H H') : Kp pn TS H H' := ⟨fun b o h _ m => k b o h m, t⟩
theorem pen_ext {pn : Addr} {H H' : Hp} {n : Nat} (hp : PenAt H pn n) (k : LamX.ExtN H H') : PenAt H' pn n := by
  obtain ⟨cl, ns, a, r, g1, g2, g3⟩ := hp
  exact ⟨cl, ns, a, r, k _ _ g1 (by intro ps z; cases z), k _ _ g2 (by intro ps z; cases z), g3⟩
/-- a def whose code object stands at c -/
structure FunC (K : PySem.W.Frag) (x qual : Str) (st : Stmt) (f : Addr) (fd : FuncData) (c : Addr) : Prop where
  ex : ∃ (oc : Value) (od : Option Addr) (kV doc pm : Value) (an : Option Addr) (ct : Value) (osl : Array (Option Value)),
    fd = PySem.W.fnOf x qual (defArgs st) (defBody st) (defScope st) .none kV doc pm an (.ref c) ct ∧ K.lookup f = some ⟨oc, od, .func fd, osl⟩ ∧ PySem.W.codeIn K (.ref c) qual = true
  kp : PySem.W.keepIn K (.ref f) = true
theorem okGc {P : Program} {w : World} {K : PySem.W.Frag} {mg : Str → Option Value} {base : Heap} {x qual : Str} {st : Stmt} {f c : Addr} {fd : FuncData} {N ps : List Str} {k : Nat} {sp : Sp} (F : FunC K x qual st f fd c) (S : FnScope N ps (defScope st)) (len : ∀ vs H Q E, sp vs H Q E → vs.length = ps.length)
    (hbody : ∀ (A : Around) (outer : List Env) (s : Shared) (H : Hp) (vs : List V) (Q : VK) (E : XK), A.guards = some [] → Room k (A.deeper (envOfC qual (defScope st) s.heap.objs.size f (.ref c))) → sp vs H Q E →
      ∃ t, PSs (cxOf CX0 P w K mg base N qual (defScope st) f (.ref c) A outer s H E).nox (defBody st) t ∧ t { nx := fun _ H' => Q .non H', rt := Q } (start N vs) H) : FnG P w K mg base CX0 (k + 1) f fd ps sp := by
  obtain ⟨oc, od, kV, doc, pm, an, ct, osl, rfl, lk, hcd⟩ := F.ex
  refine ⟨len, fun A outer s H args us vs Q E hg hr e0 hb r hsp => LamX.run_ofS lk hcd S hr e0 hb r (len _ _ _ _ hsp) fun hr' => ?_⟩
  obtain ⟨t, h, q⟩ := hbody A outer s H vs Q E hg hr' hsp
  exact ⟨t, h.nox, q⟩
theorem ty_ext {H H' : Hp} {v : V} {t : String} (h : Ty0 H v t) (k : LamX.ExtN H H') : Ty0 H' v t := by
  cases h with
  | non => exact .non
  | bl b => exact .bl b
  | int i => exact .int i
  | str x => exact .str x
  | lst e => exact .lst (k _ _ e (by intro ps z; cases z))
  | tup e => exact .tup (k _ _ e (by intro ps z; cases z))
  | dK e => exact .dK (k _ _ e (by intro ps z; cases z))
theorem ext_same {H H' : Hp} (s : Same H H') : LamX.ExtN H H' := fun b o h _ => s b o h
theorem ext_put {Ha Hx : Hp} {lh : Addr} {o : HO} (n : Ha lh = none) (x : LamX.ExtN Ha Hx) : LamX.ExtN Ha (upd Hx lh o) := fun b u e m => by
  rw [upd_ne (ne_of_none e n)]
  exact x b u e m
theorem tabs_put {TS : List (Addr × Str)} {H : Hp} {lh : Addr} {xs : List V} {o : HO} (t : LamX.Tabs TS H) (h : H lh = some (.lst xs)) : LamX.Tabs TS (upd H lh o) := fun p hp => by
  obtain ⟨ps, h1, h2, h3⟩ := t p hp
  refine ⟨ps, by rw [upd_ne (ne_of h1 h (by intro z; cases z))]; exact h1, h2, fun pos cv hc => ?_⟩
  obtain ⟨c, e1, e2⟩ := h3 pos cv hc
  exact ⟨c, e1, by rw [upd_ne (ne_of e2 h (by intro z; unfold LamX.CodeO at z; cases z))]; exact e2⟩
theorem TyL.ext {C : Addr} {H H' : Hp} {v : V} (h : TyL C H v) (k : LamX.ExtN H H') : TyL C H' v := by
  rcases h with ⟨t, h⟩ | ⟨a, dx, fs, e, h⟩
  · exact .inl ⟨t, ty_ext h k⟩
  · exact .inr ⟨a, dx, fs, e, k _ _ h (by intro ps z; cases z)⟩
end My
namespace My
open PySem PySem.Spec PyProof.Rows L2
def topS (i : Nat) : Stmt := PySem.Challenge.pw_clipfades_k06_polys_reckoned.main.body.getD i (.Pass ⟨0, 0, 0, 0⟩)
abbrev s_pen : Stmt := topS 28
abbrev s_draw : Stmt := topS 29
abbrev s_pick : Stmt := topS 30
theorem sc_pen : FnScope ["_law_script"] ["_law_script"] (defScope s_pen) := ⟨rfl, rfl, rfl, by decide +kernel, rfl, by decide +kernel, by decide +kernel⟩
theorem sc_draw : FnScope ["_law_pen_here", "_law_many", "_law_digit", "_law_begun", "_law_cell", "_law_great", "_law_mixed"] ["_law_pen_here", "_law_many"] (defScope s_draw) := ⟨rfl, rfl, rfl, by decide +kernel, rfl, by decide +kernel, by decide +kernel⟩
theorem sc_pick : FnScope ["_law_pen_here", "_law_some"] ["_law_pen_here", "_law_some"] (defScope s_pick) := ⟨rfl, rfl, rfl, by decide +kernel, rfl, by decide +kernel, by decide +kernel⟩
/-- the pen, its cells at cl -/
def PenC (H : Hp) (pn cl : Addr) (n : Nat) : Prop := ∃ (ns : List Int) (at_ rest : Int), H pn = some (.lst [.ref cl, .int at_, .int rest]) ∧ H cl = some (.lst (ns.map V.int)) ∧ ns.length ≤ 63 ∧ 0 ≤ at_ ∧ at_ ≤ n
theorem PenC.pen {H : Hp} {pn cl : Addr} {n : Nat} (h : PenC H pn cl n) : PenAt H pn n := by
  obtain ⟨ns, a, r, h⟩ := h
  exact ⟨cl, ns, a, r, h⟩
theorem PenAt.cells {H : Hp} {pn : Addr} {n : Nat} (h : PenAt H pn n) : ∃ cl, PenC H pn cl n := by
  obtain ⟨cl, ns, a, r, h⟩ := h
  exact ⟨cl, ns, a, r, h⟩
theorem PenC.put {H : Hp} {pn cl p : Addr} {n : Nat} {o : HO} (h : PenC H pn cl n) (h1 : pn ≠ p) (h2 : cl ≠ p) : PenC (upd H p o) pn cl n := by
  obtain ⟨ns, a, r, e1, e2, h3⟩ := h
  exact ⟨ns, a, r, by rw [upd_ne h1]; exact e1, by rw [upd_ne h2]; exact e2, h3⟩
theorem PenC.same {H H' : Hp} {pn cl : Addr} {n : Nat} (h : PenC H pn cl n) (s : Same H H') : PenC H' pn cl n := by
  obtain ⟨ns, a, r, e1, e2, h3⟩ := h
  exact ⟨ns, a, r, s _ _ e1, s _ _ e2, h3⟩
def spDrawC : Sp := fun vs H Q _ => ∃ (pn cl : Addr) (m : Int) (n : Nat), vs = [.ref pn, .int m] ∧ 0 < m ∧ m.natAbs.log2 < 9000 ∧ PenC H pn cl n ∧ n < 100000 ∧
  ∀ (d : Int) (H' : Hp), 0 ≤ d → d < m → PenC H' pn cl (n + 1) → But pn H H' → Q (.int d) H'
section
variable {P : Program} {w : World} {K : PySem.W.Frag} {mg : Str → Option Value} {base : Heap}
theorem ok_pen {f : Addr} {fd : FuncData} (F : Fun K "_law_pen" "_law_pen" s_pen f fd) (T : BI mg) : FnOk P w K mg base CX0 1 f fd ["_law_script"] (spPen K) := by
  refine F.ok sc_pen (fun vs H Q E h => ?_) (fun cdv A outer s H vs Q E hr h => ?_)
  · obtain ⟨a, ns, rfl, _⟩ := h
    rfl
  · obtain ⟨a, ns, rfl, hS, k⟩ := h
    refine ⟨_, (pss_one (ps_ret (pe_lst (pa_cons (pe_callTy call_list_of (by rfl) T.z_list boot_list (pa_cons (pe_slice sl_list (pv 0) po_none (po_some pe_int)) pa_nil)) (pa_cons pe_int (pa_cons pe_int pa_nil)))))), ?_⟩
    refine ⟨_, rfl, 63, rfl, a, _, rfl, hS, fun p hp => ?_⟩
    refine ⟨p, _, rfl, .inl (SqL.of upd_same), fun l hl => ?_⟩
    refine ⟨(by show 3 ≤ sizeLine; decide), fun pn hpn => ?_⟩
    have npl : p ≠ l := ne_of_none upd_same hl
    have hlp : l ≠ pn := ne_of_none upd_same hpn
    have e1 : cutV (ns.map V.int) none (some 63) = (ns.take 63).map V.int := cut_ints ns 63
    have s0 : Same H (upd (upd (upd H p (.lst (cutV (ns.map V.int) none (some 63)))) l (.lst (cutV (ns.map V.int) none (some 63)))) pn (.lst [.ref l, .int 0, .int 0])) := fun b o z => by
      have z1 : (upd H p (.lst (cutV (ns.map V.int) none (some 63)))) b = some o := by rw [upd_ne (ne_of_none z hp)]; exact z
      have z2 : (upd (upd H p (.lst (cutV (ns.map V.int) none (some 63)))) l (.lst (cutV (ns.map V.int) none (some 63)))) b = some o := by rw [upd_ne (ne_of_none z1 hl)]; exact z1
      rw [upd_ne (ne_of_none z2 hpn)]
      exact z2
    have n1 : H pn = none := by
      cases z : H pn with
      | none => rfl
      | some o =>
        rw [upd_ne (Ne.symm hlp)] at hpn
        by_cases y : pn = p
        · rw [y, hp] at z
          cases z
        · rw [upd_ne y, z] at hpn
          cases hpn
    refine k pn _ n1 ⟨l, ns.take 63, 0, 0, upd_same, ?_, ?_, Int.le_refl _, Int.le_refl _⟩ s0
    · rw [upd_ne hlp, upd_same, e1]
    · rw [List.length_take]
      omega
theorem ok_drawC {f : Addr} {fd : FuncData} (F : Fun K "_law_draw" "_law_draw" s_draw f fd) (T : BI mg) : FnOk P w K mg base CX0 1 f fd ["_law_pen_here", "_law_many"] spDrawC := by
  refine F.ok sc_draw (fun vs H Q E h => ?_) (fun cdv A outer s H vs Q E hr h => ?_)
  · obtain ⟨pn, cl, m, n, rfl, _⟩ := h
    rfl
  · obtain ⟨pn, cl, m, n, rfl, hm, hml, ⟨ns, at_, rest, h1, h2, h3, h4, h5⟩, hn, k⟩ := h
    refine ⟨_, (pss_cons (ps_if (pt_cmpR op_gt (pe_ix ix_list (pv 0) pe_int (fun _ _ => rfl)) pe_int (nomark _)) (pss_cons (ps_set (i := 2) sc_draw.nd rfl (Or.inl rfl) (pe_op op_mod (pe_callTy call_int1 (by rfl) T.z_int boot_int (pa_cons (pe_ix ix_list (pv 0) pe_int (fun _ _ => rfl)) pa_nil)) (pv 1)))
      (pss_cons (ps_asg (pe_op op_fdivW (pe_ix ix_list (pv 0) pe_int (fun _ _ => rfl)) (pv 1)) (pg_sub (pv 0) pe_int set_list))
      (pss_one (ps_ret (pv 2))))) pss_nil)
      (pss_cons (ps_set (i := 3) sc_draw.nd rfl (Or.inl rfl) (pe_ix ix_list (pv 0) pe_int (fun _ _ => rfl)))
      (pss_cons (ps_asg (pe_op op_add (pv 3) pe_int) (pg_sub (pv 0) pe_int set_list))
      (pss_cons (ps_set (i := 4) sc_draw.nd rfl (Or.inl rfl) (pe_op op_add (pe_op op_mul pe_int (pv 3)) pe_int))
      (C8.pss_cut (ps_if (pt_cmpR (op_neD hr.units) (pe_ix ix_list (pv 0) pe_int (fun _ _ => rfl)) (pe_lst pa_nil) (nomark _)) (pss_one (ps_set (i := 4) sc_draw.nd rfl (Or.inl rfl) (pe_ix ix_list (pe_ix ix_list (pv 0) pe_int (fun _ _ => rfl)) (pe_op op_mod (pe_callTy call_int1 (by rfl) T.z_int boot_int (pa_cons (pv 3) pa_nil)) (pe_callB call_len (by rfl) T.z_len PySem.boot_len (pa_cons (pe_ix ix_list (pv 0) pe_int (fun _ _ => rfl)) pa_nil))) (fun _ _ => rfl)))) pss_nil)
      (C8.pss_cut (ps_if (PW.pt (pw_and (pt_cmpR op_lt (pv 3) (pe_callB call_len (by rfl) T.z_len PySem.boot_len (pa_cons (pe_ix ix_list (pv 0) pe_int (fun _ _ => rfl)) pa_nil)) (nomark _)) (pw_and1 (pt_cmpR op_ge (pe_callB call_abs (by rfl) T.z_abs boot_abs (pa_cons (pv 4) pa_nil)) (pe_op op_pow pe_int pe_int) (nomark _))))) (pss_cons (ps_set (i := 5) sc_draw.nd rfl (Or.inl rfl) (pe_op op_add (pe_op op_mul pe_int (pe_op op_sub (pe_callB call_abs (by rfl) T.z_abs boot_abs (pa_cons (pv 4) pa_nil)) (pe_op op_pow pe_int pe_int))) (pe_callTy call_int1 (by rfl) T.z_int boot_int (pa_cons (pe_cmpR op_lt (pv 4) pe_int (nomark _)) pa_nil))))
      (pss_cons (ps_asg (pe_op op_fdivW (pv 5) (pv 1)) (pg_sub (pv 0) pe_int set_list))
      (pss_one (ps_ret (pe_op op_mod (pe_callTy call_int1 (by rfl) T.z_int boot_int (pa_cons (pv 5) pa_nil)) (pv 1)))))) pss_nil)
      (pss_cons (ps_set (i := 6) sc_draw.nd rfl (Or.inl rfl) (pe_op op_mod (pe_callTy call_int1 (by rfl) T.z_int boot_int (pa_cons (pe_op op_pow (pe_op op_add (pe_op op_add (pe_op op_mod (pe_callTy call_int1 (by rfl) T.z_int boot_int (pa_cons (pv 4) pa_nil)) pe_int) (pe_op op_mul pe_int (pv 3))) pe_int) pe_int) pa_nil)) pe_int))
      (pss_cons (ps_set (i := 6) sc_draw.nd rfl (Or.inl rfl) (pe_op op_mod (pe_callTy call_int1 (by rfl) T.z_int boot_int (pa_cons (pe_op op_pow (pe_op op_add (pe_op op_add (pe_op op_mul (pv 6) (pe_op op_add (pe_op op_mul pe_int (pv 3)) pe_int)) (pe_op op_mul (pe_op op_mul pe_int (pv 3)) (pv 3))) pe_int) pe_int) pa_nil)) pe_int))
      (pss_one (ps_ret (pe_op op_mod (pe_callTy call_int1 (by rfl) T.z_int boot_int (pa_cons (pe_op op_fdivW (pv 6) pe_int) pa_nil)) (pv 1)))))))))))), ?_⟩
    have i2 : atI [V.ref cl, V.int at_, V.int rest] 2 = some (V.int rest) := rfl
    have i1 : atI [V.ref cl, V.int at_, V.int rest] 1 = some (V.int at_) := rfl
    have i0 : atI [V.ref cl, V.int at_, V.int rest] 0 = some (V.ref cl) := rfl
    refine ⟨_, rfl, pn, _, _, _, rfl, rfl, SqL.of h1, i2, _, _, rfl, rfl, _, rfl, ?_⟩
    have npc : cl ≠ pn := ne_of h2 h1 (by
      intro z
      injection z with z
      cases ns with
      | nil => cases z
      | cons a l => cases z)
    refine ite2 (fun c => ?_) (fun c => ?_)
    · refine ⟨_, rfl, pn, _, _, _, rfl, rfl, SqL.of h1, i2, .inl ⟨rest, rfl, _, rfl, _, _, rfl, rfl, hm, ?_⟩⟩
      first
        | refine ⟨_, rfl, pn, _, _, _, rfl, rfl, SqL.of h1, i2, .inl ⟨rest, rfl, _, rfl, _, _, rfl, rfl, ⟨hm, hml⟩, _, rfl, pn, _, _, 2, rfl, rfl, h1, rfl, ?_⟩⟩
        | refine ⟨_, rfl, pn, _, _, _, rfl, rfl, SqL.of h1, i2, _, rfl, _, _, rfl, rfl, ⟨hm, hml⟩, _, rfl, pn, _, _, 2, rfl, rfl, h1, rfl, ?_⟩
      refine ⟨_, rfl, k _ _ (Int.emod_nonneg _ (by omega)) (Int.emod_lt_of_pos _ hm) ?_ But.put⟩
      exact ⟨ns, at_, rest / m, upd_same, by rw [upd_ne npc]; exact h2, h3, h4, by omega⟩
    · refine ⟨_, rfl, pn, _, _, _, rfl, rfl, SqL.of h1, i1, ?_⟩
      refine ⟨_, rfl, _, _, rfl, rfl, _, rfl, pn, _, _, 1, rfl, rfl, h1, rfl, ?_⟩
      refine ⟨_, rfl, _, _, rfl, rfl, .inl ⟨by decide, by decide⟩, _, _, rfl, rfl, ?_⟩
      have i0' : atI [V.ref cl, V.int (at_ + 1), V.int rest] 0 = some (V.ref cl) := rfl
      refine ⟨fun σ H2 => ∃ (cell : Int) (v5 v6 : Option V), σ = [some (.ref pn), some (.int m), none, some (.int at_), some (.int cell), v5, v6] ∧ H2 pn = some (.lst [.ref cl, .int (at_ + 1), .int rest]) ∧ H2 cl = some (.lst (ns.map V.int)) ∧ But pn H H2, ?_, ?_⟩
      · refine ⟨_, rfl, pn, _, _, _, rfl, rfl, SqL.of upd_same, i0', (by show 0 ≤ sizeLine; decide), fun l hl => ?_⟩
        have nlp : pn ≠ l := ne_of_none (upd_same (H := H) (a := pn)) hl
        have nlc : cl ≠ l := ne_of_none (by rw [upd_ne npc]; exact h2) hl
        have w1 : (upd (upd H pn (.lst [.ref cl, .int (at_ + 1), .int rest])) l (.lst [])) pn = some (.lst [.ref cl, .int (at_ + 1), .int rest]) := by rw [upd_ne nlp, upd_same]
        have w2 : (upd (upd H pn (.lst [.ref cl, .int (at_ + 1), .int rest])) l (.lst [])) cl = some (.lst (ns.map V.int)) := by rw [upd_ne nlc, upd_ne npc]; exact h2
        have wb : But pn H (upd (upd H pn (.lst [.ref cl, .int (at_ + 1), .int rest])) l (.lst [])) := But.put.trans (But.new hl)
        refine ⟨.list (ns.map PyData.int), .list [], .lst (SqL.of w2) (dp_ints ns), .lst (SqL.of upd_same) .nil, shaped_ints ns, rfl, _, rfl, ?_⟩
        cases ns with
        | nil =>
          refine iteF ?_
          exact ⟨_, _, _, rfl, w1, w2, wb⟩
        | cons z zs =>
          refine iteT ?_
          have hl0 : (0 : Int) < (((z :: zs).map V.int).length : Int) := by
            rw [List.length_map, List.length_cons]
            omega
          obtain ⟨v, hv⟩ : ∃ v, ((z :: zs))[(at_ % (((z :: zs).map V.int).length : Int)).toNat]? = some v := by
            have g := Int.emod_lt_of_pos at_ hl0
            have g0 := Int.emod_nonneg at_ (show (((z :: zs).map V.int).length : Int) ≠ 0 by omega)
            refine ⟨_, List.getElem?_eq_getElem ?_⟩
            rw [List.length_map] at g g0 ⊢
            omega
          refine ⟨_, rfl, pn, _, _, _, rfl, rfl, SqL.of w1, i0', _, rfl, .inl ⟨at_, rfl, _, rfl, pn, _, _, _, rfl, rfl, SqL.of w1, i0', _, _, rfl, .inl ⟨_, SqL.of w2, rfl⟩, _, _, rfl, rfl, hl0, cl, _, _, .int v, rfl, rfl, SqL.of w2, ?_, ?_⟩⟩
          · have g0 := Int.emod_nonneg at_ (show (((z :: zs).map V.int).length : Int) ≠ 0 by omega)
            refine at_of (j := (at_ % (((z :: zs).map V.int).length : Int)).toNat) (by omega) ?_
            rw [List.getElem?_map, hv]
            rfl
          · exact ⟨_, _, _, rfl, w1, w2, wb⟩
      · rintro σ H2 ⟨cell, v5, v6, rfl, g1, g2, hb⟩
        have pen2 : ∀ r : Int, PenC (upd H2 pn (.lst [.ref cl, .int (at_ + 1), .int r])) pn cl (n + 1) := fun r =>
          ⟨ns, at_ + 1, r, upd_same, by rw [upd_ne npc]; exact g2, h3, by omega, by omega⟩
        refine ⟨fun σ H3 => ∃ (v5 v6 : Option V), σ = [some (.ref pn), some (.int m), none, some (.int at_), some (.int cell), v5, v6] ∧ H3 = H2, ?_, ?_⟩
        · refine ⟨_, rfl, _, rfl, pn, _, _, _, rfl, rfl, SqL.of g1, i0', _, _, rfl, .inl ⟨_, SqL.of g2, rfl⟩, _, _, rfl, rfl, _, rfl, ?_⟩
          refine ite2 (fun c1 => ?_) (fun c1 => iteF ⟨_, _, rfl, rfl⟩)
          refine ⟨_, rfl, _, rfl, _, _, rfl, rfl, ⟨by decide, by decide, by decide⟩, _, _, rfl, rfl, _, rfl, ?_⟩
          refine ite2 (fun c2 => ?_) (fun c2 => ⟨_, _, rfl, rfl⟩)
          refine ⟨_, rfl, _, rfl, _, _, rfl, rfl, ⟨by decide, by decide, by decide⟩, _, _, rfl, rfl, _, _, rfl, rfl, .inl ⟨by decide, by decide⟩, _, rfl, _, _, rfl, rfl, .inr ⟨_, rfl, _, _, rfl, rfl, ?_⟩⟩
          first
            | refine ⟨_, rfl, .inl ⟨_, rfl, _, rfl, _, _, rfl, rfl, ⟨hm, hml⟩, _, rfl, pn, _, _, 2, rfl, rfl, g1, rfl, ?_⟩⟩
            | refine ⟨_, rfl, _, rfl, _, _, rfl, rfl, ⟨hm, hml⟩, _, rfl, pn, _, _, 2, rfl, rfl, g1, rfl, ?_⟩
          refine ⟨_, rfl, .inl ⟨_, rfl, _, rfl, _, _, rfl, rfl, hm, ?_⟩⟩
          exact k _ _ (Int.emod_nonneg _ (by omega)) (Int.emod_lt_of_pos _ hm) (pen2 _) (hb.trans But.put)
        · rintro σ H3 ⟨v5, v6, rfl, rfl⟩
          have ea : at_ < 100000 := by omega
          refine ⟨_, rfl, .inl ⟨_, rfl, _, _, rfl, rfl, (by show (0 : Int) < _; decide), _, rfl, _, _, rfl, rfl, .inl ⟨by decide, by decide⟩, _, _, rfl, rfl, _, _, rfl, rfl, _, _, rfl, rfl, ⟨by decide, by decide, ?_⟩, .inl ⟨_, rfl, _, _, rfl, rfl, (by show (0 : Int) < _; decide), ?_⟩⟩⟩
          · have e1 := Int.emod_nonneg cell (show (2147483563 : Int) ≠ 0 by decide)
            have e2 := Int.emod_lt_of_pos cell (show (0 : Int) < 2147483563 by decide)
            refine pow_lt (by omega) (by omega)
          have x0 := Int.emod_nonneg ((cell % 2147483563 + 39295 * at_ + 295) ^ Int.toNat 3) (show (2147483629 : Int) ≠ 0 by decide)
          have x1 := Int.emod_lt_of_pos ((cell % 2147483563 + 39295 * at_ + 295) ^ Int.toNat 3) (show (0 : Int) < 2147483629 by decide)
          refine ⟨_, rfl, _, rfl, _, _, rfl, rfl, .inl ⟨by decide, by decide⟩, _, _, rfl, rfl, _, _, rfl, rfl, .inl ⟨Int.lt_of_lt_of_le (by decide) x0, Int.lt_trans x1 (by decide)⟩, _, rfl, _, _, rfl, rfl, .inl ⟨by decide, by decide⟩, _, rfl, _, _, rfl, rfl, .inr ⟨by omega, by omega⟩, _, _, rfl, rfl, _, _, rfl, rfl, _, _, rfl, rfl, ⟨by decide, by decide, ?_⟩, .inl ⟨_, rfl, _, _, rfl, rfl, (by show (0 : Int) < _; decide), ?_⟩⟩
          · exact mix_lt x0 (Int.lt_trans x1 (by decide)) h4 ea (by decide) (by decide) (by decide) (by decide) (by decide) (by decide)
          refine ⟨_, rfl, _, _, rfl, rfl, ⟨by decide, by decide⟩, .inl ⟨_, rfl, _, rfl, _, _, rfl, rfl, hm, ?_⟩⟩
          exact k _ _ (Int.emod_nonneg _ (by omega)) (Int.emod_lt_of_pos _ hm) ⟨ns, at_ + 1, rest, g1, g2, h3, by omega, by omega⟩ hb
theorem ok_draw {f : Addr} {fd : FuncData} (F : Fun K "_law_draw" "_law_draw" s_draw f fd) (T : BI mg) : FnOk P w K mg base CX0 1 f fd ["_law_pen_here", "_law_many"] spDraw := by
  have G := ok_drawC (P := P) (w := w) (base := base) F T
  have to : ∀ vs H Q E, spDraw vs H Q E → spDrawC vs H Q E := fun vs H Q E h => by
    obtain ⟨pn, m, n, e, hm, hml, hp, hn, k⟩ := h
    obtain ⟨cl, hc⟩ := hp.cells
    exact ⟨pn, cl, m, n, e, hm, hml, hc, hn, fun d H' a b c u => k d H' a b c.pen u⟩
  exact ⟨fun vs H Q E h => G.len vs H Q E (to _ _ _ _ h), fun A outer s H args us vs Q E hr e0 hb r h => G.run A outer s H args us vs Q E hr e0 hb r (to _ _ _ _ h)⟩
theorem ok_pick {f : Addr} {fd : FuncData} (F : Fun K "_law_pick" "_law_pick" s_pick f fd) (T : BI mg) (D_draw : DefAt P w K mg base CX0 1 "_law_draw" ["_law_pen_here", "_law_many"] spDraw) : FnOk P w K mg base CX0 2 f fd ["_law_pen_here", "_law_some"] spPick := by
  refine F.ok sc_pick (fun vs H Q E h => ?_) (fun cdv A outer s H vs Q E hr h => ?_)
  · obtain ⟨pn, l, n, xs, rfl, _⟩ := h
    rfl
  · obtain ⟨pn, l, n, xs, rfl, hl, nl, h0, h1, hp, hn, k⟩ := h
    refine ⟨_, (pss_one (ps_ret (pe_ix ix_list (pv 1) (My.pe_d D_draw (hr.mono (by decide)) (by rfl) pass0 (pa_cons (pv 0) (pa_cons (pe_callB call_len (by rfl) T.z_len PySem.boot_len (pa_cons (pv 1) pa_nil)) pa_nil))) (fun _ _ => rfl)))), ?_⟩
    refine ⟨_, rfl, _, rfl, _, rfl, _, _, rfl, .inl ⟨_, SqL.of hl, rfl⟩, pn, _, n, rfl, by omega, ?_, hp, hn, fun d H' d0 d1 hp' hb => ?_⟩
    · refine Nat.lt_of_lt_of_le (PySem.Flt.log2_lt_of (k := 10) (by decide) ?_) (by decide)
      show xs.length < 1024
      omega
    · obtain ⟨v, hv⟩ : ∃ v, xs[d.toNat]? = some v := ⟨_, List.getElem?_eq_getElem (by omega)⟩
      refine ⟨l, _, _, v, rfl, rfl, SqL.of (hb l _ hl nl), at_of (j := d.toNat) (by omega) hv, ?_⟩
      exact k v H' (List.mem_of_getElem? hv) hp' hb
end
end My
/-! raise C() of an own error class without own __init__. -/
namespace My
open PySem PySem.Spec PySem.Calls PyProof.Rows L2
section
variable {X : Cx} {C : Addr} {bmB : List Value} {B newId initId : String} {x : Str} {p pos : Pos}
theorem pmk_nil (F : ExcBaseFacts B newId initId bmB) (q : PySem.W.excIn X.K C bmB newId = true) (gC : X.mg x = some (.ref C)) (kC : PySem.W.keepIn X.K (.ref C) = true) (r : Raises X (.ref C)) (hg : Gl X x) (hdb : (x == ("__debug__" : Str)) = false := by decide) :
    PMk X (.Call (.Name x p) [] [] pos) (fun σ H Q => Q (.ref C) none H) := by
  intro pins s σ H Q I h
  refine wpAny_Call_Name_kw (ld_glob I hg gC ?_ hdb)
  refine PySem.W.callWith_K0 (first := []) I.kIn kC ?_
  show wpAny _ _ (call (.ref C) []) _ _ _
  obtain ⟨bm, N, nm, qn, bs, hdct, sn, sub, ab, col, dd, k0, k1, k2, k3, k5, mN, hC, hN, hni, T⟩ := exc_obj I.kIn q
  refine wpAny_call_exc_subT F T hC hN hni (fun h' e hm => ?_) (Nat.zero_le _)
  exact mk_of I hm r h (I.hok.gone hm.new)
end
end My
namespace My
open PySem PySem.Spec PyProof.Rows L2
/-! ### polynomials -/
abbrev s_whole0 : Stmt := topS 9
theorem sc_whole0 : FnScope ["value"] ["value"] (defScope s_whole0) := ⟨rfl, rfl, rfl, by decide +kernel, rfl, by decide +kernel, by decide +kernel⟩
abbrev s_needint : Stmt := topS 14
theorem sc_needint : FnScope ["value"] ["value"] (defScope s_needint) := ⟨rfl, rfl, rfl, by decide +kernel, rfl, by decide +kernel, by decide +kernel⟩
abbrev s_wend : Stmt := topS 15
theorem sc_wend : FnScope ["terms", "many"] ["terms"] (defScope s_wend) := ⟨rfl, rfl, rfl, by decide +kernel, rfl, by decide +kernel, by decide +kernel⟩
abbrev s_termof : Stmt := topS 17
theorem sc_termof : FnScope ["terms", "k"] ["terms", "k"] (defScope s_termof) := ⟨rfl, rfl, rfl, by decide +kernel, rfl, by decide +kernel, by decide +kernel⟩
abbrev s_pinit : Stmt := inClass (topS 26) 0
theorem sc_pinit : FnScope ["self", "terms", "at", "term"] ["self", "terms"] (defScope s_pinit) := ⟨rfl, rfl, rfl, by decide +kernel, rfl, by decide +kernel, by decide +kernel⟩
abbrev s_pof : Stmt := inClass (topS 26) 1
theorem sc_pof : FnScope ["cls", "terms"] ["cls", "terms"] (defScope s_pof) := ⟨rfl, rfl, rfl, by decide +kernel, rfl, by decide +kernel, by decide +kernel⟩
abbrev s_pcall : Stmt := inClass (topS 26) 11
theorem sc_pcall : FnScope ["self", "m", "found", "term"] ["self", "m"] (defScope s_pcall) := ⟨rfl, rfl, rfl, by decide +kernel, rfl, by decide +kernel, by decide +kernel⟩
abbrev s_pget : Stmt := inClass (topS 26) 12
theorem sc_pget : FnScope ["self", "k"] ["self", "k"] (defScope s_pget) := ⟨rfl, rfl, rfl, by decide +kernel, rfl, by decide +kernel, by decide +kernel⟩
abbrev s_peq : Stmt := inClass (topS 26) 21
theorem sc_peq : FnScope ["self", "other"] ["self", "other"] (defScope s_peq) := ⟨rfl, rfl, rfl, by decide +kernel, rfl, by decide +kernel, by decide +kernel⟩
abbrev s_pbool : Stmt := inClass (topS 26) 22
theorem sc_pbool : FnScope ["self"] ["self"] (defScope s_pbool) := ⟨rfl, rfl, rfl, by decide +kernel, rfl, by decide +kernel, by decide +kernel⟩
/-- the length without the zeros at the end, of the first k -/
def tl (ts : List Int) : Nat → Nat
  | 0 => 0
  | k + 1 => if ts[k]? = some 0 then tl ts k else k + 1
def trim (ts : List Int) : List Int := ts.take (tl ts ts.length)
theorem tl_le (ts : List Int) : ∀ k, tl ts k ≤ k
  | 0 => Nat.le_refl _
  | k + 1 => by
    unfold tl
    split
    · exact Nat.le_succ_of_le (tl_le ts k)
    · exact Nat.le_refl _
theorem trim_len (ts : List Int) : (trim ts).length = tl ts ts.length := by
  unfold trim
  rw [List.length_take]
  exact Nat.min_eq_left (tl_le ts _)
theorem trim_le (ts : List Int) : (trim ts).length ≤ ts.length := by
  rw [trim_len]
  exact tl_le ts _
theorem trim_all {ts : List Int} {m : Nat} (h : HT.sIx (ts.map V.int).length (ts.map V.int).length (some (m : Int)) = (ts.map V.int).length) (e : tl ts m = tl ts ts.length) (em : tl ts m = m) : ts = trim ts := by
  rw [HT.sIx_nat, List.length_map] at h
  unfold trim
  rw [← e, em, List.take_of_length_le (by omega)]
/-- for at, x in enumerate(t) -/
theorem for_enumT {K : PySem.W.Frag} {a : Addr} {xs : List V} {g : TG} {tb : TS} {D : Ends} {σ : L2.St} {H : Hp} (Pv : Nat → L2.St → Hp → Prop) (h0 : Pv 0 σ H) (hl : ∀ i σ H, i ≤ xs.length → Pv i σ H → SqT K H a xs)
    (hs : ∀ i x σ H T, xs[i]? = some x → Pv i σ H → H T = none → g (.ref T) σ (upd H T (.tup [.int (i : Nat), x])) fun σ2 H2 => tb { D with nx := Pv (i + 1), ct := Pv (i + 1), bk := D.nx } σ2 H2) (hd : ∀ σ H, Pv xs.length σ H → D.nx σ H) :
    ∃ W : Nat → Nat → L2.St → Hp → Prop, (∃ m, W 0 m σ H) ∧ ∀ i m σ H, W i m σ H →
      ((IteT K a).stop i H ∧ D.nx σ H) ∨ ((IteT K a).go i H ∧ ∃ N : L2.St → Hp → Prop, (∀ σ' H', N σ' H' → ∃ m', m' < m ∧ W (i + 1) m' σ' H') ∧ ∀ x H', (IteT K a).yld i H x H' → g x σ H' fun σ2 H2 => tb { D with nx := N, ct := N, bk := D.nx } σ2 H2) := by
  refine ⟨fun i m σ H => m = xs.length - i ∧ i ≤ xs.length ∧ Pv i σ H, ⟨xs.length, by simp, Nat.zero_le _, h0⟩, ?_⟩
  rintro i m σ H ⟨rfl, hi, p⟩
  have q := hl i σ H hi p
  by_cases hlt : i < xs.length
  · refine .inr ⟨⟨xs, xs[i], q, by simp [hlt]⟩, Pv (i + 1), fun σ' H' p' => ⟨xs.length - (i + 1), by omega, rfl, hlt, p'⟩, fun x H' y => ?_⟩
    obtain ⟨T, x0, rfl, hT, rfl, y⟩ := y
    exact hs i x0 σ H T (y xs q) p hT
  · have e : i = xs.length := by omega
    subst e
    exact .inl ⟨⟨xs, q, rfl⟩, hd σ H p⟩
def pfs (t : Addr) (n : Int) : List (Str × V) := putF "degree" (.int n) (putF "terms" (.ref t) [])
theorem psm : ¬ (("terms" : Str) = "degree") := by decide +kernel
theorem pfs_terms (t : Addr) (n : Int) : (pfs t n).lookup ("terms" : Str) = some (.ref t) := by
  unfold pfs
  rw [lookup_putF, if_neg psm, lookup_putF, if_pos rfl]
theorem pfs_deg (t : Addr) (n : Int) : (pfs t n).lookup ("degree" : Str) = some (.int n) := by
  unfold pfs
  rw [lookup_putF, if_pos rfl]
/-- at p: a polynomial with these terms, none of 0 at the end -/
def PolyAt (C : Addr) (H : Hp) (p : Addr) (ts : List Int) : Prop := ∃ dx t, H p = some (.ins C dx (pfs t ((ts.length : Int) - 1))) ∧ H t = some (.tup (ts.map V.int))
theorem PolyAt.same {C : Addr} {H H' : Hp} {p : Addr} {ts : List Int} (h : PolyAt C H p ts) (k : Same H H') : PolyAt C H' p ts := by
  obtain ⟨dx, t, e, e2⟩ := h
  exact ⟨dx, t, k _ _ e, k _ _ e2⟩
theorem PolyAt.ext {C : Addr} {H H' : Hp} {p : Addr} {ts : List Int} (h : PolyAt C H p ts) (k : LamX.ExtN H H') : PolyAt C H' p ts := by
  obtain ⟨dx, t, e, e2⟩ := h
  exact ⟨dx, t, k _ _ e (by intro ps z; cases z), k _ _ e2 (by intro ps z; cases z)⟩
theorem PolyAt.but {C : Addr} {H H' : Hp} {p pn : Addr} {n : Nat} {ts : List Int} (h : PolyAt C H p ts) (hp : PenAt H pn n) (k : But pn H H') : PolyAt C H' p ts := by
  obtain ⟨dx, t, e, e2⟩ := h
  obtain ⟨cl, ns, a', r, g1, _⟩ := hp
  exact ⟨dx, t, k _ _ e (ne_of e g1 (by intro z; cases z)), k _ _ e2 (ne_of e2 g1 (by intro z; cases z))⟩
theorem PolyAt.tyl {C : Addr} {H : Hp} {p : Addr} {ts : List Int} (h : PolyAt C H p ts) : TyL C H (.ref p) := by
  obtain ⟨dx, t, e, _⟩ := h
  exact .inr ⟨p, dx, _, rfl, e⟩
def Errs (E : XK) (C : Addr) (f : Str) (v : V) (H : Hp) : Prop := ∀ (d : Addr) (H' : Hp), H d = none → H' d = some (.xd [(f, v)]) → Same H H' → E (.ref C) (some d) H'
theorem Errs.go {E : XK} {C : Addr} {f : Str} {v : V} {H : Hp} (h : Errs E C f v H) {d : Addr} (hd : H d = none) : E (.ref C) (some d) (upd H d (.xd [(f, v)])) := h d _ hd upd_same (same_new hd)
theorem Errs.up {E : XK} {C : Addr} {f : Str} {v : V} {H H1 : Hp} (h : Errs E C f v H) (s : Same H H1) : Errs E C f v H1 := fun d H' hd hx s' => h d H' (s.free hd) hx (s.trans s')
/-- what the top has written of Poly and its errors -/
structure PTx (P : Program) (K : PySem.W.Frag) (mg : Str → Option Value) (C CB fB CP fP CI fI : Addr) : Prop extends BI mg where
  cl : Cls K C
  nT : NoAttr K C "terms"
  nD : NoAttr K C "degree"
  gP : mg "Poly" = some (.ref C)
  ha : PySem.W.findIn K (.ref C) "__class__" = some (some (.builtin "object.__class__"))
  hn : PySem.W.specialIn K (.builtin "object.__class__") "__get__" = some (some (.builtin "getset_descriptor.__get__"))
  ht : PySem.W.takesIn K (.builtin "object.__class__") = some true
  hm : PySem.W.mroIn K C (.type "object") = some true
  me : PySem.W.kitOne K (.ref C) (.ref C) = some true
  e_BadPoly : Sup.Err1 P K mg "BadPoly" "at" CB fB
  e_BadPlace : Sup.Err1 P K mg "BadPlace" "value" CP fP
  e_NoIndex : Sup.Err1 P K mg "NoIndex" "value" CI fI
  z_str : mg "str" = none
  z_tuple : mg "tuple" = none
  z_enumerate : mg "enumerate" = none
  noInt : PySem.W.kitOne K (.ref C) (.type "int") = some false
  kn : ∀ t ∈ ["int", "tuple", "NoneType", "str", "list", "bool", "dict"], PySem.W.kitOne K (.type t) (.ref C) = some false ∧ PySem.W.notFirst K C (.type t) = true
  sf : PySem.W.notFirst K C (.ref C) = true
theorem Ty0.mem {H : Hp} {v : V} {t : String} (h : Ty0 H v t) : t ∈ ["int", "tuple", "NoneType", "str", "list", "bool", "dict"] := by cases h <;> decide
theorem PTx.ty {P : Program} {K : PySem.W.Frag} {mg : Str → Option Value} {C CB fB CP fP CI fI : Addr} (T : PTx P K mg C CB fB CP fP CI fI) {H : Hp} {p : Addr} {ts : List Int} (h : PolyAt C H p ts) : TyX K H (.ref p) (.ref C) := by
  obtain ⟨dx, t, e, _⟩ := h
  exact .base (.ins e T.cl T.ha T.hn T.ht T.hm)
def spWhole0 (C : Addr) : Sp := fun vs H Q _ => ∃ (v : V), vs = [v] ∧ TyL C H v ∧ Q (.bl (isI v)) H
def spNeed (C CP : Addr) : Sp := fun vs H Q E => ∃ (v : V), vs = [v] ∧ TyL C H v ∧ (isI v = true → Q .non H) ∧ (isI v = false → Errs E CP "value" v H)
def spWend : Sp := fun vs H Q _ => ∃ (t : Addr) (ts : List Int), vs = [.ref t] ∧ H t = some (.tup (ts.map V.int)) ∧ ts.length ≤ 1000 ∧ ∀ r H', H' r = some (.tup ((trim ts).map V.int)) → Same H H' → Q (.ref r) H'
def spTermof (K : PySem.W.Frag) : Sp := fun vs H Q _ => ∃ (t : Addr) (ts : List Int) (k : Int), vs = [.ref t, .int k] ∧ H t = some (.tup (ts.map V.int)) ∧ 0 ≤ k ∧ Q (.int ((ts[k.toNat]?).getD 0)) H
/-- Poly.__init__(self, *terms) -/
def spPinit (C CB : Addr) : Sp := fun vs H Q E => ∃ (p dx tt : Addr) (xs : List V), vs = [.ref p, .ref tt] ∧ H p = some (.ins C dx []) ∧ H tt = some (.tup xs) ∧ xs.length ≤ 1000 ∧ (∀ v ∈ xs, TyL C H v) ∧
  (∀ ts, xs = ts.map V.int → ∀ H', PolyAt C H' p (trim ts) → (∀ c o, H c = some o → c ≠ p → H' c = some o) → Q .non H') ∧
  (∀ (i : Nat) (v : V), xs[i]? = some v → isI v = false → (∀ (j : Nat) (u : V), j < i → xs[j]? = some u → isI u = true) → Errs E CB "at" (.int (i : Nat)) H)
/-- Poly(..), its arguments one by one -/
def spPoly (C CB : Addr) : Sp := fun vs H Q E => ∃ (p dx : Addr) (xs : List V), vs = .ref p :: xs ∧ H p = some (.ins C dx []) ∧ xs.length ≤ 1000 ∧ (∀ v ∈ xs, TyL C H v) ∧
  (∀ ts, xs = ts.map V.int → ∀ H', PolyAt C H' p (trim ts) → (∀ c o, H c = some o → c ≠ p → H' c = some o) → Q .non H') ∧
  (∀ (i : Nat) (v : V), xs[i]? = some v → isI v = false → (∀ (j : Nat) (u : V), j < i → xs[j]? = some u → isI u = true) → Errs E CB "at" (.int (i : Nat)) H)
def spPof (K : PySem.W.Frag) (C CB : Addr) : Sp := fun vs H Q E => ∃ (t : Addr) (xs : List V), vs = [.ref C, .ref t] ∧ (SqT K H t xs ∨ SqL K H t xs) ∧ xs.length ≤ 1000 ∧ (∀ v ∈ xs, TyL C H v) ∧
  (∀ ts, xs = ts.map V.int → ∀ q H', PolyAt C H' q (trim ts) → Same H H' → Q (.ref q) H') ∧
  (∀ (i : Nat) (v : V), xs[i]? = some v → isI v = false → (∀ (j : Nat) (u : V), j < i → xs[j]? = some u → isI u = true) → Errs E CB "at" (.int (i : Nat)) H)
/-- a new Poly -/
theorem poly_at {C CB : Addr} {H : Hp} {x dx : Addr} {xs : List V} {R : Addr → Hp → Prop} {E : XK} (hl : xs.length ≤ 1000) (ty : ∀ v ∈ xs, TyL C H v) (hx : H x = none) (hd : H dx = none) (ne : dx ≠ x) (k1 : ∀ ts, xs = ts.map V.int → ∀ q H', PolyAt C H' q (trim ts) → Same H H' → R q H')
    (k2 : ∀ (i : Nat) (v : V), xs[i]? = some v → isI v = false → (∀ (j : Nat) (u : V), j < i → xs[j]? = some u → isI u = true) → Errs E CB "at" (.int (i : Nat)) H) :
    spPoly C CB (.ref x :: xs) (upd (upd H dx (.own x)) x (.ins C dx [])) (fun v H2 => v = .non ∧ R x H2) E := by
  have s0 : Same H (upd (upd H dx (.own x)) x (.ins C dx [])) := fun b o e => by
    rw [upd_ne (ne_of_none e hx), upd_ne (ne_of_none e hd)]
    exact e
  exact ⟨x, dx, xs, rfl, upd_same, hl, fun v hv => (ty v hv).same s0, fun ts e H' po kp => ⟨rfl, k1 ts e x H' po fun c o e' => kp c o (s0 _ _ e') (ne_of_none e' hx)⟩, fun i v e1 e2 e3 => (k2 i v e1 e2 e3).up s0⟩
theorem ints_of : ∀ xs : List V, (∀ v ∈ xs, isI v = true) → ∃ ts : List Int, xs = ts.map V.int
  | [], _ => ⟨[], rfl⟩
  | x :: xs, h => by
    obtain ⟨ts, e⟩ := ints_of xs fun v hv => h v (List.mem_cons_of_mem _ hv)
    obtain ⟨i, ei⟩ := isI_int (h x List.mem_cons_self)
    exact ⟨i :: ts, by rw [e, ei]; rfl⟩
def evl (ts : List Int) (m : Int) : Int := ts.reverse.foldl (fun f t => f * m + t) 0
def spPcall (C CP : Addr) : Sp := fun vs H Q E => ∃ (p : Addr) (ts : List Int) (v : V), vs = [.ref p, v] ∧ PolyAt C H p ts ∧ ts.length ≤ 1000 ∧ TyL C H v ∧ (∀ m, v = .int m → (∀ k, k ≤ ts.length → CMulW ((ts.reverse.take k).foldl (fun f t => f * m + t) 0) m) ∧ ∀ H', Same H H' → Q (.int (evl ts m)) H') ∧ (isI v = false → Errs E CP "value" v H)
def spPget (C CI : Addr) : Sp := fun vs H Q E => ∃ (p : Addr) (ts : List Int) (v : V), vs = [.ref p, v] ∧ PolyAt C H p ts ∧ TyL C H v ∧ (∀ k, v = .int k → 0 ≤ k → Q (.int ((ts[k.toNat]?).getD 0)) H) ∧ ((isI v = false ∨ ∃ k, v = .int k ∧ k < 0) → Errs E CI "value" v H)
def spPeq (C : Addr) : Sp := fun vs H Q _ => ∃ (p : Addr) (ts : List Int) (v : V), vs = [.ref p, v] ∧ PolyAt C H p ts ∧ ts.length ≤ 1000 ∧ ((∃ q us, v = .ref q ∧ PolyAt C H q us ∧ us.length ≤ 1000 ∧ Q (.bl (decide (ts = us))) H) ∨ ((∃ t, Ty0 H v t) ∧ Q (.bl false) H))
def spPbool (C : Addr) : Sp := fun vs H Q _ => ∃ (p : Addr) (ts : List Int), vs = [.ref p] ∧ PolyAt C H p ts ∧ Q (.bl (!ts.isEmpty)) H
section
variable {P : Program} {w : World} {K : PySem.W.Frag} {mg : Str → Option Value} {base : Heap} {C CB fB CP fP CI fI : Addr}
theorem ok_whole0 {f : Addr} {fd : FuncData} (F : Fun K "is_whole" "is_whole" s_whole0 f fd) (T : PTx P K mg C CB fB CP fP CI fI) : FnOk P w K mg base CX0 1 f fd ["value"] (spWhole0 C) := by
  refine F.ok sc_whole0 (fun vs H Q E h => ?_) (fun cdv A outer s H vs Q E hr h => ?_)
  · obtain ⟨v, rfl, _⟩ := h
    rfl
  · obtain ⟨v, rfl, ty, q⟩ := h
    refine ⟨_, (pss_one (ps_ret (pe_and (pe_callB call_isi (by rfl) T.z_isinstance boot_isinstance (pa_cons (pv 0) (pa_cons (pe_bltn (v := .ty "int") (by rfl) T.z_int boot_int rfl) pa_nil))) (pe_one (pe_not (pe_callB call_isi (by rfl) T.z_isinstance boot_isinstance (pa_cons (pv 0) (pa_cons (pe_bltn (v := .ty "bool") (by rfl) T.z_bool boot_bool rfl) pa_nil)))))))), ?_⟩
    rcases ty with ⟨t, ty⟩ | ⟨a, dx, fs, rfl, ea⟩
    case inr => exact ⟨_, rfl, _, _, _, _, false, rfl, .ty _, .base (.ins ea T.cl T.ha T.hn T.ht T.hm), T.noInt, _, rfl, iteF q⟩
    obtain ⟨b, e1, e2, e3⟩ := ty.kint (K := K)
    refine ⟨_, rfl, v, _, _, _, b, rfl, .ty _, ty.tyx, e1, _, rfl, ?_⟩
    cases b with
    | false =>
      refine iteF ?_
      rw [e3 rfl] at q
      exact q
    | true =>
      refine iteT ?_
      obtain ⟨c, e4, e5⟩ := e2 rfl
      refine ⟨_, rfl, v, _, _, _, c, rfl, .ty _, ty.tyx, e4, _, rfl, ?_⟩
      rw [e5] at q
      exact q
theorem ok_needint {f : Addr} {fd : FuncData} (F : Fun K "need_integer" "need_integer" s_needint f fd) (T : PTx P K mg C CB fB CP fP CI fI) (D_whole0 : DefAt P w K mg base CX0 1 "is_whole" ["value"] (spWhole0 C)) : FnOk P w K mg base (L2.CX P w) 2 f fd ["value"] (spNeed C CP) := by
  refine F.okX sc_needint (fun vs H Q E h => ?_) (fun cdv A outer s H vs Q E hr h => ?_)
  · obtain ⟨v, rfl, _⟩ := h
    rfl
  · obtain ⟨v, rfl, ty, k1, k2⟩ := h
    refine ⟨_, (pss_one (ps_if (pt_not (pt_val (My.pe_d D_whole0 (hr.mono (by decide)) (by rfl) pass0 (pa_cons (pv 0) pa_nil)))) (pss_one (ps_raise1 rfl T.e_BadPlace (hr.mono (by decide) : Room 0 _) (takes_of rfl rfl rfl rfl) (pa_cons (pv 0) pa_nil))) pss_nil)), ?_⟩
    refine ⟨_, rfl, v, rfl, ty, _, rfl, ?_⟩
    cases e : isI v with
    | true => exact iteF (k1 e)
    | false => exact iteT ⟨_, rfl, _, rfl, fun d hd => (k2 e).go hd⟩
theorem ok_wend {f : Addr} {fd : FuncData} (F : Fun K "without_end" "without_end" s_wend f fd) (T : PTx P K mg C CB fB CP fP CI fI) : FnOk P w K mg base CX0 1 f fd ["terms"] spWend := by
  refine F.ok sc_wend (fun vs H Q E h => ?_) (fun cdv A outer s H vs Q E hr h => ?_)
  · obtain ⟨t, ts, rfl, _⟩ := h
    rfl
  · obtain ⟨t, ts, rfl, ht, hl, k⟩ := h
    refine ⟨_, (pss_cons (ps_set (i := 1) sc_wend.nd rfl (Or.inl rfl) (pe_callB call_len (by rfl) T.z_len PySem.boot_len (pa_cons (pv 0) pa_nil)))
      (pss_cons (ps_while PassesOwn.never (PW.pt (pw_and (pt_cmpR op_gt (pv 1) pe_int (nomark _)) (pw_and1 (pt_cmpR op_eq (pe_ix ix_tup (pv 0) (pe_op op_sub (pv 1) pe_int) (fun _ _ => rfl)) pe_int (nomark _))))) (pss_one (ps_aug (i := 1) sc_wend.nd rfl (Or.inl rfl) pe_int ip_sub (Or.inr rfl))))
      (pss_one (ps_ret (pe_callTy call_tupleT (by rfl) T.z_tuple boot_tuple (pa_cons (pe_slice sl_tupA (pv 0) po_none (po_some (pv 1))) pa_nil)))))), ?_⟩
    refine ⟨_, rfl, _, _, rfl, .inr ⟨_, SqT.of ht, rfl⟩, ?_⟩
    have el : (ts.map V.int).length = ts.length := List.length_map ..
    refine while_by (fun σ Hz => Hz = H ∧ ∃ m : Nat, σ = [some (.ref t), some (.int (m : Nat))] ∧ m ≤ ts.length ∧ tl ts m = tl ts ts.length) (fun σ _ => match σ with | [_, some (.int y)] => y.toNat | _ => 0) ?_ ?_ ?_
    · exact ⟨rfl, (ts.map V.int).length, rfl, by omega, by rw [el]⟩
    · rintro σ Hz ⟨rfl, m, rfl, hm, e⟩
      refine ⟨_, rfl, _, _, rfl, rfl, _, rfl, ?_⟩
      refine ite2 (fun c => ?_) (fun c => iteF ?_)
      · have m0 : 0 < m := by
          have := of_decide_eq_true c
          omega
        obtain ⟨x, hx⟩ : ∃ x, ts[m - 1]? = some x := ⟨_, List.getElem?_eq_getElem (by omega)⟩
        have ea : atI (ts.map V.int) ((m : Int) - 1) = some (.int x) := at_of (j := m - 1) (by omega) (by rw [List.getElem?_map, hx]; rfl)
        refine ⟨_, rfl, _, rfl, _, _, rfl, rfl, t, _, _, .int x, rfl, rfl, SqT.of ht, ea, rfl, _, rfl, ?_⟩
        obtain ⟨k', rfl⟩ : ∃ k', m = k' + 1 := ⟨m - 1, by omega⟩
        have hx' : ts[k']? = some x := hx
        refine ite2 (fun c2 => ?_) (fun c2 => ?_)
        · have x0 : x = 0 := V.int.inj (of_decide_eq_true c2)
          refine ⟨_, rfl, _, _, rfl, rfl, ⟨rfl, k', ?_, by omega, ?_⟩, ?_⟩
          · show [_, some (V.int (((k' + 1 : Nat) : Int) - 1))] = _
            have e1 : (((k' + 1 : Nat) : Int) - 1) = (k' : Int) := by omega
            rw [e1]
          · rw [← e]
            show _ = (if ts[k']? = some 0 then tl ts k' else k' + 1)
            rw [hx', x0, if_pos rfl]
          · show ((((k' + 1 : Nat) : Int) - 1)).toNat < (((k' + 1 : Nat) : Int)).toNat
            omega
        · have x0 : ¬ x = 0 := fun z => c2 (decide_eq_true (by rw [z]))
          have em : tl ts (k' + 1) = k' + 1 := by
            show (if ts[k']? = some 0 then tl ts k' else k' + 1) = k' + 1
            rw [hx', if_neg (fun z => x0 (Option.some.inj z))]
          refine ⟨_, rfl, _, rfl, ((k' + 1 : Nat) : Int), rfl, t, _, rfl, SqT.of ht, fun w => ⟨t, _, rfl, SqT.of ht, k t Hz (trim_all w.2 e em ▸ ht) (fun _ _ e => e)⟩, fun w p hp => ⟨p, _, rfl, SqT.of upd_same, k p _ ?_ (same_new hp)⟩⟩
          rw [upd_same, cut_ints]
          unfold trim
          rw [← e, em]
      · have m0 : m = 0 := by
          by_cases z : m = 0
          · exact z
          · exact absurd (decide_eq_true (show (0 : Int) < (m : Int) by omega)) c
        have em : tl ts m = m := by
          rw [m0]
          rfl
        refine ⟨_, rfl, _, rfl, (m : Int), rfl, t, _, rfl, SqT.of ht, fun w => ⟨t, _, rfl, SqT.of ht, k t Hz (trim_all w.2 e em ▸ ht) (fun _ _ e => e)⟩, fun w p hp => ⟨p, _, rfl, SqT.of upd_same, k p _ ?_ (same_new hp)⟩⟩
        rw [upd_same, cut_ints]
        unfold trim
        rw [← e, em]
    · intro σ Hz Q1 Q2 hm h
      obtain ⟨v, e, i, j, e1, e2, b, e3, h⟩ := h
      refine ⟨v, e, i, j, e1, e2, b, e3, ?_⟩
      cases b with
      | false =>
        rw [if_neg Bool.false_ne_true] at h ⊢
        exact hm _ _ h
      | true =>
        rw [if_pos rfl] at h ⊢
        obtain ⟨v1, g1, v2, g2, i1, j1, g3, g4, p1, xs1, k1, v3, g5, g6, g7, g8, g9, b1, g10, h⟩ := h
        exact ⟨v1, g1, v2, g2, i1, j1, g3, g4, p1, xs1, k1, v3, g5, g6, g7, g8, g9, b1, g10, hm _ _ h⟩
theorem ok_termof {f : Addr} {fd : FuncData} (F : Fun K "term_of" "term_of" s_termof f fd) (T : PTx P K mg C CB fB CP fP CI fI) : FnOk P w K mg base CX0 1 f fd ["terms", "k"] (spTermof K) := by
  refine F.ok sc_termof (fun vs H Q E h => ?_) (fun cdv A outer s H vs Q E hr h => ?_)
  · obtain ⟨t, ts, k, rfl, _⟩ := h
    rfl
  · obtain ⟨t, ts, k, rfl, ht, k0, q⟩ := h
    refine ⟨_, (pss_one (ps_ret (pe_ifExp (pt_cmpR op_lt (pv 1) (pe_callB call_len (by rfl) T.z_len PySem.boot_len (pa_cons (pv 0) pa_nil)) (nomark _)) (pe_ix ix_tup (pv 0) (pv 1) (fun _ _ => rfl)) pe_int))), ?_⟩
    refine ⟨_, rfl, _, rfl, _, _, rfl, .inr ⟨_, SqT.of ht, rfl⟩, _, _, rfl, rfl, _, rfl, ?_⟩
    refine ite2 (fun c => ?_) (fun c => ?_)
    · have lt : k < ((ts.map V.int).length : Int) := of_decide_eq_true c
      rw [List.length_map] at lt
      obtain ⟨x, hx⟩ : ∃ x, ts[k.toNat]? = some x := ⟨_, List.getElem?_eq_getElem (by omega)⟩
      have ea : atI (ts.map V.int) k = some (.int x) := at_of (j := k.toNat) (by omega) (by rw [List.getElem?_map, hx]; rfl)
      rw [hx] at q
      exact ⟨_, rfl, _, rfl, t, _, _, .int x, rfl, rfl, SqT.of ht, ea, q⟩
    · have ge : ¬ k < ((ts.map V.int).length : Int) := fun z => c (decide_eq_true z)
      rw [List.length_map] at ge
      rw [List.getElem?_eq_none (by omega)] at q
      exact q
theorem ok_pinit {f : Addr} {fd : FuncData} {oc : Value} {od : Option Addr} {kV doc pm : Value} {an : Option Addr} {cdv ct : Value} {osl : Array (Option Value)} (lk : K.lookup f = some ⟨oc, od, .func (PySem.W.fnOf "__init__" "Poly.__init__" (defArgs s_pinit) (defBody s_pinit) (defScope s_pinit) .none kV doc pm an cdv ct), osl⟩) (hcd : PySem.W.codeIn K cdv "Poly.__init__" = true)
    (T : PTx P K mg C CB fB CP fP CI fI) (D_whole0 : DefAt P w K mg base CX0 1 "is_whole" ["value"] (spWhole0 C)) (D_wend : DefAt P w K mg base CX0 1 "without_end" ["terms"] spWend) : FnR P w K mg base (L2.CX P w) 3 f (spPoly C CB) := by
  have R := StX.fn_star (CX := L2.CX P w) (P := P) (w := w) (mg := mg) (base := base) (k := 2) (ps := ["self"]) (sp := spPinit C CB) lk hcd sc_pinit StX.cxUp (StX.bind_star1 (B := fun us => bindArgs (PySem.W.fnOf "__init__" "Poly.__init__" (defArgs s_pinit) (defBody s_pinit) (defScope s_pinit) .none kV doc pm an cdv ct) ⟨us, []⟩) (p1 := "self") (pv := "terms") (fun _ => rfl) (fun _ _ _ => rfl)) (fun A outer s H vs Q E hr h => ?_)
  · refine R.imp fun vs H Q E h => ?_
    obtain ⟨p, dx, xs, rfl, hp, hl, ty, k1, k2⟩ := h
    refine ⟨[.ref p], xs, rfl, rfl, by rw [sizeLine_eq]; omega, fun tt htt => ?_⟩
    have st := same_new (o := .tup xs) htt
    exact ⟨p, dx, tt, xs, rfl, st _ _ hp, upd_same, hl, fun v hv => (ty v hv).same st, fun ts e H' po kp => k1 ts e H' po fun c o e' n => kp c o (st _ _ e') n, fun i v e1 e2 e3 => (k2 i v e1 e2 e3).up st⟩
  · obtain ⟨p, dx, tt, xs, rfl, hp, htt, hl, ty, k1, k2⟩ := h
    refine ⟨_, (pss_cons (ps_for (passes_of rfl) rfl (My.pi_enumT (by rfl) T.z_enumerate (pa_cons (pv 1) pa_nil)) (pg_tup rfl (pgs_cons (pg_name (i := 2) sc_pinit.nd rfl (Or.inl rfl)) (pgs_cons (pg_name (i := 3) sc_pinit.nd rfl (Or.inl rfl)) pgs_nil))) (pss_one (ps_if (pt_not (pt_val (My.pe_d D_whole0 (hr.mono (by decide)) (by rfl) pass0 (pa_cons (pv 3) pa_nil)))) (pss_one (ps_raise1 rfl T.e_BadPoly (hr.mono (by decide) : Room 0 _) (takes_of rfl rfl rfl rfl) (pa_cons (pv 2) pa_nil))) pss_nil)))
      (pss_cons (ps_fld (pv 0) (My.pe_d D_wend (hr.mono (by decide)) (by rfl) pass0 (pa_cons (pv 1) pa_nil)) rfl)
      (pss_one (ps_fld (pv 0) (pe_op op_sub (pe_callB call_len (by rfl) T.z_len PySem.boot_len (pa_cons (pe_fld (pv 0) rfl) pa_nil)) pe_int) rfl)))), ?_⟩
    refine ⟨_, rfl, tt, _, rfl, SqT.of htt, for_enumT (K := K) (a := tt) (xs := xs) (fun i σ H' => ∃ v2 v3, σ = [some (.ref p), some (.ref tt), v2, v3] ∧ Same H H' ∧ ∀ (j : Nat) (u : V), j < i → xs[j]? = some u → isI u = true) ⟨none, none, rfl, fun _ _ e => e, fun j u z => absurd z (Nat.not_lt_zero _)⟩ (fun i σ H' _ hh => by obtain ⟨_, _, _, s, _⟩ := hh; exact SqT.of (s _ _ htt)) ?_ ?_⟩
    · rintro i x σ H' T' hx ⟨v2, v3, rfl, sh, al⟩ hT
      have s2 := sh.trans (same_new (o := .tup [.int (i : Nat), x]) hT)
      refine ⟨T', _, rfl, SqT.of upd_same, rfl, _, _, rfl, _, _, rfl, rfl, ?_⟩
      refine ⟨_, rfl, x, rfl, (ty x (List.mem_of_getElem? hx)).same s2, _, rfl, ?_⟩
      cases e : isI x with
      | false => exact iteT ⟨_, rfl, _, rfl, fun d hd => ((k2 i x hx e al).up s2).go hd⟩
      | true =>
        refine iteF ⟨_, _, rfl, s2, fun j u hj hu => ?_⟩
        by_cases z : j = i
        · rw [z, hx] at hu
          cases hu
          exact e
        · exact al j u (by omega) hu
    · rintro σ H' ⟨v2, v3, rfl, sh, al⟩
      obtain ⟨ts, rfl⟩ := ints_of xs fun v hv => by
        obtain ⟨j, hj⟩ := List.getElem?_of_mem hv
        exact al j v (List.getElem?_eq_some_iff.mp hj).1 hj
      rw [List.length_map] at hl
      refine ⟨_, rfl, tt, ts, rfl, sh _ _ htt, hl, fun r H2 hr2 s2 => ?_⟩
      have hp2 := s2 _ _ (sh _ _ hp)
      refine ⟨_, rfl, p, C, dx, _, rfl, hp2, T.cl, T.nT, (by show 0 < 1000; decide), ?_⟩
      have rp : r ≠ p := ne_of hr2 hp2 (by intro z; cases z)
      have hr3 : (upd H2 p (.ins C dx (putF "terms" (.ref r) []))) r = some (.tup ((trim ts).map V.int)) := by
        rw [upd_ne rp]
        exact hr2
      refine ⟨_, rfl, p, C, dx, _, .ref r, rfl, upd_same, T.cl, T.nT, (by rw [lookup_putF, if_pos rfl]), .ref r, (trim ts).length, rfl, .inr ⟨_, SqT.of hr3, (List.length_map ..).symm⟩, _, _, rfl, rfl, _, rfl, p, C, dx, _, rfl, upd_same, T.cl, T.nD, (by show 1 < 1000; decide), ?_⟩
      refine k1 ts rfl _ ⟨dx, r, upd_same, ?_⟩ fun c o e n => ?_
      · rw [upd_ne rp]
        exact hr3
      · rw [upd_ne n, upd_ne n]
        exact s2 _ _ (sh _ _ e)
theorem ok_pof {f : Addr} {fd : FuncData} (F : Fun K "of" "Poly.of" s_pof f fd) (T : PTx P K mg C CB fB CP fP CI fI) (M_Poly : MakeR P w K mg base (L2.CX P w) 3 "Poly" C (spPoly C CB)) : FnOk P w K mg base (L2.CX P w) 5 f fd ["cls", "terms"] (spPof K C CB) := by
  refine F.okX sc_pof (fun vs H Q E h => ?_) (fun cdv A outer s H vs Q E hr h => ?_)
  · obtain ⟨t, xs, rfl, _⟩ := h
    rfl
  · obtain ⟨t, xs, rfl, ht, hl, ty, k1, k2⟩ := h
    refine ⟨_, (pss_one (ps_ret (My.pe_mkS M_Poly (hr.mono (by decide)) (by rfl) (passes_call (takes_of rfl rfl rfl rfl) (fun _ _ _ _ h => h)) (pv 1)))), ?_⟩
    exact ⟨_, rfl, t, xs, rfl, ht, fun x dx hx hd ne => poly_at hl ty hx hd ne k1 k2⟩
theorem ok_pcall {f : Addr} {fd : FuncData} (F : Fun K "__call__" "Poly.__call__" s_pcall f fd) (T : PTx P K mg C CB fB CP fP CI fI) (D_needint : DefAt P w K mg base (L2.CX P w) 2 "need_integer" ["value"] (spNeed C CP)) : FnOk P w K mg base (L2.CX P w) 3 f fd ["self", "m"] (spPcall C CP) := by
  refine F.okX sc_pcall (fun vs H Q E h => ?_) (fun cdv A outer s H vs Q E hr h => ?_)
  · obtain ⟨p, ts, v, rfl, _⟩ := h
    rfl
  · obtain ⟨p, ts, v, rfl, ⟨dx, t, hp, ht⟩, hl, ty, k1, k2⟩ := h
    refine ⟨_, (pss_cons (ps_expr (My.pe_d D_needint (hr.mono (by decide)) (by rfl) (passes_call (takes_of rfl rfl rfl rfl) (fun _ _ _ _ h => h)) (pa_cons (pv 1) pa_nil)))
      (pss_cons (ps_set (i := 2) sc_pcall.nd rfl (Or.inl rfl) pe_int)
      (pss_cons (ps_for (passes_of rfl) rfl (pi_tup (My.pe_revT (pe_fld (pv 0) rfl))) (pg_name (i := 3) sc_pcall.nd rfl (Or.inl rfl)) (pss_one (ps_set (i := 2) sc_pcall.nd rfl (Or.inl rfl) (pe_op op_add (pe_op op_mulW (pv 2) (pv 1)) (pv 3)))))
      (pss_one (ps_ret (pv 2)))))), ?_⟩
    refine ⟨_, rfl, v, rfl, ty, fun e => ?_, fun e => k2 e⟩
    obtain ⟨m, rfl⟩ := isI_int e
    obtain ⟨cm, k1⟩ := k1 m rfl
    refine ⟨_, rfl, p, C, dx, _, .ref t, rfl, hp, T.cl, T.nT, pfs_terms _ _, t, _, rfl, SqT.of ht, fun q hq => ?_⟩
    have er : (ts.map V.int).reverse = ts.reverse.map V.int := (List.map_reverse ..).symm
    rw [er]
    refine ⟨q, rfl, ⟨_, SqT.of upd_same⟩, for_tup (K := K) (a := q) (xs := ts.reverse.map V.int) (fun i σ H' => ∃ v3, σ = [some (.ref p), some (.int m), some (.int ((ts.reverse.take i).foldl (fun f t => f * m + t) 0)), v3] ∧ H' = upd H q (.tup (ts.reverse.map V.int))) ⟨none, rfl, rfl⟩ (fun i σ H' _ hh => by obtain ⟨_, _, rfl⟩ := hh; exact SqT.of upd_same) ?_ ?_⟩
    · rintro i x σ H' hi ⟨v3, rfl, rfl⟩
      obtain ⟨y, hy, rfl⟩ := at_int hi
      have il : i ≤ ts.length := by
        have := (List.getElem?_eq_some_iff.mp hy).1
        rw [List.length_reverse] at this
        omega
      refine ⟨_, rfl, _, rfl, _, _, rfl, rfl, cm i il, _, rfl, _, _, rfl, rfl, ?_⟩
      refine ⟨some (.int y), ?_, rfl⟩
      rw [take1 hy, List.foldl_append]
      rfl
    · rintro σ H' ⟨v3, rfl, rfl⟩
      refine ⟨_, rfl, ?_⟩
      rw [List.length_map, List.take_length]
      exact k1 _ (same_new hq)
theorem ok_pget {f : Addr} {fd : FuncData} (F : Fun K "__getitem__" "Poly.__getitem__" s_pget f fd) (T : PTx P K mg C CB fB CP fP CI fI) (D_whole0 : DefAt P w K mg base CX0 1 "is_whole" ["value"] (spWhole0 C)) (D_termof : DefAt P w K mg base CX0 1 "term_of" ["terms", "k"] (spTermof K)) : FnOk P w K mg base (L2.CX P w) 2 f fd ["self", "k"] (spPget C CI) := by
  refine F.okX sc_pget (fun vs H Q E h => ?_) (fun cdv A outer s H vs Q E hr h => ?_)
  · obtain ⟨p, ts, v, rfl, _⟩ := h
    rfl
  · obtain ⟨p, ts, v, rfl, ⟨dx, t, hp, ht⟩, ty, k1, k2⟩ := h
    refine ⟨_, (pss_cons (ps_if (PW.pt (pw_or (pt_not (pt_val (My.pe_d D_whole0 (hr.mono (by decide)) (by rfl) pass0 (pa_cons (pv 1) pa_nil)))) (pw_or1 (pt_cmpR op_lt (pv 1) pe_int (nomark _))))) (pss_one (ps_raise1 rfl T.e_NoIndex (hr.mono (by decide) : Room 0 _) (takes_of rfl rfl rfl rfl) (pa_cons (pv 1) pa_nil))) pss_nil)
      (pss_one (ps_ret (My.pe_d D_termof (hr.mono (by decide)) (by rfl) pass0 (pa_cons (pe_fld (pv 0) rfl) (pa_cons (pv 1) pa_nil)))))), ?_⟩
    refine ⟨_, rfl, v, rfl, ty, _, rfl, ?_⟩
    cases e : isI v with
    | false => exact iteT (iteT ⟨_, rfl, _, rfl, fun d hd => (k2 (.inl e)).go hd⟩)
    | true =>
      obtain ⟨i, rfl⟩ := isI_int e
      refine iteF ⟨_, rfl, _, _, rfl, rfl, _, rfl, ?_⟩
      refine ite2 (fun c => ?_) (fun c => ?_)
      · exact ⟨_, rfl, _, rfl, fun d hd => (k2 (.inr ⟨i, rfl, of_decide_eq_true c⟩)).go hd⟩
      · have i0 : 0 ≤ i := by
          by_cases z : i < 0
          · exact absurd (decide_eq_true z) c
          · omega
        exact ⟨_, rfl, p, C, dx, _, .ref t, rfl, hp, T.cl, T.nT, pfs_terms _ _, _, rfl, t, ts, i, rfl, ht, i0, k1 i rfl i0⟩
theorem eqv_ints : ∀ ts us : List Int, PyData.eqvAll (ts.map PyData.int) (us.map PyData.int) = decide (ts = us)
  | [], [] => rfl
  | [], u :: us => rfl
  | t :: ts, [] => rfl
  | t :: ts, u :: us => by
    show (t == u && PyData.eqvAll (ts.map PyData.int) (us.map PyData.int)) = _
    rw [eqv_ints ts us]
    by_cases h1 : t = u
    · by_cases h2 : ts = us
      · subst h1
        subst h2
        simp
      · simp [h1, h2]
    · simp [h1]
theorem shaped_tup (ns : List Int) : SeqAt.shaped (.tuple (ns.map PyData.int)) = true := by
  show (PyData.canLayAll0 (ns.map PyData.int) && decide (PyData.depthAll (ns.map PyData.int) + 1 ≤ 64)) = true
  rw [lay_ints, dep_ints]
  rfl
theorem ok_peq {f : Addr} {fd : FuncData} (F : Fun K "__eq__" "Poly.__eq__" s_peq f fd) (T : PTx P K mg C CB fB CP fP CI fI) : FnOk P w K mg base CX0 1 f fd ["self", "other"] (spPeq C) := by
  refine F.ok sc_peq (fun vs H Q E h => ?_) (fun cdv A outer s H vs Q E hr h => ?_)
  · obtain ⟨p, ts, v, rfl, _⟩ := h
    rfl
  · obtain ⟨p, ts, v, rfl, ⟨dx, t, hp, ht⟩, hl, h⟩ := h
    refine ⟨_, (pss_one (ps_ret (pe_and (pe_callB call_isi (by rfl) T.z_isinstance boot_isinstance (pa_cons (pv 1) (pa_cons (pe_glob (v := .ref C) (by rfl) T.gP rfl) pa_nil))) (pe_one (pe_cmpR (op_eqD hr.units) (pe_fld (pv 0) rfl) (pe_fld (pv 1) rfl) (nomark _)))))), ?_⟩
    rcases h with ⟨q, us, rfl, hq, ul, k⟩ | ⟨⟨ty, hty⟩, k⟩
    · obtain ⟨dq, tq, eq, etq⟩ := id hq
      refine ⟨_, rfl, _, _, _, _, true, rfl, .own _, T.ty hq, T.me, _, rfl, iteT ?_⟩
      refine ⟨_, rfl, p, C, dx, _, .ref t, rfl, hp, T.cl, T.nT, pfs_terms _ _, _, rfl, q, C, dq, _, .ref tq, rfl, eq, T.cl, T.nT, pfs_terms _ _, ?_⟩
      refine ⟨.tuple (ts.map PyData.int), .tuple (us.map PyData.int), .tup (SqT.of ht) (dp_ints ts), .tup (SqT.of etq) (dp_ints us), shaped_tup ts, shaped_tup us, ?_⟩
      have e : PyData.eqv (.tuple (ts.map PyData.int)) (.tuple (us.map PyData.int)) = decide (ts = us) := eqv_ints ts us
      rw [e]
      exact k
    · exact ⟨_, rfl, _, _, _, _, false, rfl, .own _, hty.tyx, (T.kn _ hty.mem).1, _, rfl, iteF k⟩
theorem ok_pbool {f : Addr} {fd : FuncData} (F : Fun K "__bool__" "Poly.__bool__" s_pbool f fd) (T : PTx P K mg C CB fB CP fP CI fI) : FnOk P w K mg base CX0 1 f fd ["self"] (spPbool C) := by
  refine F.ok sc_pbool (fun vs H Q E h => ?_) (fun cdv A outer s H vs Q E hr h => ?_)
  · obtain ⟨p, ts, rfl, _⟩ := h
    rfl
  · obtain ⟨p, ts, rfl, ⟨dx, t, hp, ht⟩, k⟩ := h
    refine ⟨_, (pss_one (ps_ret (pe_callTy My.call_boolT (by rfl) T.z_bool boot_bool (pa_cons (pe_fld (pv 0) rfl) pa_nil)))), ?_⟩
    refine ⟨_, rfl, p, C, dx, _, .ref t, rfl, hp, T.cl, T.nT, pfs_terms _ _, t, _, rfl, SqT.of ht, ?_⟩
    rw [List.isEmpty_map]
    exact k
end
end My
/-! pick, the pen's cells at a known place -/
namespace My
open PySem PySem.Spec PyProof.Rows L2
def spPickC : Sp := fun vs H Q _ => ∃ (pn cl l : Addr) (n : Nat) (xs : List V), vs = [.ref pn, .ref l] ∧ H l = some (.lst xs) ∧ l ≠ pn ∧ 0 < xs.length ∧ xs.length ≤ 1000 ∧ PenC H pn cl n ∧ n < 100000 ∧
  ∀ (v : V) (H' : Hp), v ∈ xs → PenC H' pn cl (n + 1) → But pn H H' → Q v H'
section
variable {P : Program} {w : World} {K : PySem.W.Frag} {mg : Str → Option Value} {base : Heap}
theorem ok_pickC {f : Addr} {fd : FuncData} (F : Fun K "_law_pick" "_law_pick" s_pick f fd) (T : BI mg) (D_draw : DefAt P w K mg base CX0 1 "_law_draw" ["_law_pen_here", "_law_many"] spDrawC) : FnOk P w K mg base CX0 2 f fd ["_law_pen_here", "_law_some"] spPickC := by
  refine F.ok sc_pick (fun vs H Q E h => ?_) (fun cdv A outer s H vs Q E hr h => ?_)
  · obtain ⟨pn, cl, l, n, xs, rfl, _⟩ := h
    rfl
  · obtain ⟨pn, cl, l, n, xs, rfl, hl, nl, h0, h1, hp, hn, k⟩ := h
    refine ⟨_, (pss_one (ps_ret (pe_ix ix_list (pv 1) (My.pe_d D_draw (hr.mono (by decide)) (by rfl) pass0 (pa_cons (pv 0) (pa_cons (pe_callB call_len (by rfl) T.z_len PySem.boot_len (pa_cons (pv 1) pa_nil)) pa_nil))) (fun _ _ => rfl)))), ?_⟩
    refine ⟨_, rfl, _, rfl, _, rfl, _, _, rfl, .inl ⟨_, SqL.of hl, rfl⟩, pn, cl, _, n, rfl, by omega, ?_, hp, hn, fun d H' d0 d1 hp' hb => ?_⟩
    · refine Nat.lt_of_lt_of_le (PySem.Flt.log2_lt_of (k := 10) (by decide) ?_) (by decide)
      show xs.length < 1024
      omega
    · obtain ⟨v, hv⟩ : ∃ v, xs[d.toNat]? = some v := ⟨_, List.getElem?_eq_getElem (by omega)⟩
      refine ⟨l, _, _, v, rfl, rfl, SqL.of (hb l _ hl nl), at_of (j := d.toNat) (by omega) hv, ?_⟩
      exact k v H' (List.mem_of_getElem? hv) hp' hb
end
end My
/-! Texts whose signs are code points; lists of texts and of truths as data. -/
namespace My
open PySem PySem.Spec PyProof.Rows L2
theorem strOk_app (x y : Str) : PyData.strOk (x ++ y) = (PyData.strOk x && PyData.strOk y) := by
  unfold PyData.strOk
  rw [PySem.Str.cps_append, Array.all_append]
theorem strOk_of (s : String) : PyData.strOk (Str.ofString s) = true := by
  unfold PyData.strOk
  rw [PySem.Str.ofString_eq_toList]
  rw [Array.all_eq_true]
  intro i hi
  simp only [List.getElem_toArray, List.getElem_map, decide_eq_true_eq]
  have := (s.toList[i]'(by simpa using hi)).valid
  rcases this with h | ⟨_, h⟩
  · exact Nat.lt_trans h (by decide)
  · exact h
/-- a list of texts as data -/
theorem dp_strs {K : PySem.W.Frag} {H : Hp} : ∀ zs : List Str, DpAll K H (zs.map V.str) (zs.map PyData.str)
  | [] => .nil
  | z :: zs => .cons (.str z) (dp_strs zs)
theorem lay_strs : ∀ zs : List Str, (∀ z ∈ zs, PyData.strOk z = true) → PyData.canLayAll0 (zs.map PyData.str) = true
  | [], _ => rfl
  | z :: zs, h => by
    show (PyData.strOk z && PyData.canLayAll0 (zs.map PyData.str)) = true
    rw [lay_strs zs fun x hx => h x (List.mem_cons_of_mem _ hx), h z List.mem_cons_self]
    rfl
theorem dep_strs : ∀ zs : List Str, PyData.depthAll (zs.map PyData.str) = 0
  | [] => rfl
  | z :: zs => by
    show max 0 (PyData.depthAll (zs.map PyData.str)) = 0
    rw [dep_strs zs]
    rfl
theorem shaped_strs (zs : List Str) (h : ∀ z ∈ zs, PyData.strOk z = true) : SeqAt.shaped (.list (zs.map PyData.str)) = true := by
  show (PyData.canLayAll0 (zs.map PyData.str) && decide (PyData.depthAll (zs.map PyData.str) + 1 ≤ 64)) = true
  rw [lay_strs zs h, dep_strs]
  rfl
/-- a list of truths as data, shown -/
theorem dp_bls {K : PySem.W.Frag} {H : Hp} : ∀ zs : List Bool, DpAll K H (zs.map V.bl) (zs.map PyData.bool)
  | [] => .nil
  | z :: zs => .cons (.bl z) (dp_bls zs)
theorem dep_bls : ∀ zs : List Bool, PyData.depthAll (zs.map PyData.bool) = 0
  | [] => rfl
  | z :: zs => by
    show max 0 (PyData.depthAll (zs.map PyData.bool)) = 0
    rw [dep_bls zs]
    rfl
theorem showable_bls : ∀ zs : List Bool, PyData.showableAll (zs.map PyData.bool) = true
  | [] => rfl
  | z :: zs => by
    show (true && PyData.showableAll (zs.map PyData.bool)) = true
    rw [showable_bls zs]
    rfl
theorem bls_sum : ∀ zs : List Bool, ((PyData.shownAll (zs.map PyData.bool)).map (·.length)).sum ≤ 5 * zs.length ∧ (PyData.shownAll (zs.map PyData.bool)).length = zs.length
  | [] => ⟨Nat.le_refl _, rfl⟩
  | z :: zs => by
    obtain ⟨h1, h2⟩ := bls_sum zs
    refine ⟨?_, ?_⟩
    · show (PyData.bool z).shown.length + ((PyData.shownAll (zs.map PyData.bool)).map (·.length)).sum ≤ 5 * (zs.length + 1)
      have e : (PyData.bool z).shown.length ≤ 5 := by cases z <;> decide +kernel
      omega
    · show (PyData.shownAll (zs.map PyData.bool)).length + 1 = zs.length + 1
      omega
theorem bls_show {K : PySem.W.Frag} {H : Hp} {l : Addr} (zs : List Bool) (hl : zs.length ≤ 1000) (h : H l = some (.lst (zs.map V.bl))) : Dr K H (.ref l) (.list (zs.map PyData.bool)) ∧ (PyData.list (zs.map PyData.bool)).showable = true ∧ (PyData.list (zs.map PyData.bool)).depth ≤ 60 ∧ (PyData.list (zs.map PyData.bool)).shown.length ≤ sizeLine := by
  refine ⟨.inl (.lst (SqL.of h) (dp_bls zs)), showable_bls zs, ?_, ?_⟩
  · show PyData.depthAll (zs.map PyData.bool) + 1 ≤ 60
    rw [dep_bls]
    decide
  · have h1 := listText_len_le (PyData.shownAll (zs.map PyData.bool))
    obtain ⟨h2, h3⟩ := bls_sum zs
    show (listText (PyData.shownAll (zs.map PyData.bool))).length ≤ sizeLine
    rw [sizeLine_eq]
    omega
theorem bl_show {K : PySem.W.Frag} {H : Hp} (b : Bool) : Dr K H (.bl b) (.bool b) ∧ (PyData.bool b).showable = true ∧ (PyData.bool b).depth ≤ 60 ∧ (PyData.bool b).shown.length ≤ sizeLine := by
  refine ⟨.inl (.bl b), rfl, Nat.zero_le _, ?_⟩
  cases b <;> decide +kernel
end My
namespace My
open PySem PySem.Spec PyProof.Rows L2
abbrev s_lterms : Stmt := topS 31
theorem sc_lterms : FnScope ["_law_pen_here", "_law_most", "_law_many", "_law_wide", "_law_found", "_law_k"] ["_law_pen_here", "_law_most"] (defScope s_lterms) := ⟨rfl, rfl, rfl, by decide +kernel, rfl, by decide +kernel, by decide +kernel⟩
abbrev s_lcut : Stmt := topS 32
theorem sc_lcut : FnScope ["_law_terms_here", "_law_many"] ["_law_terms_here"] (defScope s_lcut) := ⟨rfl, rfl, rfl, by decide +kernel, rfl, by decide +kernel, by decide +kernel⟩
/-- a term: at most 10 ** 40 -/
def Tm (z : Int) : Prop := -(10 ^ 40) ≤ z ∧ z ≤ 10 ^ 40
theorem Tm.abs {z : Int} (h : Tm z) : z.natAbs < 2 ^ 140 := by
  obtain ⟨x1, x2⟩ := h
  have e : (10 : Int) ^ 40 = 10000000000000000000000000000000000000000 := rfl
  have e2 : (2 : Nat) ^ 140 = 1393796574908163946345982392040522594123776 := rfl
  omega
def spTerms : Sp := fun vs H Q _ => ∃ (pn : Addr) (n : Nat) (m : Nat), vs = [.ref pn, .int (m : Nat)] ∧ m ≤ 20 ∧ PenAt H pn n ∧ n < 80000 ∧ ∀ (l : Addr) (ts : List Int) (H' : Hp), ts.length ≤ m → (∀ z ∈ ts, Tm z) → H l = none → H' l = some (.lst (ts.map V.int)) → PenAt H' pn (n + 30) → But pn H H' → Q (.ref l) H'
def spCut (K : PySem.W.Frag) : Sp := fun vs H Q _ => ∃ (l : Addr) (ts : List Int), vs = [.ref l] ∧ H l = some (.lst (ts.map V.int)) ∧ ts.length ≤ 1000 ∧ ∀ r H', H' r = some (.tup ((trim ts).map V.int)) → Same H H' → Q (.ref r) H'
section
variable {P : Program} {w : World} {K : PySem.W.Frag} {mg : Str → Option Value} {base : Heap} {C CB fB CP fP CI fI : Addr}
theorem ok_lcut {f : Addr} {fd : FuncData} (F : Fun K "_law_cut" "_law_cut" s_lcut f fd) (T : PTx P K mg C CB fB CP fP CI fI) : FnOk P w K mg base CX0 1 f fd ["_law_terms_here"] (spCut K) := by
  refine F.ok sc_lcut (fun vs H Q E h => ?_) (fun cdv A outer s H vs Q E hr h => ?_)
  · obtain ⟨t, ts, rfl, _⟩ := h
    rfl
  · obtain ⟨t, ts, rfl, ht, hl, k⟩ := h
    refine ⟨_, (pss_cons (ps_set (i := 1) sc_lcut.nd rfl (Or.inl rfl) (pe_callB call_len (by rfl) T.z_len PySem.boot_len (pa_cons (pv 0) pa_nil)))
      (pss_cons (ps_while PassesOwn.never (PW.pt (pw_and (pt_cmpR op_gt (pv 1) pe_int (nomark _)) (pw_and1 (pt_cmpR op_eq (pe_ix ix_list (pv 0) (pe_op op_sub (pv 1) pe_int) (fun _ _ => rfl)) pe_int (nomark _))))) (pss_one (ps_set (i := 1) sc_lcut.nd rfl (Or.inl rfl) (pe_op op_sub (pv 1) pe_int))))
      (pss_one (ps_ret (pe_callTy call_tuple_of (by rfl) T.z_tuple boot_tuple (pa_cons (pe_slice sl_list (pv 0) po_none (po_some (pv 1))) pa_nil)))))), ?_⟩
    refine ⟨_, rfl, _, ts.length, rfl, .inl ⟨_, SqL.of ht, (List.length_map ..).symm⟩, ?_⟩
    refine while_by (fun σ Hz => Hz = H ∧ ∃ m : Nat, σ = [some (.ref t), some (.int (m : Nat))] ∧ m ≤ ts.length ∧ tl ts m = tl ts ts.length) (fun σ _ => match σ with | [_, some (.int y)] => y.toNat | _ => 0) ?_ ?_ ?_
    · exact ⟨rfl, ts.length, rfl, Nat.le_refl _, rfl⟩
    · rintro σ Hz ⟨rfl, m, rfl, hm, e⟩
      refine ⟨_, rfl, _, _, rfl, rfl, _, rfl, ?_⟩
      have out : ∀ m : Nat, tl ts m = tl ts ts.length → tl ts m = m → ∀ r, upd Hz r (.lst (cutV (ts.map V.int) none (some (m : Int)))) = upd Hz r (.lst ((trim ts).map V.int)) := fun m e em r => by
        rw [cut_ints]
        unfold trim
        rw [← e, em]
      refine ite2 (fun c => ?_) (fun c => iteF ?_)
      · have m0 : 0 < m := by
          have := of_decide_eq_true c
          omega
        obtain ⟨x, hx⟩ : ∃ x, ts[m - 1]? = some x := ⟨_, List.getElem?_eq_getElem (by omega)⟩
        have ea : atI (ts.map V.int) ((m : Int) - 1) = some (.int x) := at_of (j := m - 1) (by omega) (by rw [List.getElem?_map, hx]; rfl)
        refine ⟨_, rfl, _, rfl, _, _, rfl, rfl, t, _, _, .int x, rfl, rfl, SqL.of ht, ea, rfl, _, rfl, ?_⟩
        obtain ⟨k', rfl⟩ : ∃ k', m = k' + 1 := ⟨m - 1, by omega⟩
        have hx' : ts[k']? = some x := hx
        refine ite2 (fun c2 => ?_) (fun c2 => ?_)
        · have x0 : x = 0 := V.int.inj (of_decide_eq_true c2)
          refine ⟨_, rfl, _, _, rfl, rfl, ⟨rfl, k', ?_, by omega, ?_⟩, ?_⟩
          · show [_, some (V.int (((k' + 1 : Nat) : Int) - 1))] = _
            have e1 : (((k' + 1 : Nat) : Int) - 1) = (k' : Int) := by omega
            rw [e1]
          · rw [← e]
            show _ = (if ts[k']? = some 0 then tl ts k' else k' + 1)
            rw [hx', x0, if_pos rfl]
          · show ((((k' + 1 : Nat) : Int) - 1)).toNat < (((k' + 1 : Nat) : Int)).toNat
            omega
        · have x0 : ¬ x = 0 := fun z => c2 (decide_eq_true (by rw [z]))
          have em : tl ts (k' + 1) = k' + 1 := by
            show (if ts[k']? = some 0 then tl ts k' else k' + 1) = k' + 1
            rw [hx', if_neg (fun z => x0 (Option.some.inj z))]
          refine ⟨_, rfl, _, rfl, ((k' + 1 : Nat) : Int), rfl, t, _, rfl, SqL.of ht, fun r hr => ?_⟩
          rw [out _ e em]
          exact ⟨r, _, rfl, .inl ⟨SqL.of upd_same, fun p hp => k p _ upd_same ((same_new hr).trans (same_new hp))⟩⟩
      · have m0 : m = 0 := by
          by_cases z : m = 0
          · exact z
          · exact absurd (decide_eq_true (show (0 : Int) < (m : Int) by omega)) c
        have em : tl ts m = m := by
          rw [m0]
          rfl
        refine ⟨_, rfl, _, rfl, (m : Int), rfl, t, _, rfl, SqL.of ht, fun r hr => ?_⟩
        rw [out _ e em]
        exact ⟨r, _, rfl, .inl ⟨SqL.of upd_same, fun p hp => k p _ upd_same ((same_new hr).trans (same_new hp))⟩⟩
    · intro σ Hz Q1 Q2 hm h
      obtain ⟨v, e, i, j, e1, e2, b, e3, h⟩ := h
      refine ⟨v, e, i, j, e1, e2, b, e3, ?_⟩
      cases b with
      | false =>
        rw [if_neg Bool.false_ne_true] at h ⊢
        exact hm _ _ h
      | true =>
        rw [if_pos rfl] at h ⊢
        obtain ⟨v1, g1, v2, g2, i1, j1, g3, g4, p1, xs1, k1, v3, g5, g6, g7, g8, g9, b1, g10, h⟩ := h
        exact ⟨v1, g1, v2, g2, i1, j1, g3, g4, p1, xs1, k1, v3, g5, g6, g7, g8, g9, b1, g10, hm _ _ h⟩
theorem ix_at {n j : Nat} {i : Int} (h : i = j) (hj : j < n) : ixN n i = some j := by
  subst h
  unfold ixN
  rw [if_pos (by omega), if_pos (by omega)]
  simp
theorem PenC.le {H : Hp} {pn cl : Addr} {n m : Nat} (h : PenC H pn cl n) (le : n ≤ m) : PenC H pn cl m := by
  obtain ⟨ns, a, r, e1, e2, h3, h4, h5⟩ := h
  exact ⟨ns, a, r, e1, e2, h3, h4, by omega⟩
theorem ok_lterms {f : Addr} {fd : FuncData} (F : Fun K "_law_terms" "_law_terms" s_lterms f fd) (T : PTx P K mg C CB fB CP fP CI fI) (D_draw : DefAt P w K mg base CX0 1 "_law_draw" ["_law_pen_here", "_law_many"] spDrawC)
    (D_pick : DefAt P w K mg base CX0 2 "_law_pick" ["_law_pen_here", "_law_some"] spPick) : FnOk P w K mg base CX0 3 f fd ["_law_pen_here", "_law_most"] spTerms := by
  refine F.ok sc_lterms (fun vs H Q E h => ?_) (fun cdv A outer s H vs Q E hr h => ?_)
  · obtain ⟨pn, n, m, rfl, _⟩ := h
    rfl
  · obtain ⟨pn, n, m, rfl, m20, hp, hn, k⟩ := h
    refine ⟨_, (pss_cons (ps_asg (pe_tup (pa_cons (My.pe_d D_draw (hr.mono (by decide)) (by rfl) pass0 (pa_cons (pv 0) (pa_cons (pe_op op_add (pv 1) pe_int) pa_nil))) (pa_cons (My.pe_d D_pick (hr.mono (by decide)) (by rfl) pass0 (pa_cons (pv 0) (pa_cons (pe_lst (pa_cons pe_int (pa_cons pe_int (pa_cons pe_int (pa_cons pe_int (pa_cons (pe_op op_pow pe_int pe_int) pa_nil)))))) pa_nil))) pa_nil))) (pg_tup rfl (pgs_cons (pg_name (i := 2) sc_lterms.nd rfl (Or.inl rfl)) (pgs_cons (pg_name (i := 3) sc_lterms.nd rfl (Or.inr rfl)) pgs_nil))))
      (pss_cons (ps_setLc (i := 4) (own := [("_law_k", 5)]) rfl sc_lterms.nd rfl rfl (sw_true rfl rfl rfl rfl) (pi_range1 rfl T.z_range (pa_cons (pv 2) pa_nil)) (blkOk_by (by show blkC ["_law_pen_here", "_law_most", "_law_many", "_law_wide", "_law_found", "_law_k"] (defScope s_lterms) _ _ = true; decide +kernel)) (fun _ _ _ _ _ => (pg_name (i := 5) sc_lterms.nd rfl (Or.inl rfl))) (fun _ _ _ _ _ => pts_nil) (fun _ _ _ _ _ => (pe_op op_sub (My.pe_d D_draw (hr.mono (by decide)) (by rfl) pass0 (pa_cons (pv 0) (pa_cons (pe_op op_add (pe_op op_mul pe_int (pv 3)) pe_int) pa_nil))) (pv 3))))
      (C8.pss_cut (ps_if (PW.pt (pw_and (pt_cmpR (op_neD hr.units) (pv 4) (pe_lst pa_nil) (nomark _)) (pw_and1 (pt_cmpR op_eq (My.pe_d D_draw (hr.mono (by decide)) (by rfl) pass0 (pa_cons (pv 0) (pa_cons pe_int pa_nil))) pe_int (nomark _))))) (pss_one (ps_asg pe_int (pg_sub (pv 4) (pe_op op_sub (pe_callB call_len (by rfl) T.z_len PySem.boot_len (pa_cons (pv 4) pa_nil)) pe_int) set_list))) pss_nil)
      (C8.pss_cut (ps_if (PW.pt (pw_and (pt_cmpR (op_neD hr.units) (pv 4) (pe_lst pa_nil) (nomark _)) (pw_and1 (pt_cmpR op_eq (My.pe_d D_draw (hr.mono (by decide)) (by rfl) pass0 (pa_cons (pv 0) (pa_cons pe_int pa_nil))) pe_int (nomark _))))) (pss_one (ps_asg (pe_op op_pow pe_int pe_int) (pg_sub (pv 4) (My.pe_d D_draw (hr.mono (by decide)) (by rfl) pass0 (pa_cons (pv 0) (pa_cons (pe_callB call_len (by rfl) T.z_len PySem.boot_len (pa_cons (pv 4) pa_nil)) pa_nil))) set_list))) pss_nil)
      (pss_one (ps_ret (pv 4))))))), ?_⟩
    have l21 : ((m : Int) + 1).natAbs.log2 < 9000 := Nat.lt_of_lt_of_le (PySem.Flt.log2_lt_of (k := 10) (by decide) (by show _ < 1024; omega)) (by decide)
    obtain ⟨cl0, hpc⟩ := hp.cells
    refine ⟨_, rfl, _, rfl, _, _, rfl, rfl, pn, cl0, _, n, rfl, by omega, l21, hpc, by omega, fun d1 H1 a1 b1 p1c u1 => ?_⟩
    have p1 := p1c.pen
    refine ⟨_, rfl, _, _, rfl, rfl, ⟨by decide, by decide, by decide⟩, (by show 5 ≤ sizeLine; decide), fun l2 h2 => ?_⟩
    refine ⟨pn, l2, n + 1, _, rfl, upd_same, pen_ne p1 h2, (by show 0 < 5; decide), (by show 5 ≤ 1000; decide), pen_new p1 h2, by omega, fun v H3 hv p3 u3 => ⟨(by show 2 ≤ sizeLine; decide), fun t4 h4 => ?_⟩⟩
    obtain ⟨wd, rfl, hw⟩ := mem_ints (zs := [2, 4, 10, 1000, 10 ^ Int.toNat 9]) hv
    have w0 : 2 ≤ wd ∧ wd ≤ 10 ^ 9 := by
      have e : (10 : Int) ^ Int.toNat 9 = 1000000000 := by decide
      simp only [List.mem_cons, List.mem_nil_iff, or_false] at hw
      rw [e] at hw
      rcases hw with e | e | e | e | e <;> omega
    refine ⟨t4, _, rfl, SqT.of upd_same, rfl, _, _, rfl, _, _, rfl, rfl, ?_⟩
    have u4 : But pn H (upd H3 t4 (.tup [.int d1, .int wd])) := ((u1.trans (But.new h2)).trans u3).trans (But.new h4)
    have p4 : PenAt (upd H3 t4 (.tup [.int d1, .int wd])) pn (n + 2) := pen_new p3 h4
    generalize (upd H3 t4 (.tup [.int d1, .int wd])) = H4 at u4 p4
    refine ⟨_, rfl, d1, rfl, by omega, by omega, fun D hD => ?_⟩
    have hDH : H D = none := by
      cases z : H D with
      | none => rfl
      | some o =>
        rw [u4 D o z (pen_ne p4 hD)] at hD
        cases hD
    have nD : D ≠ pn := pen_ne p4 hD
    have e9 : (10 : Int) ^ 9 = 1000000000 := rfl
    have e40 : (10 : Int) ^ 40 = 10000000000000000000000000000000000000000 := rfl
    have lw : (2 * wd + 1).natAbs.log2 < 9000 := Nat.lt_of_lt_of_le (PySem.Flt.log2_lt_of (k := 40) (by decide) (by show _ < 1099511627776; omega)) (by decide)
    obtain ⟨cl, q4⟩ := p4.cells
    have ncl : cl ≠ D := by
      obtain ⟨ns, x, r, g1, g2, _⟩ := q4
      exact ne_of_none g2 hD
    refine lc_range (lo := 0) (n := d1.toNat) (fun i Hh => ∃ ts : List Int, Hh D = some (.lst (ts.map V.int)) ∧ ts.length = i ∧ (∀ z ∈ ts, Tm z) ∧ PenC Hh pn cl (n + 2 + i) ∧ But pn H4 Hh) ⟨[], upd_same, rfl, (fun z hz => absurd hz List.not_mem_nil), q4.put (Ne.symm nD) ncl, But.new hD⟩ ?_ ?_
    · rintro i Hh hi ⟨ts, c1, c2, c3, c4, c5⟩
      refine ⟨rfl, yes_go ⟨_, rfl, _, rfl, _, _, rfl, rfl, .inl ⟨by decide, by decide⟩, _, _, rfl, rfl, pn, cl, _, _, rfl, by omega, lw, c4, by omega, fun d Hd ad bd pd ud => ?_⟩⟩
      have cD := ud _ _ c1 nD
      refine ⟨_, rfl, _, _, rfl, rfl, _, cD, by rw [List.length_map, sizeLine_eq]; omega, ts ++ [d - wd], ?_, by rw [List.length_append, c2]; rfl, ?_, pd.put (Ne.symm nD) ncl, ?_⟩
      · rw [List.map_append]
        exact upd_same
      · intro z hz
        rcases List.mem_append.mp hz with hz | hz
        · exact c3 z hz
        · rw [List.mem_singleton.mp hz]
          exact ⟨by omega, by omega⟩
      · intro b o e n
        rw [upd_ne (ne_of_none e hD)]
        exact ud _ _ (c5 b o e n) n
    rintro H5 ⟨ts, c1, c2, c3, c4, c5⟩
    have fin : ∀ (ts : List Int) (Hz : Hp), Hz D = some (.lst (ts.map V.int)) → ts.length ≤ m → (∀ z ∈ ts, Tm z) → PenC Hz pn cl (n + 30) → But pn H4 Hz → Q (.ref D) Hz := fun ts Hz e1 e2 e3 e4 e5 => k D ts Hz e2 e3 hDH e1 e4.pen (u4.trans e5)
    have put : ∀ (ts : List Int) (Hz : Hp) (j : Nat) (x : Int), Hz D = some (.lst (ts.map V.int)) → Tm x → (∀ z ∈ ts, Tm z) → But pn H4 Hz → ((upd Hz D (.lst ((ts.map V.int).set j (.int x)))) D = some (.lst ((ts.set j x).map V.int)) ∧ (ts.set j x).length = ts.length ∧ (∀ z ∈ ts.set j x, Tm z) ∧ But pn H4 (upd Hz D (.lst ((ts.map V.int).set j (.int x))))) := fun ts Hz j x e1 tx e3 e5 => by
      refine ⟨by rw [upd_same, List.map_set], List.length_set .., fun z hz => ?_, fun b o e n => ?_⟩
      · rcases List.mem_or_eq_of_mem_set hz with hz | hz
        · exact e3 z hz
        · rw [hz]
          exact tx
      · rw [upd_ne (ne_of_none e hD)]
        exact e5 b o e n
    refine ⟨fun σ Hz => ∃ ts : List Int, σ = [some (.ref pn), some (.int (m : Nat)), some (.int d1), some (.int wd), some (.ref D), none] ∧ Hz D = some (.lst (ts.map V.int)) ∧ ts.length ≤ m ∧ (∀ z ∈ ts, Tm z) ∧ PenC Hz pn cl (n + 25) ∧ But pn H4 Hz, ?_, ?_⟩
    · refine ⟨_, rfl, (by show 0 ≤ sizeLine; decide), fun l6 h6 => ?_⟩
      have s6 := same_new (o := .lst []) h6
      have q6 := c4.same s6
      have D6 := s6 _ _ c1
      refine ⟨.list (ts.map PyData.int), .list [], .lst (SqL.of D6) (dp_ints ts), .lst (SqL.of upd_same) .nil, shaped_ints ts, rfl, _, rfl, ?_⟩
      generalize (upd H5 l6 (.lst [])) = H6 at s6 q6 D6
      have b6 := c5.trans (but_same s6)
      cases ts with
      | nil => exact iteF (iteF ⟨[], rfl, D6, Nat.zero_le _, c3, q6.le (by omega), b6⟩)
      | cons z0 zs =>
        refine iteT ⟨_, rfl, pn, cl, 4, _, rfl, by decide, by decide, q6, by omega, fun d7 H7 a7 b7 q7 u7 => ⟨rfl, _, rfl, ?_⟩⟩
        have D7 := u7 _ _ D6 nD
        have b7 := b6.trans u7
        refine ite2 (fun g => ?_) (fun g => ⟨_, rfl, D7, by omega, c3, q7.le (by omega), b7⟩)
        refine ⟨_, rfl, _, rfl, _, (z0 :: zs).length, rfl, .inl ⟨_, SqL.of D7, (List.length_map ..).symm⟩, _, _, rfl, rfl, D, _, _, zs.length, rfl, rfl, D7, ?_, ?_⟩
        · exact ix_at (by rw [List.length_cons]; omega) (by rw [List.length_map, List.length_cons]; omega)
        · obtain ⟨y1, y2, y3, y4⟩ := put _ _ zs.length 0 D7 ⟨by decide, by decide⟩ c3 b7
          exact ⟨_, rfl, y1, by rw [y2]; omega, y3, (q7.put (Ne.symm nD) ncl).le (by omega), y4⟩
    · rintro σ H6 ⟨ts, rfl, c1, c2, c3, c4, c5⟩
      refine ⟨fun σ Hz => ∃ ts : List Int, σ = [some (.ref pn), some (.int (m : Nat)), some (.int d1), some (.int wd), some (.ref D), none] ∧ Hz D = some (.lst (ts.map V.int)) ∧ ts.length ≤ m ∧ (∀ z ∈ ts, Tm z) ∧ PenC Hz pn cl (n + 30) ∧ But pn H4 Hz, ?_, ?_⟩
      · refine ⟨_, rfl, (by show 0 ≤ sizeLine; decide), fun l6 h6 => ?_⟩
        have s6 := same_new (o := .lst []) h6
        have q6 := c4.same s6
        have D6 := s6 _ _ c1
        refine ⟨.list (ts.map PyData.int), .list [], .lst (SqL.of D6) (dp_ints ts), .lst (SqL.of upd_same) .nil, shaped_ints ts, rfl, _, rfl, ?_⟩
        generalize (upd H6 l6 (.lst [])) = H7 at s6 q6 D6
        have b6 := c5.trans (but_same s6)
        cases ts with
        | nil => exact iteF (iteF ⟨[], rfl, D6, Nat.zero_le _, c3, q6.le (by omega), b6⟩)
        | cons z0 zs =>
          refine iteT ⟨_, rfl, pn, cl, 8, _, rfl, by decide, by decide, q6, by omega, fun d7 H8 a7 b7 q7 u7 => ⟨rfl, _, rfl, ?_⟩⟩
          have D7 := u7 _ _ D6 nD
          have b7 := b6.trans u7
          refine ite2 (fun g => ?_) (fun g => ⟨_, rfl, D7, c2, c3, q7.le (by omega), b7⟩)
          have ll : (((z0 :: zs).length : Nat) : Int).natAbs.log2 < 9000 := Nat.lt_of_lt_of_le (PySem.Flt.log2_lt_of (k := 10) (by decide) (by show _ < 1024; omega)) (by decide)
          refine ⟨_, _, rfl, rfl, ⟨by decide, by decide, by decide⟩, _, rfl, _, rfl, _, rfl, _, (z0 :: zs).length, rfl, .inl ⟨_, SqL.of D7, (List.length_map ..).symm⟩, pn, cl, _, _, rfl, by rw [List.length_cons]; omega, ll, q7, by omega, fun d9 H9 a9 b9 q9 u9 => ?_⟩
          have D9 := u9 _ _ D7 nD
          have b9' := b7.trans u9
          refine ⟨D, _, _, d9.toNat, rfl, rfl, D9, ix_at (by omega) (by rw [List.length_map]; omega), ?_⟩
          obtain ⟨y1, y2, y3, y4⟩ := put _ _ d9.toNat (10 ^ Int.toNat 40) D9 ⟨by decide, by decide⟩ c3 b9'
          exact ⟨_, rfl, y1, by rw [y2]; exact c2, y3, (q9.put (Ne.symm nD) ncl).le (by omega), y4⟩
      · rintro σ H7 ⟨ts, rfl, c1, c2, c3, c4, c5⟩
        exact ⟨_, rfl, fin ts H7 c1 c2 c3 c4 c5⟩
end
end My
set_option exponentiation.threshold 5000
/-! Terms without zeros at the end; values by Horner's way. -/
namespace My
theorem tl_app (ts us : List Int) : ∀ k, k ≤ ts.length → tl (ts ++ us) k = tl ts k
  | 0, _ => rfl
  | k + 1, h => by
    unfold tl
    rw [List.getElem?_append_left (by omega), tl_app ts us k (by omega)]
theorem trim_zeros (ts : List Int) : trim (ts ++ [0, 0]) = trim ts := by
  unfold trim
  have e : tl (ts ++ [0, 0]) (ts ++ [0, 0]).length = tl ts ts.length := by
    rw [List.length_append]
    show tl (ts ++ [0, 0]) (ts.length + 1 + 1) = _
    have h1 : (ts ++ [0, 0])[ts.length + 1]? = some 0 := by
      rw [List.getElem?_append_right (by omega)]
      simp
    have h2 : (ts ++ [0, 0])[ts.length]? = some 0 := by
      rw [List.getElem?_append_right (by omega)]
      simp
    rw [tl, if_pos h1, tl, if_pos h2, tl_app ts _ _ (Nat.le_refl _)]
  rw [e, List.take_append_of_le_length (tl_le ts _)]
theorem trim_one (ts : List Int) : trim (ts ++ [1]) = ts ++ [1] := by
  unfold trim
  have e : tl (ts ++ [1]) (ts ++ [1]).length = (ts ++ [1]).length := by
    rw [List.length_append]
    show tl (ts ++ [1]) (ts.length + 1) = ts.length + 1
    have h1 : (ts ++ [1])[ts.length]? = some 1 := by
      rw [List.getElem?_append_right (by omega)]
      simp
    rw [tl, if_neg (by rw [h1]; intro z; cases z)]
  rw [e, List.take_length]
theorem tl_last (ts : List Int) : ∀ k j, tl ts k = j + 1 → ts[j]? ≠ some 0
  | 0, j, h => by cases h
  | k + 1, j, h => by
    unfold tl at h
    split at h
    · exact tl_last ts k j h
    · rename_i c
      have e : k = j := by omega
      rw [← e]
      exact c
theorem trim_trim (ts : List Int) : trim (trim ts) = trim ts := by
  have hl := trim_len ts
  have key : tl (trim ts) (trim ts).length = (trim ts).length := by
    cases n : (trim ts).length with
    | zero => rfl
    | succ j =>
      have h1 : tl ts ts.length = j + 1 := by rw [← hl, n]
      have h2 := tl_last ts _ j h1
      have h3 : (trim ts)[j]? = ts[j]? := by
        unfold trim
        rw [List.getElem?_take, if_pos (by omega)]
      rw [tl, if_neg (by rw [h3]; exact h2)]
  show (trim ts).take (tl (trim ts) (trim ts).length) = trim ts
  rw [key, List.take_length]
theorem trim_ne_one (ts : List Int) : trim ts ≠ ts ++ [1] := fun z => by
  have h := trim_le ts
  rw [z, List.length_append] at h
  have e : ([1] : List Int).length = 1 := rfl
  omega
theorem evl_snoc (l : List Int) (m : Int) : evl (l ++ [0]) m = evl l m := by
  unfold evl
  rw [List.reverse_append]
  show List.foldl _ (0 * m + 0) l.reverse = _
  rw [Int.zero_mul, Int.add_zero]
theorem evl_tl (ts : List Int) (m : Int) : ∀ k, k ≤ ts.length → evl (ts.take (tl ts k)) m = evl (ts.take k) m
  | 0, _ => rfl
  | k + 1, h => by
    unfold tl
    split
    · rename_i c
      rw [evl_tl ts m k (by omega), List.take_add_one, c]
      exact (evl_snoc _ _).symm
    · rfl
theorem evl_trim (ts : List Int) (m : Int) : evl (trim ts) m = evl ts m := by
  unfold trim
  rw [evl_tl ts m _ (Nat.le_refl _), List.take_length]
theorem trim_mem {ts : List Int} {z : Int} (h : z ∈ trim ts) : z ∈ ts := List.mem_of_mem_take h
theorem horner_bd {m : Int} (hm : m.natAbs < 2 ^ 41) : ∀ (l : List Int) (a : Int) (B : Nat), 140 ≤ B → a.natAbs < 2 ^ B → (∀ z ∈ l, z.natAbs < 2 ^ 140) → (l.foldl (fun f t => f * m + t) a).natAbs < 2 ^ (B + 42 * l.length)
  | [], a, B, _, ha, _ => ha
  | z :: l, a, B, hB, ha, hl => by
    have h1 : (a * m).natAbs < 2 ^ (B + 41) := by
      rw [Int.natAbs_mul, Nat.pow_add]
      exact Nat.mul_lt_mul_of_lt_of_lt ha hm
    have h2 : z.natAbs < 2 ^ (B + 41) := Nat.lt_of_lt_of_le (hl z List.mem_cons_self) (Nat.pow_le_pow_right (by decide) (by omega))
    have h3 : (a * m + z).natAbs < 2 ^ (B + 42) := by
      have := Int.natAbs_add_le (a * m) z
      have e : (2 : Nat) ^ (B + 42) = 2 ^ (B + 41) * 2 := Nat.pow_succ ..
      omega
    have h4 := horner_bd hm l (a * m + z) (B + 42) (by omega) h3 fun x hx => hl x (List.mem_cons_of_mem _ hx)
    have e : B + 42 * (z :: l).length = B + 42 + 42 * l.length := by
      rw [List.length_cons]
      omega
    rw [e]
    exact h4
theorem take_bd {m : Int} {ts : List Int} (hm : m.natAbs < 2 ^ 41) (hl : ts.length ≤ 12) (ht : ∀ z ∈ ts, z.natAbs < 2 ^ 140) (k : Nat) : ((ts.reverse.take k).foldl (fun f t => f * m + t) 0).natAbs < 2 ^ 700 := by
  refine Nat.lt_of_lt_of_le (horner_bd hm (ts.reverse.take k) 0 140 (by decide) (by decide) fun z hz => ht z (List.mem_reverse.mp (List.mem_of_mem_take hz))) (Nat.pow_le_pow_right (by decide) ?_)
  have : (ts.reverse.take k).length ≤ ts.length := by
    rw [List.length_take, List.length_reverse]
    omega
  omega
theorem evl_bd {m : Int} {ts : List Int} (hm : m.natAbs < 2 ^ 41) (hl : ts.length ≤ 12) (ht : ∀ z ∈ ts, z.natAbs < 2 ^ 140) : (evl ts m).natAbs < 2 ^ 700 := by
  have h := take_bd hm hl ht ts.length
  rw [List.take_of_length_le (by rw [List.length_reverse]; exact Nat.le_refl _)] at h
  exact h
end My
/-! Coefficients: terms as a function, sums, products, values. -/
namespace My
def cf (ts : List Int) (k : Nat) : Int := (ts[k]?).getD 0
theorem cf_out {ts : List Int} {k : Nat} (h : ts.length ≤ k) : cf ts k = 0 := by
  unfold cf
  rw [List.getElem?_eq_none h]
  rfl
theorem tl_zero (ts : List Int) : ∀ n k, tl ts n ≤ k → k < n → n ≤ ts.length → ts[k]? = some 0
  | 0, k, _, h, _ => absurd h (Nat.not_lt_zero _)
  | n + 1, k, h1, h2, h3 => by
    unfold tl at h1
    split at h1
    · rename_i c
      by_cases e : k = n
      · rw [e]
        exact c
      · exact tl_zero ts n k h1 (by omega) (by omega)
    · omega
theorem cf_trim (ts : List Int) (k : Nat) : cf (trim ts) k = cf ts k := by
  unfold cf trim
  rw [List.getElem?_take]
  split
  · rfl
  · rename_i c
    by_cases h : k < ts.length
    · rw [tl_zero ts ts.length k (by omega) h (Nat.le_refl _)]
      rfl
    · rw [List.getElem?_eq_none (by omega)]
/-- no 0 at the end -/
def Tight (u : List Int) : Prop := ∀ j, u.length = j + 1 → cf u j ≠ 0
theorem trim_tight (ts : List Int) : Tight (trim ts) := fun j h => by
  rw [cf_trim]
  rw [trim_len] at h
  have h2 := tl_last ts _ j h
  have h3 : j < ts.length := by
    have := tl_le ts ts.length
    omega
  unfold cf
  rw [List.getElem?_eq_getElem h3] at h2 ⊢
  intro z
  exact h2 (congrArg some z)
theorem tight_le {u v : List Int} (hv : Tight v) (h : ∀ k, cf u k = cf v k) : v.length ≤ u.length := by
  cases n : v.length with
  | zero => exact Nat.zero_le _
  | succ j =>
    apply Classical.byContradiction
    intro c
    exact hv j n (by rw [← h j]; exact cf_out (by omega))
theorem tight_eq {u v : List Int} (hu : Tight u) (hv : Tight v) (h : ∀ k, cf u k = cf v k) : u = v := by
  have e : u.length = v.length := Nat.le_antisymm (tight_le hu fun k => (h k).symm) (tight_le hv h)
  refine List.ext_getElem e fun i h1 h2 => ?_
  have := h i
  unfold cf at this
  rw [List.getElem?_eq_getElem h1, List.getElem?_eq_getElem h2] at this
  exact this
theorem trim_eq {a b : List Int} (h : ∀ k, cf a k = cf b k) : trim a = trim b := tight_eq (trim_tight a) (trim_tight b) fun k => by rw [cf_trim, cf_trim, h]
theorem trim_is {u v : List Int} (hv : Tight v) (h : ∀ k, cf u k = cf v k) : trim u = v := tight_eq (trim_tight u) hv fun k => by rw [cf_trim, h]
theorem len_le {u : List Int} {n : Nat} (hu : Tight u) (h : ∀ k, n ≤ k → cf u k = 0) : u.length ≤ n := by
  cases e : u.length with
  | zero => exact Nat.zero_le _
  | succ j =>
    apply Classical.byContradiction
    intro c
    exact hu j e (h j (by omega))
theorem len_ge {u : List Int} {n : Nat} (h : cf u n ≠ 0) : n < u.length := by
  apply Classical.byContradiction
  intro c
  exact h (cf_out (by omega))
/-- f(0), .., f(n - 1) -/
def L (f : Nat → Int) (n : Nat) : List Int := (List.range n).map f
theorem L_len (f : Nat → Int) (n : Nat) : (L f n).length = n := by
  unfold L
  rw [List.length_map, List.length_range]
theorem L_succ (f : Nat → Int) (n : Nat) : L f (n + 1) = L f n ++ [f n] := by
  unfold L
  rw [List.range_succ, List.map_append]
  rfl
theorem cf_L (f : Nat → Int) (n k : Nat) : cf (L f n) k = if k < n then f k else 0 := by
  unfold cf L
  rw [List.getElem?_map]
  split
  · rename_i h
    rw [List.getElem?_range h]
    rfl
  · rename_i h
    rw [List.getElem?_eq_none (by rw [List.length_range]; omega)]
    rfl
def sumN (f : Nat → Int) : Nat → Int
  | 0 => 0
  | n + 1 => sumN f n + f n
theorem sum_L (f : Nat → Int) : ∀ n, (L f n).sum = sumN f n
  | 0 => rfl
  | n + 1 => by
    rw [L_succ, List.sum_append, sum_L f n]
    show _ + (f n + 0) = _
    rw [Int.add_zero]
    rfl
theorem sumN_ext {f g : Nat → Int} : ∀ n, (∀ k, k < n → f k = g k) → sumN f n = sumN g n
  | 0, _ => rfl
  | n + 1, h => by
    unfold sumN
    rw [sumN_ext n fun k hk => h k (by omega), h n (by omega)]
theorem sumN_tail {f : Nat → Int} {m : Nat} : ∀ n, m ≤ n → (∀ k, m ≤ k → k < n → f k = 0) → sumN f n = sumN f m
  | 0, h, _ => by
    have : m = 0 := by omega
    rw [this]
  | n + 1, h, z => by
    by_cases e : m = n + 1
    · rw [e]
    · show sumN f n + f n = _
      rw [z n (by omega) (by omega), Int.add_zero]
      exact sumN_tail n (by omega) fun k h1 h2 => z k h1 (by omega)
theorem sumN_add (f g : Nat → Int) : ∀ n, sumN (fun k => f k + g k) n = sumN f n + sumN g n
  | 0 => rfl
  | n + 1 => by
    unfold sumN
    rw [sumN_add f g n]
    omega
theorem sumN_mul (c : Int) (f : Nat → Int) : ∀ n, sumN (fun k => c * f k) n = c * sumN f n
  | 0 => by
    show (0 : Int) = c * 0
    rw [Int.mul_zero]
  | n + 1 => by
    unfold sumN
    rw [sumN_mul c f n, Int.mul_add]
theorem sumN_shift (f : Nat → Int) : ∀ n, sumN f (n + 1) = f 0 + sumN (fun k => f (k + 1)) n
  | 0 => by
    show 0 + f 0 = f 0 + 0
    omega
  | n + 1 => by
    show sumN f (n + 1) + f (n + 1) = f 0 + (sumN (fun k => f (k + 1)) n + f (n + 1))
    rw [sumN_shift f n]
    omega
/-! ### values -/
theorem evl_cons (t : Int) (ts : List Int) (m : Int) : evl (t :: ts) m = t + m * evl ts m := by
  unfold evl
  rw [List.reverse_cons, List.foldl_append]
  show _ * m + t = _
  rw [Int.mul_comm, Int.add_comm]
theorem cf_cons (t : Int) (ts : List Int) (k : Nat) : cf (t :: ts) (k + 1) = cf ts k := rfl
theorem evl_sum (m : Int) : ∀ ts : List Int, evl ts m = sumN (fun k => cf ts k * m ^ k) ts.length
  | [] => rfl
  | t :: ts => by
    rw [evl_cons, List.length_cons, sumN_shift, evl_sum m ts, ← sumN_mul]
    show t + _ = t * m ^ 0 + _
    rw [Int.pow_zero, Int.mul_one]
    congr 1
    refine sumN_ext _ fun k _ => ?_
    show m * (cf ts k * m ^ k) = cf ts k * m ^ (k + 1)
    rw [Int.pow_succ]
    grind
theorem evl_N (m : Int) (ts : List Int) {n : Nat} (h : ts.length ≤ n) : evl ts m = sumN (fun k => cf ts k * m ^ k) n := by
  rw [evl_sum, sumN_tail n h fun k h1 _ => by rw [cf_out h1, Int.zero_mul]]
theorem evl_ext {a b : List Int} (h : ∀ k, cf a k = cf b k) (m : Int) : evl a m = evl b m := by
  rw [evl_N m a (Nat.le_max_left a.length b.length), evl_N m b (Nat.le_max_right a.length b.length)]
  exact sumN_ext _ fun k _ => by rw [h]
/-! ### sums -/
theorem evl_add {a b c : List Int} (h : ∀ k, cf c k = cf a k + cf b k) (m : Int) : evl c m = evl a m + evl b m := by
  have e1 : a.length ≤ a.length + b.length + c.length := by omega
  have e2 : b.length ≤ a.length + b.length + c.length := by omega
  have e3 : c.length ≤ a.length + b.length + c.length := by omega
  rw [evl_N m a e1, evl_N m b e2, evl_N m c e3, ← sumN_add]
  refine sumN_ext _ fun k _ => ?_
  show cf c k * m ^ k = cf a k * m ^ k + cf b k * m ^ k
  rw [h, Int.add_mul]
/-! ### products -/
def S (a b : List Int) (p : Nat) : Int := sumN (fun k => cf a k * cf b (p - k)) (p + 1)
theorem S_min (a b : List Int) (p : Nat) : sumN (fun k => cf a k * cf b (p - k)) (min (p + 1) a.length) = S a b p := by
  unfold S
  rw [sumN_tail (m := min (p + 1) a.length) (p + 1) (Nat.min_le_left ..) fun k h1 h2 => by rw [cf_out (by omega), Int.zero_mul]]
theorem S_out {a b : List Int} {p : Nat} (h : a.length + b.length ≤ p) : S a b p = 0 := by
  unfold S
  rw [sumN_tail (m := 0) (p + 1) (Nat.zero_le _) fun k _ h2 => ?_]
  · rfl
  · by_cases c : a.length ≤ k
    · rw [cf_out c, Int.zero_mul]
    · rw [cf_out (ts := b) (by omega), Int.mul_zero]
theorem S_ext {a b c d : List Int} (h1 : ∀ k, cf a k = cf c k) (h2 : ∀ k, cf b k = cf d k) (p : Nat) : S a b p = S c d p := sumN_ext _ fun k _ => by rw [h1, h2]
/-- by the second one's terms, row by row -/
theorem S_rows (a b : List Int) (p : Nat) : sumN (fun k => if k ≤ p then cf a k * cf b (p - k) else 0) a.length = S a b p := by
  by_cases h : a.length ≤ p + 1
  · rw [← S_min a b p, Nat.min_eq_right h]
    exact sumN_ext _ fun k hk => by rw [if_pos (by omega)]
  · rw [sumN_tail (m := p + 1) a.length (by omega) fun k h1 _ => by rw [if_neg (by omega)]]
    exact sumN_ext _ fun k hk => by rw [if_pos (by omega)]
theorem cf_mul (a b : List Int) (p : Nat) : cf (L (fun p => sumN (fun k => cf a k * cf b (p - k)) (min (p + 1) a.length)) (a.length + b.length)) p = S a b p := by
  rw [cf_L]
  split
  · exact S_min a b p
  · rename_i h
    exact (S_out (by omega)).symm
/-- times (more + slope m) -/
theorem S_lin (a : List Int) (u v : Int) : ∀ p, S a [u, v] p = u * cf a p + (if p = 0 then 0 else v * cf a (p - 1))
  | 0 => by
    show 0 + cf a 0 * u = _
    rw [if_pos rfl, Int.mul_comm]
    omega
  | p + 1 => by
    rw [if_neg (by omega)]
    show sumN (fun k => cf a k * cf [u, v] (p + 1 - k)) (p + 1) + cf a (p + 1) * cf [u, v] (p + 1 - (p + 1)) = _
    have e : sumN (fun k => cf a k * cf [u, v] (p + 1 - k)) (p + 1) = cf a p * v := by
      show sumN (fun k => cf a k * cf [u, v] (p + 1 - k)) p + cf a p * cf [u, v] (p + 1 - p) = _
      rw [sumN_tail (m := 0) p (Nat.zero_le _) fun k _ h2 => by rw [cf_out (ts := [u, v]) (by show 2 ≤ _; omega), Int.mul_zero]]
      have e1 : p + 1 - p = 1 := by omega
      rw [e1]
      show 0 + cf a p * v = _
      omega
    rw [e]
    have e2 : p + 1 - (p + 1) = 0 := by omega
    have e3 : p + 1 - 1 = p := by omega
    rw [e2, e3]
    show cf a p * v + cf a (p + 1) * u = _
    grind
theorem evl_lin {a c : List Int} {u v : Int} (h : ∀ p, cf c p = u * cf a p + (if p = 0 then 0 else v * cf a (p - 1))) (m : Int) : evl c m = evl a m * (v * m + u) := by
  have e1 : a.length ≤ a.length + c.length := by omega
  have e2 : a.length ≤ a.length + c.length + 1 := by omega
  have e3 : c.length ≤ a.length + c.length + 1 := by omega
  have x1 : sumN (fun k => (u * cf a k) * m ^ k) (a.length + c.length + 1) = u * evl a m := by
    rw [evl_N m a e2, ← sumN_mul]
    exact sumN_ext _ fun k _ => by rw [Int.mul_assoc]
  have x2 : sumN (fun k => (if k = 0 then 0 else v * cf a (k - 1)) * m ^ k) (a.length + c.length + 1) = v * m * evl a m := by
    rw [sumN_shift, evl_N m a e1, ← sumN_mul]
    show (0 : Int) * m ^ 0 + _ = _
    rw [Int.zero_mul, Int.zero_add]
    refine sumN_ext _ fun k _ => ?_
    show v * cf a k * m ^ (k + 1) = v * m * (cf a k * m ^ k)
    rw [Int.pow_succ]
    grind
  rw [evl_N m c e3]
  have x3 : sumN (fun k => cf c k * m ^ k) (a.length + c.length + 1) = u * evl a m + v * m * evl a m := by
    rw [← x1, ← x2, ← sumN_add]
    refine sumN_ext _ fun k _ => ?_
    show cf c k * m ^ k = _ * m ^ k + _ * m ^ k
    rw [h, Int.add_mul]
  rw [x3]
  grind
end My
/-! A polynomial at u + v m. -/
namespace My
def stp (u v : Int) (f : Nat → Int) (t : Int) : Nat → Int := fun k => u * f k + (if k = 0 then 0 else v * f (k - 1)) + cf [t] k
def mv (u v : Int) : List Int → Nat → Int
  | [] => fun _ => 0
  | t :: ts => stp u v (mv u v ts) t
theorem fold_mv (u v : Int) : ∀ ts : List Int, ts.reverse.foldl (stp u v) (fun _ => 0) = mv u v ts
  | [] => rfl
  | t :: ts => by
    rw [List.reverse_cons, List.foldl_append, fold_mv u v ts]
    rfl
theorem fold_mv' (u v : Int) (l : List Int) : l.foldl (stp u v) (fun _ => 0) = mv u v l.reverse := by
  rw [← fold_mv, List.reverse_reverse]
theorem one_out {t : Int} {k : Nat} (h : k ≠ 0) : cf [t] k = 0 := cf_out (by show 1 ≤ k; omega)
theorem mv_out (u v : Int) : ∀ (ts : List Int) (k : Nat), ts.length ≤ k → mv u v ts k = 0
  | [], _, _ => rfl
  | t :: ts, k, h => by
    rw [List.length_cons] at h
    show u * mv u v ts k + (if k = 0 then 0 else v * mv u v ts (k - 1)) + cf [t] k = 0
    rw [mv_out u v ts k (by omega), if_neg (by omega), mv_out u v ts (k - 1) (by omega), one_out (by omega)]
    omega
theorem mv_bd {u v : Int} {X N : Nat} (hu : u.natAbs < 2 ^ N) (hv : v.natAbs < 2 ^ N) : ∀ (ts : List Int), (∀ k, (cf ts k).natAbs < 2 ^ X) → ∀ k, (mv u v ts k).natAbs < 2 ^ (X + (N + 2) * ts.length)
  | [], _, k => by
    show (0 : Nat) < _
    exact Nat.two_pow_pos _
  | t :: ts, h, k => by
    have ih := mv_bd hu hv ts (fun j => h (j + 1))
    have e : X + (N + 2) * (t :: ts).length = (N + (X + (N + 2) * ts.length)) + 2 := by
      rw [List.length_cons, Nat.mul_add]
      omega
    have p1 : (u * mv u v ts k).natAbs < 2 ^ (N + (X + (N + 2) * ts.length)) := by
      rw [Int.natAbs_mul, Nat.pow_add]
      exact Nat.mul_lt_mul_of_lt_of_lt hu (ih k)
    have p2 : (if k = 0 then (0 : Int) else v * mv u v ts (k - 1)).natAbs < 2 ^ (N + (X + (N + 2) * ts.length)) := by
      split
      · exact Nat.two_pow_pos _
      · rw [Int.natAbs_mul, Nat.pow_add]
        exact Nat.mul_lt_mul_of_lt_of_lt hv (ih (k - 1))
    have p3 : (cf [t] k).natAbs < 2 ^ (N + (X + (N + 2) * ts.length)) := by
      by_cases z : k = 0
      · rw [z]
        exact Nat.lt_of_lt_of_le (h 0) (Nat.pow_le_pow_right (by decide) (by omega))
      · rw [one_out z]
        exact Nat.two_pow_pos _
    show (u * mv u v ts k + (if k = 0 then 0 else v * mv u v ts (k - 1)) + cf [t] k).natAbs < _
    rw [e, Nat.pow_add]
    have q1 := Int.natAbs_add_le (u * mv u v ts k + (if k = 0 then 0 else v * mv u v ts (k - 1))) (cf [t] k)
    have q2 := Int.natAbs_add_le (u * mv u v ts k) (if k = 0 then 0 else v * mv u v ts (k - 1))
    have e4 : (2 : Nat) ^ 2 = 4 := rfl
    omega
theorem mv_evl (u v m : Int) : ∀ (ts c : List Int), (∀ k, cf c k = mv u v ts k) → evl c m = evl ts (v * m + u)
  | [], c, h => by
    rw [evl_ext (b := []) h m]
    rfl
  | t :: ts, c, h => by
    have e1 : ∀ k, cf (L (mv u v ts) ts.length) k = mv u v ts k := fun k => by
      rw [cf_L]
      split
      · rfl
      · exact (mv_out u v ts k (by omega)).symm
    have ih := mv_evl u v m ts _ e1
    have e2 : ∀ k, cf (L (fun k => u * mv u v ts k + (if k = 0 then 0 else v * mv u v ts (k - 1))) (ts.length + 1)) k = u * cf (L (mv u v ts) ts.length) k + (if k = 0 then 0 else v * cf (L (mv u v ts) ts.length) (k - 1)) := fun k => by
      rw [cf_L, e1, e1]
      split
      · rfl
      · rename_i z
        rw [mv_out u v ts k (by omega), if_neg (by omega), mv_out u v ts (k - 1) (by omega)]
        omega
    have e3 := evl_lin e2 m
    have e4 : evl c m = evl (L (fun k => u * mv u v ts k + (if k = 0 then 0 else v * mv u v ts (k - 1))) (ts.length + 1)) m + evl [t] m := evl_add (fun k => by rw [h, e2, e1, e1]; rfl) m
    rw [e4, e3, ih, evl_cons, evl_cons]
    show _ + (t + m * 0) = _
    grind
theorem mv_top1 : ∀ (ts : List Int) (n : Nat), ts.length = n + 1 → mv 1 1 ts n = cf ts n
  | [], _, h => by cases h
  | t :: ts, n, h => by
    have hl : ts.length = n := by
      rw [List.length_cons] at h
      omega
    show 1 * mv 1 1 ts n + (if n = 0 then 0 else 1 * mv 1 1 ts (n - 1)) + cf [t] n = _
    rw [mv_out 1 1 ts n (by omega)]
    cases n with
    | zero =>
      rw [if_pos rfl]
      show 1 * 0 + 0 + t = t
      omega
    | succ j =>
      rw [if_neg (by omega), one_out (by omega), cf_cons]
      have := mv_top1 ts j hl
      show 1 * 0 + 1 * mv 1 1 ts j + 0 = _
      rw [this]
      omega
theorem mv_top2 : ∀ (ts : List Int) (n : Nat), ts.length = n + 2 → mv 1 1 ts n = cf ts n + ((n : Int) + 1) * cf ts (n + 1)
  | [], _, h => by cases h
  | t :: ts, n, h => by
    have hl : ts.length = n + 1 := by
      rw [List.length_cons] at h
      omega
    show 1 * mv 1 1 ts n + (if n = 0 then 0 else 1 * mv 1 1 ts (n - 1)) + cf [t] n = _
    rw [mv_top1 ts n hl, cf_cons]
    cases n with
    | zero =>
      rw [if_pos rfl]
      show 1 * cf ts 0 + 0 + t = t + ((0 : Int) + 1) * cf ts 0
      omega
    | succ j =>
      rw [if_neg (by omega), one_out (by omega), cf_cons]
      have := mv_top2 ts j hl
      show 1 * cf ts (j + 1) + 1 * mv 1 1 ts j + 0 = cf ts j + (((j + 1 : Nat) : Int) + 1) * cf ts (j + 1)
      rw [this]
      have e : (((j + 1 : Nat) : Int) + 1) = (j : Int) + 1 + 1 := by omega
      rw [e]
      grind
/-- the degree of the step -/
theorem step_len {a r : List Int} (ha : Tight a) (hr : Tight r) (h : ∀ k, cf r k = mv 1 1 a k - cf a k) : r.length = a.length - 1 := by
  cases n : a.length with
  | zero =>
    have := len_le (n := 0) hr fun k _ => by rw [h, mv_out 1 1 a k (by omega), cf_out (by omega)]; rfl
    omega
  | succ j =>
    have e1 := len_le (n := j) hr fun k hk => by
      rw [h]
      by_cases z : k = j
      · rw [z, mv_top1 a j n]
        omega
      · rw [mv_out 1 1 a k (by omega), cf_out (by omega)]
        rfl
    cases j with
    | zero => omega
    | succ i =>
      have : i < r.length := len_ge (by
        rw [h, mv_top2 a i n]
        have := ha (i + 1) n
        intro z
        have e : ((i : Int) + 1) * cf a (i + 1) = 0 := by omega
        rcases Int.mul_eq_zero.mp e with e | e
        · omega
        · exact this e)
      omega
/-- the size of a product's terms -/
theorem sumN_bd {f : Nat → Int} {B : Nat} (h : ∀ k, (f k).natAbs < 2 ^ B) : ∀ n, (sumN f n).natAbs ≤ n * 2 ^ B
  | 0 => Nat.zero_le _
  | n + 1 => by
    have := sumN_bd h n
    have q := Int.natAbs_add_le (sumN f n) (f n)
    have q2 := h n
    show (sumN f n + f n).natAbs ≤ _
    rw [Nat.add_mul]
    omega
theorem S_bd {a b : List Int} {A B : Nat} (ha : ∀ k, (cf a k).natAbs < 2 ^ A) (hb : ∀ k, (cf b k).natAbs < 2 ^ B) (l : a.length + b.length ≤ 1000) (p : Nat) : (S a b p).natAbs < 2 ^ (A + B + 10) := by
  by_cases c : a.length + b.length ≤ p
  · rw [S_out c]
    exact Nat.two_pow_pos _
  · have h := sumN_bd (f := fun k => cf a k * cf b (p - k)) (B := A + B) (fun k => by
      show (cf a k * cf b (p - k)).natAbs < _
      rw [Int.natAbs_mul, Nat.pow_add]
      exact Nat.mul_lt_mul_of_lt_of_lt (ha k) (hb _)) (p + 1)
    have h2 : (p + 1) * 2 ^ (A + B) ≤ 1000 * 2 ^ (A + B) := Nat.mul_le_mul_right _ (by omega)
    have h3 : 0 < 2 ^ (A + B) := Nat.two_pow_pos _
    have e : (2 : Nat) ^ (A + B + 10) = 2 ^ (A + B) * 1024 := Nat.pow_add ..
    rw [e]
    show (sumN _ (p + 1)).natAbs < _
    omega
end My
/-! Rules for use within a comprehension: the table of the text is named apart from the context. -/
namespace My
open PySem PySem.Spec PyProof.Rows L2
section
variable {X : Cx} {K : PySem.W.Frag}
theorem pe_fldB {e : Expr} {f : Str} {ta : TE} {pos : Pos} (hK : X.K = K) (he : PE X e ta) (hb : attributeBase e f X.env (eval e X.env) = eval e X.env) : PE X (.Attribute e f pos) (tFld K ta f) := by
  subst hK
  exact pe_fld he hb
theorem call_lenB (hK : X.K = K) : CallR X (.builtin "len") (fun xs H Q => ∃ x n, xs = [x] ∧ LenV K x H n ∧ Q (.int n) H) := by
  subst hK
  exact call_len
theorem cr_sumB (hK : X.K = K) (hc : X.calm = true) : CallR X (.builtin "sum") (rSum K) := by
  subst hK
  exact cr_sum hc
theorem ix_tupP (hK : X.K = K) : IxR X (rIxT K) := by
  subst hK
  exact ix_tup
theorem pg_tupB {es : List Expr} {k n : Nat} {t : TGs} {pos : Pos} (hK : X.K = K) (hc : X.calm = true) (h : PGs X es t) (hn : (assignEach es X.env).length = n := by rfl) (hst : (assignEach es X.env).findIdx? (·.1) = none := by rfl) : PG X (.Tuple es k pos) (gTup K n t) := by
  subst hK
  exact pg_tup hc h hn hst
end
end My
set_option pp.maxSteps 1500
set_option pp.deepTerms.threshold 8
/-! ### the operators of Poly -/
namespace My
open PySem PySem.Spec PyProof.Rows L2
abbrev s_padd : Stmt := inClass (topS 26) 14
theorem sc_padd : FnScope ["self", "other", "many", "terms", "k"] ["self", "other"] (defScope s_padd) := ⟨rfl, rfl, rfl, by decide +kernel, rfl, by decide +kernel, by decide +kernel⟩
abbrev s_pradd : Stmt := inClass (topS 26) 15
theorem sc_pradd : FnScope ["self", "other"] ["self", "other"] (defScope s_pradd) := ⟨rfl, rfl, rfl, by decide +kernel, rfl, by decide +kernel, by decide +kernel⟩
abbrev s_pneg : Stmt := inClass (topS 26) 16
theorem sc_pneg : FnScope ["self", "terms", "term"] ["self"] (defScope s_pneg) := ⟨rfl, rfl, rfl, by decide +kernel, rfl, by decide +kernel, by decide +kernel⟩
abbrev s_psub : Stmt := inClass (topS 26) 17
theorem sc_psub : FnScope ["self", "other"] ["self", "other"] (defScope s_psub) := ⟨rfl, rfl, rfl, by decide +kernel, rfl, by decide +kernel, by decide +kernel⟩
abbrev s_prsub : Stmt := inClass (topS 26) 18
theorem sc_prsub : FnScope ["self", "other"] ["self", "other"] (defScope s_prsub) := ⟨rfl, rfl, rfl, by decide +kernel, rfl, by decide +kernel, by decide +kernel⟩
/-- .. and of the names used beside -/
structure PTy (P : Program) (K : PySem.W.Frag) (mg : Str → Option Value) (C CB fB CP fP CI fI : Addr) : Prop extends PTx P K mg C CB fB CP fP CI fI where
  z_sum : mg "sum" = none
  z_max : mg "max" = none
  z_min : mg "min" = none
  z_zip : mg "zip" = none
theorem poly_ints {C CB : Addr} {H : Hp} (zs : List Int) {R : Addr → Hp → Prop} {E : XK} (hl : zs.length ≤ 1000) (k : ∀ q H', PolyAt C H' q (trim zs) → Same H H' → R q H') (x dx : Addr) (hx : H x = none) (hd : H dx = none) (ne : dx ≠ x) :
    spPoly C CB (.ref x :: zs.map V.int) (upd (upd H dx (.own x)) x (.ins C dx [])) (fun v H2 => v = .non ∧ R x H2) E :=
  poly_at (by rw [List.length_map]; exact hl) (fun v hv => by
    obtain ⟨z, rfl, _⟩ := mem_ints hv
    exact TyL.int C H z) hx hd ne (fun ts e q H' po sm => by
    have e2 : zs = ts := (List.map_inj_right fun a b z => V.int.inj z).mp e
    rw [← e2] at po
    exact k q H' po sm) fun j v h1 h2 h3 => by
    obtain ⟨y, _, rfl⟩ := at_int h1
    cases h2
/-- a poly of these terms, or an integer -/
def NumP (C : Addr) (H : Hp) (v : V) (b : List Int) : Prop := (∃ q, v = .ref q ∧ PolyAt C H q b) ∨ ∃ i, v = .int i ∧ b = [i]
theorem NumP.orInt {C : Addr} {H : Hp} {v : V} {b : List Int} (h : NumP C H v b) : OrInt H C v := by
  rcases h with ⟨q, rfl, dx, t, e, _⟩ | ⟨i, rfl, _⟩
  · exact .inl ⟨q, dx, _, rfl, e⟩
  · exact .inr ⟨i, rfl⟩
theorem NumP.same {C : Addr} {H H' : Hp} {v : V} {b : List Int} (h : NumP C H v b) (s : Same H H') : NumP C H' v b := by
  rcases h with ⟨q, e, po⟩ | h
  · exact .inl ⟨q, e, po.same s⟩
  · exact .inr h
/-- a new poly, its terms told by their coefficients -/
def Gives (C : Addr) (H : Hp) (Q : VK) (f : Nat → Int) : Prop := ∀ (q : Addr) (r : List Int) (H' : Hp), Tight r → (∀ k, cf r k = f k) → PolyAt C H' q r → Same H H' → Q (.ref q) H'
theorem Gives.up {C : Addr} {H H' : Hp} {Q : VK} {f g : Nat → Int} (h : Gives C H Q f) (s : Same H H') (e : ∀ k, g k = f k) : Gives C H' Q g := fun q r H2 t c po s2 => h q r H2 t (fun k => by rw [c, e]) po (s.trans s2)
theorem fn_up {P : Program} {w : World} {K : PySem.W.Frag} {mg : Str → Option Value} {base : Heap} {CX : CXT} {k m : Nat} {f : Addr} {fd : FuncData} {ps : List Str} {sp : Sp} (h : FnOk P w K mg base CX k f fd ps sp) (le : k ≤ m) : FnOk P w K mg base CX m f fd ps sp :=
  ⟨h.len, fun A outer s H args us vs Q E hr e0 hb r hs => h.run A outer s H args us vs Q E (hr.mono le) e0 hb r hs⟩
theorem fn_two {P : Program} {w : World} {K : PySem.W.Frag} {mg : Str → Option Value} {base : Heap} {CX : CXT} {k : Nat} {f : Addr} {fd : FuncData} {ps : List Str} {s1 s2 sp : Sp} (h1 : FnOk P w K mg base CX k f fd ps s1) (h2 : FnOk P w K mg base CX k f fd ps s2) (to : ∀ vs H Q E, sp vs H Q E → s1 vs H Q E ∨ s2 vs H Q E) : FnOk P w K mg base CX k f fd ps sp :=
  ⟨fun vs H Q E h => (to _ _ _ _ h).elim (h1.len vs H Q E) (h2.len vs H Q E), fun A outer s H args us vs Q E hr e0 hb r h => (to _ _ _ _ h).elim (h1.run A outer s H args us vs Q E hr e0 hb r) (h2.run A outer s H args us vs Q E hr e0 hb r)⟩
def spPaddI (C : Addr) : Sp := fun vs H Q _ => ∃ (p : Addr) (i : Int) (a : List Int), vs = [.ref p, .int i] ∧ PolyAt C H p a ∧ a.length ≤ 400 ∧ Gives C H Q fun k => cf a k + cf [i] k
def spPadd (C : Addr) : Sp := fun vs H Q _ => ∃ (p : Addr) (v : V) (a b : List Int), vs = [.ref p, v] ∧ PolyAt C H p a ∧ NumP C H v b ∧ a.length ≤ 400 ∧ b.length ≤ 400 ∧ Gives C H Q fun k => cf a k + cf b k
/-- .. of two polys -/
def spPadd0 (C : Addr) : Sp := fun vs H Q _ => ∃ (p q : Addr) (a b : List Int), vs = [.ref p, .ref q] ∧ PolyAt C H p a ∧ PolyAt C H q b ∧ a.length ≤ 400 ∧ b.length ≤ 400 ∧ Gives C H Q fun k => cf a k + cf b k
section
variable {P : Program} {w : World} {K : PySem.W.Frag} {mg : Str → Option Value} {base : Heap} {C CB fB CP fP CI fI : Addr}
theorem ok_padd0 {f : Addr} {fd : FuncData} (F : Fun K "__add__" "Poly.__add__" s_padd f fd) (T : PTy P K mg C CB fB CP fP CI fI) (D_whole0 : DefAt P w K mg base CX0 1 "is_whole" ["value"] (spWhole0 C)) (D_termof : DefAt P w K mg base CX0 1 "term_of" ["terms", "k"] (spTermof K))
    (M_Poly : MakeR P w K mg base (L2.CX P w) 3 "Poly" C (spPoly C CB)) : FnOk P w K mg base CX0 5 f fd ["self", "other"] (spPadd0 C) := by
  refine F.ok sc_padd (fun vs H Q E h => ?_) (fun cdv A outer s H vs Q E hr h => ?_)
  · obtain ⟨p, q, a, b, rfl, _⟩ := h
    rfl
  · obtain ⟨p, q, a, b, rfl, hp, hq, la, lb, k⟩ := h
    refine ⟨_, (pss_cons (ps_if (pt_val (My.pe_d D_whole0 (hr.mono (by decide)) (by rfl) pass0 (pa_cons (pv 1) pa_nil))) (pss_one ps_never) pss_nil)
      (pss_cons (ps_if (pt_not (pt_val (pe_callB call_isi (by rfl) T.z_isinstance boot_isinstance (pa_cons (pv 1) (pa_cons (pe_glob (v := .ref C) (by rfl) T.gP rfl) pa_nil))))) (pss_one ps_never) pss_nil)
      (pss_cons (ps_set (i := 2) sc_padd.nd rfl (Or.inl rfl) (pe_callB (call_max2 rfl) (by rfl) T.z_max boot_max (pa_cons (pe_callB call_len (by rfl) T.z_len PySem.boot_len (pa_cons (My.pe_fldB (K := K) rfl (pv 0) rfl) pa_nil)) (pa_cons (pe_callB call_len (by rfl) T.z_len PySem.boot_len (pa_cons (My.pe_fldB (K := K) rfl (pv 1) rfl) pa_nil)) pa_nil))))
      (pss_cons (ps_setLc (i := 3) (own := [("k", 4)]) rfl sc_padd.nd rfl rfl (sw_true rfl rfl rfl rfl) (pi_range1 rfl T.z_range (pa_cons (pv 2) pa_nil)) (blkOk_by (by show blkC ["self", "other", "many", "terms", "k"] (defScope s_padd) _ _ = true; decide +kernel)) (fun _ _ _ _ _ => (pg_name (i := 4) sc_padd.nd rfl (Or.inl rfl))) (fun _ _ _ _ _ => pts_nil) (fun _ _ _ _ _ => (pe_op op_add (My.pe_d D_termof (hr.mono (by decide)) (by rfl) pass0 (pa_cons (My.pe_fldB (K := K) rfl (pv 0) rfl) (pa_cons (pv 4) pa_nil))) (My.pe_d D_termof (hr.mono (by decide)) (by rfl) pass0 (pa_cons (My.pe_fldB (K := K) rfl (pv 1) rfl) (pa_cons (pv 4) pa_nil))))))
      (pss_one (ps_ret (My.pe_mkS M_Poly (hr.mono (by decide)) (by rfl) passL (pv 3)))))))), ?_⟩
    obtain ⟨dx, t, ep, et⟩ := id hp
    obtain ⟨dq, tq, eq, etq⟩ := id hq
    refine ⟨_, rfl, .ref q, rfl, hq.tyl, _, rfl, iteF ?_⟩
    refine ⟨_, rfl, _, _, _, _, true, rfl, .own _, T.ty hq, T.me, _, rfl, iteF ?_⟩
    refine ⟨_, rfl, p, C, dx, _, .ref t, rfl, ep, T.cl, T.nT, pfs_terms _ _, _, a.length, rfl, .inr ⟨_, SqT.of et, (List.length_map ..).symm⟩, _, rfl, q, C, dq, _, .ref tq, rfl, eq, T.cl, T.nT, pfs_terms _ _, _, b.length, rfl, .inr ⟨_, SqT.of etq, (List.length_map ..).symm⟩, _, _, rfl, ?_⟩
    obtain ⟨N, hN⟩ : ∃ N : Nat, (if ((b.length : Nat) : Int) > ((a.length : Nat) : Int) then ((b.length : Nat) : Int) else ((a.length : Nat) : Int)) = (N : Int) ∧ a.length ≤ N ∧ b.length ≤ N ∧ N ≤ 400 := by
      split
      · exact ⟨b.length, rfl, by omega, by omega, by omega⟩
      · exact ⟨a.length, rfl, by omega, by omega, by omega⟩
    rw [hN.1]
    refine ⟨_, rfl, (N : Int), rfl, by omega, by omega, fun D hD => ?_⟩
    refine lc_range (lo := 0) (n := N) (fun i Hh => Hh D = some (.lst ((L (fun k => cf a k + cf b k) i).map V.int)) ∧ Same H Hh) ⟨upd_same, same_new hD⟩ ?_ ?_
    · rintro i Hh hi ⟨c1, c2⟩
      refine ⟨rfl, yes_go ⟨_, rfl, p, C, dx, _, .ref t, rfl, c2 _ _ ep, T.cl, T.nT, pfs_terms _ _, _, rfl, t, a, _, rfl, c2 _ _ et, by omega, _, rfl, q, C, dq, _, .ref tq, rfl, c2 _ _ eq, T.cl, T.nT, pfs_terms _ _, _, rfl, tq, b, _, rfl, c2 _ _ etq, by omega, _, _, rfl, rfl, _, c1, ?_, ?_, ?_⟩⟩
      · rw [List.length_map, L_len, sizeLine_eq]
        omega
      · have e0 : (0 + ((i : Nat) : Int)).toNat = i := by omega
        rw [L_succ, List.map_append, e0]
        exact upd_same
      · intro b' o e
        rw [upd_ne (ne_of_none e hD)]
        exact c2 _ _ e
    rintro H2 ⟨c1, c2⟩
    refine ⟨_, rfl, D, _, rfl, .inr (SqL.of c1), poly_ints (L (fun k => cf a k + cf b k) N) (by rw [L_len]; omega) fun q' H3 po s3 => k q' _ H3 (trim_tight _) (fun j => ?_) po (c2.trans s3)⟩
    rw [cf_trim, cf_L]
    split
    · rfl
    · show 0 = cf a j + cf b j
      rw [cf_out (ts := a) (by omega), cf_out (ts := b) (by omega)]
      rfl
theorem ok_padd1 {f : Addr} {fd : FuncData} (F : Fun K "__add__" "Poly.__add__" s_padd f fd) (T : PTy P K mg C CB fB CP fP CI fI) (D_whole0 : DefAt P w K mg base CX0 1 "is_whole" ["value"] (spWhole0 C)) (D_termof : DefAt P w K mg base CX0 1 "term_of" ["terms", "k"] (spTermof K))
    (M_Poly : MakeR P w K mg base (L2.CX P w) 3 "Poly" C (spPoly C CB)) (O_add : CmpAt P w K mg base CX0 5 C "__add__" ["self", "other"] (spPadd0 C)) (B_add : BinF K C (Operator.info .Add).2) : FnOk P w K mg base CX0 6 f fd ["self", "other"] (spPaddI C) := by
  refine F.ok sc_padd (fun vs H Q E h => ?_) (fun cdv A outer s H vs Q E hr h => ?_)
  · obtain ⟨p, i, a, rfl, _⟩ := h
    rfl
  · obtain ⟨p, i, a, rfl, hp, la, k⟩ := h
    refine ⟨_, (pss_cons (ps_if (pt_val (My.pe_d D_whole0 (hr.mono (by decide)) (by rfl) pass0 (pa_cons (pv 1) pa_nil))) (pss_one (ps_ret (pe_op (My.op_binO O_add B_add (hr.mono (by decide)) pass0) (pv 0) (My.pe_mkR M_Poly (hr.mono (by decide)) (by rfl) passL (pa_cons (pv 1) pa_nil))))) pss_nil)
      (pss_cons (ps_if (pt_not (pt_val (pe_callB call_isi (by rfl) T.z_isinstance boot_isinstance (pa_cons (pv 1) (pa_cons (pe_glob (v := .ref C) (by rfl) T.gP rfl) pa_nil))))) (pss_one ps_never) pss_nil)
      (pss_cons (ps_set (i := 2) sc_padd.nd rfl (Or.inl rfl) (pe_callB (call_max2 rfl) (by rfl) T.z_max boot_max (pa_cons (pe_callB call_len (by rfl) T.z_len PySem.boot_len (pa_cons (My.pe_fldB (K := K) rfl (pv 0) rfl) pa_nil)) (pa_cons (pe_callB call_len (by rfl) T.z_len PySem.boot_len (pa_cons (My.pe_fldB (K := K) rfl (pv 1) rfl) pa_nil)) pa_nil))))
      (pss_cons (ps_setLc (i := 3) (own := [("k", 4)]) rfl sc_padd.nd rfl rfl (sw_true rfl rfl rfl rfl) (pi_range1 rfl T.z_range (pa_cons (pv 2) pa_nil)) (blkOk_by (by show blkC ["self", "other", "many", "terms", "k"] (defScope s_padd) _ _ = true; decide +kernel)) (fun _ _ _ _ _ => (pg_name (i := 4) sc_padd.nd rfl (Or.inl rfl))) (fun _ _ _ _ _ => pts_nil) (fun _ _ _ _ _ => (pe_op op_add (My.pe_d D_termof (hr.mono (by decide)) (by rfl) pass0 (pa_cons (My.pe_fldB (K := K) rfl (pv 0) rfl) (pa_cons (pv 4) pa_nil))) (My.pe_d D_termof (hr.mono (by decide)) (by rfl) pass0 (pa_cons (My.pe_fldB (K := K) rfl (pv 1) rfl) (pa_cons (pv 4) pa_nil))))))
      (pss_one (ps_ret (My.pe_mkS M_Poly (hr.mono (by decide)) (by rfl) passL (pv 3)))))))), ?_⟩
    refine ⟨_, rfl, .int i, rfl, TyL.int C H i, _, rfl, iteT ?_⟩
    refine ⟨_, rfl, _, rfl, poly_ints [i] (by show 1 ≤ 1000; decide) fun q H2 po s2 => ?_⟩
    have hp2 := hp.same s2
    obtain ⟨dx, t, ep, et⟩ := id hp2
    obtain ⟨dq, tq, eq, etq⟩ := id po
    exact ⟨p, dx, _, rfl, ep, .inl ⟨q, dq, _, rfl, eq⟩, p, q, a, _, rfl, hp2, po, la, Nat.le_trans (trim_le [i]) (by show 1 ≤ 400; decide), k.up s2 fun j => by rw [cf_trim]⟩
theorem ok_padd {f : Addr} {fd : FuncData} (F : Fun K "__add__" "Poly.__add__" s_padd f fd) (T : PTy P K mg C CB fB CP fP CI fI) (D_whole0 : DefAt P w K mg base CX0 1 "is_whole" ["value"] (spWhole0 C)) (D_termof : DefAt P w K mg base CX0 1 "term_of" ["terms", "k"] (spTermof K))
    (M_Poly : MakeR P w K mg base (L2.CX P w) 3 "Poly" C (spPoly C CB)) (O_add : CmpAt P w K mg base CX0 5 C "__add__" ["self", "other"] (spPadd0 C)) (B_add : BinF K C (Operator.info .Add).2) : FnOk P w K mg base CX0 6 f fd ["self", "other"] (spPadd C) :=
  fn_two (fn_up (ok_padd0 F T D_whole0 D_termof M_Poly) (by decide)) (ok_padd1 F T D_whole0 D_termof M_Poly O_add B_add) fun vs H Q E h => by
    obtain ⟨p, v, a, b, rfl, hp, hv, la, lb, k⟩ := h
    rcases hv with ⟨q, rfl, hq⟩ | ⟨i, rfl, rfl⟩
    · exact .inl ⟨p, q, a, b, rfl, hp, hq, la, lb, k⟩
    · exact .inr ⟨p, i, a, rfl, hp, la, k⟩
theorem ok_pradd {f : Addr} {fd : FuncData} (F : Fun K "__radd__" "Poly.__radd__" s_pradd f fd) (T : PTy P K mg C CB fB CP fP CI fI) (O_add : CmpAt P w K mg base CX0 6 C "__add__" ["self", "other"] (spPadd C)) (B_add : BinF K C (Operator.info .Add).2) : FnOk P w K mg base CX0 7 f fd ["self", "other"] (spPadd C) := by
  refine F.ok sc_pradd (fun vs H Q E h => ?_) (fun cdv A outer s H vs Q E hr h => ?_)
  · obtain ⟨p, v, a, b, rfl, _⟩ := h
    rfl
  · obtain ⟨p, v, a, b, rfl, hp, hv, la, lb, k⟩ := h
    refine ⟨_, (pss_one (ps_ret (pe_op (My.op_binO O_add B_add (hr.mono (by decide)) pass0) (pv 0) (pv 1)))), ?_⟩
    obtain ⟨dx, t, ep, et⟩ := id hp
    exact ⟨_, rfl, _, rfl, p, dx, _, rfl, ep, hv.orInt, p, v, a, b, rfl, hp, hv, la, lb, k⟩
def spPneg (C : Addr) : Sp := fun vs H Q _ => ∃ (p : Addr) (a : List Int), vs = [.ref p] ∧ PolyAt C H p a ∧ a.length ≤ 400 ∧ Gives C H Q fun k => -cf a k
theorem cf_neg (a : List Int) (k : Nat) : cf (a.map fun z => -z) k = -cf a k := by
  unfold cf
  rw [List.getElem?_map]
  cases a[k]? with
  | none => rfl
  | some z => rfl
theorem ok_pneg {f : Addr} {fd : FuncData} (F : Fun K "__neg__" "Poly.__neg__" s_pneg f fd) (T : PTy P K mg C CB fB CP fP CI fI) (M_Poly : MakeR P w K mg base (L2.CX P w) 3 "Poly" C (spPoly C CB)) : FnOk P w K mg base CX0 5 f fd ["self"] (spPneg C) := by
  refine F.ok sc_pneg (fun vs H Q E h => ?_) (fun cdv A outer s H vs Q E hr h => ?_)
  · obtain ⟨p, a, rfl, _⟩ := h
    rfl
  · obtain ⟨p, a, rfl, hp, la, k⟩ := h
    refine ⟨_, (pss_cons (ps_setLc (i := 1) (own := [("term", 2)]) rfl sc_pneg.nd rfl rfl (sw_true rfl rfl rfl rfl) (pi_tup (pe_fld (pv 0) rfl)) (blkOk_by (by show blkC ["self", "terms", "term"] (defScope s_pneg) _ _ = true; decide +kernel)) (fun _ _ _ _ _ => (pg_name (i := 2) sc_pneg.nd rfl (Or.inl rfl))) (fun _ _ _ _ _ => pts_nil) (fun _ _ _ _ _ => (pe_un un_neg (pv 2))))
      (pss_one (ps_ret (My.pe_mkS M_Poly (hr.mono (by decide)) (by rfl) passL (pv 1))))), ?_⟩
    obtain ⟨dx, t, ep, et⟩ := id hp
    refine ⟨_, rfl, p, C, dx, _, .ref t, rfl, ep, T.cl, T.nT, pfs_terms _ _, t, rfl, ⟨_, SqT.of et⟩, fun D hD => ?_⟩
    refine lc_tup (K := K) (a := t) (xs := a.map V.int) (fun i Hh => Hh D = some (.lst (((a.take i).map fun z => -z).map V.int)) ∧ Same H Hh) ⟨upd_same, same_new hD⟩ (fun i Hh _ hh => SqT.of (hh.2 _ _ et)) ?_ ?_
    · rintro i x Hh hi ⟨c1, c2⟩
      obtain ⟨y, hy, rfl⟩ := at_int hi
      have il : i < a.length := (List.getElem?_eq_some_iff.mp hy).1
      refine ⟨rfl, yes_go ⟨_, rfl, _, rfl, _, c1, ?_, ?_, ?_⟩⟩
      · rw [List.length_map, List.length_map, List.length_take, sizeLine_eq]
        omega
      · rw [take1 hy, List.map_append, List.map_append]
        exact upd_same
      · intro b' o e
        rw [upd_ne (ne_of_none e hD)]
        exact c2 _ _ e
    rintro H2 ⟨c1, c2⟩
    rw [List.length_map, List.take_length] at c1
    refine ⟨_, rfl, D, _, rfl, .inr (SqL.of c1), poly_ints (a.map fun z => -z) (by rw [List.length_map]; omega) fun q' H3 po s3 => k q' _ H3 (trim_tight _) (fun j => ?_) po (c2.trans s3)⟩
    rw [cf_trim, cf_neg]
def spPsub (C : Addr) : Sp := fun vs H Q _ => ∃ (p : Addr) (v : V) (a b : List Int), vs = [.ref p, v] ∧ PolyAt C H p a ∧ NumP C H v b ∧ a.length ≤ 400 ∧ b.length ≤ 400 ∧ Gives C H Q fun k => cf a k - cf b k
def spPsub0 (C : Addr) : Sp := fun vs H Q _ => ∃ (p q : Addr) (a b : List Int), vs = [.ref p, .ref q] ∧ PolyAt C H p a ∧ PolyAt C H q b ∧ a.length ≤ 400 ∧ b.length ≤ 400 ∧ Gives C H Q fun k => cf a k - cf b k
def spPsubI (C : Addr) : Sp := fun vs H Q _ => ∃ (p : Addr) (i : Int) (a : List Int), vs = [.ref p, .int i] ∧ PolyAt C H p a ∧ a.length ≤ 400 ∧ Gives C H Q fun k => cf a k - cf [i] k
theorem neg_len {a r : List Int} (t : Tight r) (e : ∀ k, cf r k = -cf a k) : r.length ≤ a.length := len_le t fun k h => by rw [e, cf_out h]; rfl
theorem ok_psub0 {f : Addr} {fd : FuncData} (F : Fun K "__sub__" "Poly.__sub__" s_psub f fd) (T : PTy P K mg C CB fB CP fP CI fI) (O_add : CmpAt P w K mg base CX0 6 C "__add__" ["self", "other"] (spPadd C)) (O_neg : CmpAt P w K mg base CX0 5 C "__neg__" ["self"] (spPneg C)) (B_add : BinF K C (Operator.info .Add).2) : FnOk P w K mg base CX0 7 f fd ["self", "other"] (spPsub0 C) := by
  refine F.ok sc_psub (fun vs H Q E h => ?_) (fun cdv A outer s H vs Q E hr h => ?_)
  · obtain ⟨p, q, a, b, rfl, _⟩ := h
    rfl
  · obtain ⟨p, q, a, b, rfl, hp, hq, la, lb, k⟩ := h
    refine ⟨_, (pss_one (ps_ret (pe_op (My.op_binO O_add B_add (hr.mono (by decide)) pass0) (pv 0) (pe_un (My.un_negO O_neg (hr.mono (by decide)) pass0) (pv 1))))), ?_⟩
    obtain ⟨dq, tq, eq, etq⟩ := id hq
    refine ⟨_, rfl, _, rfl, q, dq, _, rfl, eq, q, b, rfl, hq, lb, fun n r H2 tr cr po s2 => ?_⟩
    have cr : ∀ k, cf r k = -cf b k := cr
    have hp2 := hp.same s2
    obtain ⟨dx, t, ep, et⟩ := id hp2
    have hv : NumP C H2 (.ref n) r := .inl ⟨n, rfl, po⟩
    exact ⟨p, dx, _, rfl, ep, hv.orInt, p, _, a, r, rfl, hp2, hv, la, Nat.le_trans (neg_len tr cr) lb, k.up s2 fun j => by rw [cr]; omega⟩
theorem ok_psub1 {f : Addr} {fd : FuncData} (F : Fun K "__sub__" "Poly.__sub__" s_psub f fd) (T : PTy P K mg C CB fB CP fP CI fI) (O_add : CmpAt P w K mg base CX0 6 C "__add__" ["self", "other"] (spPadd C)) (B_add : BinF K C (Operator.info .Add).2) : FnOk P w K mg base CX0 7 f fd ["self", "other"] (spPsubI C) := by
  refine F.ok sc_psub (fun vs H Q E h => ?_) (fun cdv A outer s H vs Q E hr h => ?_)
  · obtain ⟨p, i, a, rfl, _⟩ := h
    rfl
  · obtain ⟨p, i, a, rfl, hp, la, k⟩ := h
    refine ⟨_, (pss_one (ps_ret (pe_op (My.op_binO O_add B_add (hr.mono (by decide)) pass0) (pv 0) (pe_un un_neg (pv 1))))), ?_⟩
    obtain ⟨dx, t, ep, et⟩ := id hp
    have hv : NumP C H (.int (-i)) [-i] := .inr ⟨_, rfl, rfl⟩
    exact ⟨_, rfl, _, rfl, _, rfl, p, dx, _, rfl, ep, hv.orInt, p, _, a, _, rfl, hp, hv, la, (by show 1 ≤ 400; decide), k.up (fun _ _ e => e) fun j => by
      have := cf_neg [i] j
      have e : [i].map (fun z => -z) = [-i] := rfl
      rw [e] at this
      rw [this]
      omega⟩
theorem ok_psub {f : Addr} {fd : FuncData} (F : Fun K "__sub__" "Poly.__sub__" s_psub f fd) (T : PTy P K mg C CB fB CP fP CI fI) (O_add : CmpAt P w K mg base CX0 6 C "__add__" ["self", "other"] (spPadd C)) (O_neg : CmpAt P w K mg base CX0 5 C "__neg__" ["self"] (spPneg C)) (B_add : BinF K C (Operator.info .Add).2) : FnOk P w K mg base CX0 7 f fd ["self", "other"] (spPsub C) :=
  fn_two (ok_psub0 F T O_add O_neg B_add) (ok_psub1 F T O_add B_add) fun vs H Q E h => by
    obtain ⟨p, v, a, b, rfl, hp, hv, la, lb, k⟩ := h
    rcases hv with ⟨q, rfl, hq⟩ | ⟨i, rfl, rfl⟩
    · exact .inl ⟨p, q, a, b, rfl, hp, hq, la, lb, k⟩
    · exact .inr ⟨p, i, a, rfl, hp, la, k⟩
/-- an int - self -/
def spPrsub (C : Addr) : Sp := fun vs H Q _ => ∃ (p : Addr) (i : Int) (a : List Int), vs = [.ref p, .int i] ∧ PolyAt C H p a ∧ a.length ≤ 400 ∧ Gives C H Q fun k => cf [i] k - cf a k
theorem ok_prsub {f : Addr} {fd : FuncData} (F : Fun K "__rsub__" "Poly.__rsub__" s_prsub f fd) (T : PTy P K mg C CB fB CP fP CI fI) (O_add : CmpAt P w K mg base CX0 6 C "__add__" ["self", "other"] (spPadd C)) (O_neg : CmpAt P w K mg base CX0 5 C "__neg__" ["self"] (spPneg C)) (B_add : BinF K C (Operator.info .Add).2) : FnOk P w K mg base CX0 7 f fd ["self", "other"] (spPrsub C) := by
  refine F.ok sc_prsub (fun vs H Q E h => ?_) (fun cdv A outer s H vs Q E hr h => ?_)
  · obtain ⟨p, i, a, rfl, _⟩ := h
    rfl
  · obtain ⟨p, i, a, rfl, hp, la, k⟩ := h
    refine ⟨_, (pss_one (ps_ret (pe_op (My.op_binO O_add B_add (hr.mono (by decide)) pass0) (pe_un (My.un_negO O_neg (hr.mono (by decide)) pass0) (pv 0)) (pv 1)))), ?_⟩
    obtain ⟨dq, tq, eq, etq⟩ := id hp
    refine ⟨_, rfl, p, dq, _, rfl, eq, p, a, rfl, hp, la, fun n r H2 tr cr po s2 => ?_⟩
    have cr : ∀ k, cf r k = -cf a k := cr
    obtain ⟨dx, t, ep, et⟩ := id po
    have hv : NumP C H2 (.int i) [i] := .inr ⟨_, rfl, rfl⟩
    exact ⟨_, rfl, n, dx, _, rfl, ep, hv.orInt, n, _, r, _, rfl, po, hv, Nat.le_trans (neg_len tr cr) la, (by show 1 ≤ 400; decide), k.up s2 fun j => by rw [cr]; omega⟩
end
end My
set_option pp.maxSteps 1500
set_option pp.deepTerms.threshold 8
/-! ### the operators of Poly -/
namespace My
open PySem PySem.Spec PyProof.Rows L2
abbrev s_prodof : Stmt := topS 18
theorem sc_prodof : FnScope ["one", "other", "many", "power", "k"] ["one", "other"] (defScope s_prodof) := ⟨rfl, rfl, rfl, by decide +kernel, rfl, by decide +kernel, by decide +kernel⟩
abbrev s_pmul : Stmt := inClass (topS 26) 19
theorem sc_pmul : FnScope ["self", "other", "terms"] ["self", "other"] (defScope s_pmul) := ⟨rfl, rfl, rfl, by decide +kernel, rfl, by decide +kernel, by decide +kernel⟩
abbrev s_prmul : Stmt := inClass (topS 26) 20
theorem sc_prmul : FnScope ["self", "other"] ["self", "other"] (defScope s_prmul) := ⟨rfl, rfl, rfl, by decide +kernel, rfl, by decide +kernel, by decide +kernel⟩
section
variable {P : Program} {w : World} {K : PySem.W.Frag} {mg : Str → Option Value} {base : Heap} {C CB fB CP fP CI fI : Addr}
/-- all terms of less than B bits -/
def Bd (a : List Int) (B : Nat) : Prop := ∀ k, (cf a k).natAbs < 2 ^ B
def spProd : Sp := fun vs H Q _ => ∃ (t u : Addr) (a b : List Int), vs = [.ref t, .ref u] ∧ H t = some (.tup (a.map V.int)) ∧ H u = some (.tup (b.map V.int)) ∧ a.length ≤ 400 ∧ b.length ≤ 400 ∧ Bd a 400000 ∧ Bd b 400000 ∧
  ∀ (D : Addr) (H' : Hp), H' D = some (.lst ((L (fun p => sumN (fun k => cf a k * cf b (p - k)) (min (p + 1) a.length)) (a.length + b.length)).map V.int)) → Same H H' → Q (.ref D) H'
theorem ok_prodof {f : Addr} {fd : FuncData} (F : Fun K "product_of" "product_of" s_prodof f fd) (T : PTy P K mg C CB fB CP fP CI fI) (D_termof : DefAt P w K mg base CX0 1 "term_of" ["terms", "k"] (spTermof K)) : FnOk P w K mg base CX0 2 f fd ["one", "other"] spProd := by
  refine F.ok sc_prodof (fun vs H Q E h => ?_) (fun cdv A outer s H vs Q E hr h => ?_)
  · obtain ⟨t, u, a, b, rfl, _⟩ := h
    rfl
  · obtain ⟨t, u, a, b, rfl, ht, hu, la, lb, ba, bb, k⟩ := h
    refine ⟨_, (pss_cons (ps_set (i := 2) sc_prodof.nd rfl (Or.inl rfl) (pe_op op_add (pe_callB (My.call_lenB (K := K) rfl) (by rfl) T.z_len PySem.boot_len (pa_cons (pv 0) pa_nil)) (pe_callB call_len (by rfl) T.z_len PySem.boot_len (pa_cons (pv 1) pa_nil))))
      (pss_one (ps_ret (pe_lc (own := [("power", 3)]) rfl sc_prodof.nd (pi_range1 rfl T.z_range (pa_cons (pv 2) pa_nil)) (blkOk_by (by show blkC ["one", "other", "many", "power", "k"] (defScope s_prodof) _ _ = true; decide +kernel)) (fun _ _ _ _ _ => (pg_name (i := 3) sc_prodof.nd rfl (Or.inr rfl))) (fun _ _ _ _ _ => pts_nil) (fun _ _ _ _ _ => (pe_callB (My.cr_sumB (K := K) rfl rfl) (by rfl) T.z_sum boot_sum (pa_cons (pe_lc (own := [("k", 4)]) rfl sc_prodof.nd (pi_range1 rfl T.z_range (pa_cons (pe_callB (call_min2 rfl) (by rfl) T.z_min boot_min (pa_cons (pe_op op_add (pv 3) pe_int) (pa_cons (pe_callB (My.call_lenB (K := K) rfl) (by rfl) T.z_len PySem.boot_len (pa_cons (pv 0) pa_nil)) pa_nil))) pa_nil)) (blkOk_by (by rfl)) (fun _ _ _ _ _ => (pg_name (i := 4) sc_prodof.nd rfl (Or.inl rfl))) (fun _ _ _ _ _ => pts_nil) (fun _ _ _ _ _ => (pe_op op_mulW (pe_ix (My.ix_tupP (K := K) rfl) (pv 0) (pv 4) (fun _ _ => rfl)) (My.pe_d D_termof (hr.mono (by decide)) (by rfl) pass0 (pa_cons (pv 1) (pa_cons (pe_op op_sub (pv 3) (pv 4)) pa_nil)))))) pa_nil))))))), ?_⟩
    refine ⟨_, rfl, _, a.length, rfl, .inr ⟨_, SqT.of ht, (List.length_map ..).symm⟩, _, rfl, _, b.length, rfl, .inr ⟨_, SqT.of hu, (List.length_map ..).symm⟩, _, _, rfl, rfl, ?_⟩
    refine ⟨_, rfl, _, rfl, by omega, by omega, fun D hD => ?_⟩
    have en : (((a.length : Nat) : Int) + ((b.length : Nat) : Int)).toNat = a.length + b.length := by omega
    rw [en]
    refine lc_range (lo := 0) (n := a.length + b.length) (fun i Hh => Hh D = some (.lst ((L (fun p => sumN (fun k => cf a k * cf b (p - k)) (min (p + 1) a.length)) i).map V.int)) ∧ Same H Hh) ⟨upd_same, same_new hD⟩ ?_ ?_
    · rintro i Hh hi ⟨c1, c2⟩
      obtain ⟨M, hM, eM⟩ : ∃ M : Nat, (if ((a.length : Nat) : Int) < (0 + ((i : Nat) : Int) + 1) then ((a.length : Nat) : Int) else (0 + ((i : Nat) : Int) + 1)) = (M : Int) ∧ M = min (i + 1) a.length := by
        split
        · exact ⟨a.length, rfl, by omega⟩
        · exact ⟨i + 1, by omega, by omega⟩
      refine ⟨rfl, yes_go ⟨_, rfl, _, _, rfl, rfl, _, rfl, _, a.length, rfl, .inr ⟨_, SqT.of (c2 _ _ ht), (List.length_map ..).symm⟩, _, _, rfl, ?_⟩⟩
      rw [hM]
      refine ⟨_, rfl, by omega, by omega, fun D2 hD2 => ?_⟩
      have eM2 : ((M : Nat) : Int).toNat = M := by omega
      rw [eM2]
      refine lc_range (lo := 0) (n := M) (fun j Hj => Hj D2 = some (.lst ((L (fun k => cf a k * cf b (i - k)) j).map V.int)) ∧ Same Hh Hj) ⟨upd_same, same_new hD2⟩ ?_ ?_
      · rintro j Hj hj ⟨f1, f2⟩
        have s2 := c2.trans f2
        have ja : j < a.length := by omega
        have ea : atI (a.map V.int) (0 + ((j : Nat) : Int)) = some (.int (cf a j)) := at_of (j := j) (by omega) (by
          rw [List.getElem?_map]
          unfold cf
          rw [List.getElem?_eq_getElem ja]
          rfl)
        refine ⟨rfl, yes_go ⟨_, rfl, _, rfl, t, _, _, _, rfl, rfl, SqT.of (s2 _ _ ht), ea, _, rfl, _, rfl, _, rfl, _, _, rfl, rfl, u, b, _, rfl, s2 _ _ hu, by omega, _, _, rfl, rfl, wide_mul (a := 400000) (b := 400000) (ba j) ?_ (by decide) (by decide) (by decide), _, f1, ?_, ?_, ?_⟩⟩
        · exact bb _
        · rw [List.length_map, L_len, sizeLine_eq]
          omega
        · have e0 : (0 + ((i : Nat) : Int) - (0 + ((j : Nat) : Int))).toNat = i - j := by omega
          rw [L_succ, List.map_append, e0]
          exact upd_same
        · intro b' o e
          rw [upd_ne (ne_of_none e hD2)]
          exact f2 _ _ e
      rintro H5 ⟨f1, f2⟩
      refine ⟨D2, _, rfl, SqL.of f1, _, f2 _ _ c1, ?_, ?_, ?_⟩
      · rw [List.length_map, L_len, sizeLine_eq]
        omega
      · rw [L_succ, List.map_append, sum_L, eM]
        exact upd_same
      · intro b' o e
        rw [upd_ne (ne_of_none e hD)]
        exact f2 _ _ (c2 _ _ e)
    rintro H2 ⟨c1, c2⟩
    exact k D H2 c1 c2
def spPmul (C : Addr) : Sp := fun vs H Q _ => ∃ (p : Addr) (v : V) (a b : List Int), vs = [.ref p, v] ∧ PolyAt C H p a ∧ NumP C H v b ∧ a.length ≤ 400 ∧ b.length ≤ 400 ∧ Bd a 400000 ∧ Bd b 400000 ∧ Gives C H Q (S a b)
def spPmul0 (C : Addr) : Sp := fun vs H Q _ => ∃ (p q : Addr) (a b : List Int), vs = [.ref p, .ref q] ∧ PolyAt C H p a ∧ PolyAt C H q b ∧ a.length ≤ 400 ∧ b.length ≤ 400 ∧ Bd a 400000 ∧ Bd b 400000 ∧ Gives C H Q (S a b)
def spPmulI (C : Addr) : Sp := fun vs H Q _ => ∃ (p : Addr) (i : Int) (a : List Int), vs = [.ref p, .int i] ∧ PolyAt C H p a ∧ a.length ≤ 400 ∧ Bd a 400000 ∧ Bd [i] 400000 ∧ Gives C H Q (S a [i])
theorem ok_pmul0 {f : Addr} {fd : FuncData} (F : Fun K "__mul__" "Poly.__mul__" s_pmul f fd) (T : PTy P K mg C CB fB CP fP CI fI) (D_whole0 : DefAt P w K mg base CX0 1 "is_whole" ["value"] (spWhole0 C)) (D_prodof : DefAt P w K mg base CX0 2 "product_of" ["one", "other"] spProd)
    (M_Poly : MakeR P w K mg base (L2.CX P w) 3 "Poly" C (spPoly C CB)) : FnOk P w K mg base CX0 5 f fd ["self", "other"] (spPmul0 C) := by
  refine F.ok sc_pmul (fun vs H Q E h => ?_) (fun cdv A outer s H vs Q E hr h => ?_)
  · obtain ⟨p, q, a, b, rfl, _⟩ := h
    rfl
  · obtain ⟨p, q, a, b, rfl, hp, hq, la, lb, ba, bb, k⟩ := h
    refine ⟨_, (pss_cons (ps_if (pt_val (My.pe_d D_whole0 (hr.mono (by decide)) (by rfl) pass0 (pa_cons (pv 1) pa_nil))) (pss_one ps_never) pss_nil)
      (pss_cons (ps_if (pt_not (pt_val (pe_callB call_isi (by rfl) T.z_isinstance boot_isinstance (pa_cons (pv 1) (pa_cons (pe_glob (v := .ref C) (by rfl) T.gP rfl) pa_nil))))) (pss_one ps_never) pss_nil)
      (pss_cons (ps_set (i := 2) sc_pmul.nd rfl (Or.inl rfl) (My.pe_d D_prodof (hr.mono (by decide)) (by rfl) pass0 (pa_cons (pe_fld (pv 0) rfl) (pa_cons (pe_fld (pv 1) rfl) pa_nil))))
      (pss_one (ps_ret (My.pe_mkS M_Poly (hr.mono (by decide)) (by rfl) passL (pv 2))))))), ?_⟩
    obtain ⟨dx, t, ep, et⟩ := id hp
    obtain ⟨dq, tq, eq, etq⟩ := id hq
    refine ⟨_, rfl, .ref q, rfl, hq.tyl, _, rfl, iteF ?_⟩
    refine ⟨_, rfl, _, _, _, _, true, rfl, .own _, T.ty hq, T.me, _, rfl, iteF ?_⟩
    refine ⟨_, rfl, p, C, dx, _, .ref t, rfl, ep, T.cl, T.nT, pfs_terms _ _, _, rfl, q, C, dq, _, .ref tq, rfl, eq, T.cl, T.nT, pfs_terms _ _, t, tq, a, b, rfl, et, etq, la, lb, ba, bb, fun D H2 hD s2 => ?_⟩
    refine ⟨_, rfl, D, _, rfl, .inr (SqL.of hD), poly_ints _ (by rw [L_len]; omega) fun q' H3 po s3 => k q' _ H3 (trim_tight _) (fun j => ?_) po (s2.trans s3)⟩
    rw [cf_trim, cf_mul]
theorem ok_pmul1 {f : Addr} {fd : FuncData} (F : Fun K "__mul__" "Poly.__mul__" s_pmul f fd) (T : PTy P K mg C CB fB CP fP CI fI) (D_whole0 : DefAt P w K mg base CX0 1 "is_whole" ["value"] (spWhole0 C)) (D_prodof : DefAt P w K mg base CX0 2 "product_of" ["one", "other"] spProd)
    (M_Poly : MakeR P w K mg base (L2.CX P w) 3 "Poly" C (spPoly C CB)) (O_mul : CmpAt P w K mg base CX0 5 C "__mul__" ["self", "other"] (spPmul0 C)) (B_mul : BinF K C (Operator.info .Mult).2) : FnOk P w K mg base CX0 6 f fd ["self", "other"] (spPmulI C) := by
  refine F.ok sc_pmul (fun vs H Q E h => ?_) (fun cdv A outer s H vs Q E hr h => ?_)
  · obtain ⟨p, i, a, rfl, _⟩ := h
    rfl
  · obtain ⟨p, i, a, rfl, hp, la, ba, bi, k⟩ := h
    refine ⟨_, (pss_cons (ps_if (pt_val (My.pe_d D_whole0 (hr.mono (by decide)) (by rfl) pass0 (pa_cons (pv 1) pa_nil))) (pss_one (ps_ret (pe_op (My.op_binO O_mul B_mul (hr.mono (by decide)) pass0) (pv 0) (My.pe_mkR M_Poly (hr.mono (by decide)) (by rfl) passL (pa_cons (pv 1) pa_nil))))) pss_nil)
      (pss_cons (ps_if (pt_not (pt_val (pe_callB call_isi (by rfl) T.z_isinstance boot_isinstance (pa_cons (pv 1) (pa_cons (pe_glob (v := .ref C) (by rfl) T.gP rfl) pa_nil))))) (pss_one ps_never) pss_nil)
      (pss_cons (ps_set (i := 2) sc_pmul.nd rfl (Or.inl rfl) (My.pe_d D_prodof (hr.mono (by decide)) (by rfl) pass0 (pa_cons (pe_fld (pv 0) rfl) (pa_cons (pe_fld (pv 1) rfl) pa_nil))))
      (pss_one (ps_ret (My.pe_mkS M_Poly (hr.mono (by decide)) (by rfl) passL (pv 2))))))), ?_⟩
    refine ⟨_, rfl, .int i, rfl, TyL.int C H i, _, rfl, iteT ?_⟩
    refine ⟨_, rfl, _, rfl, poly_ints [i] (by show 1 ≤ 1000; decide) fun q H2 po s2 => ?_⟩
    have hp2 := hp.same s2
    obtain ⟨dx, t, ep, et⟩ := id hp2
    obtain ⟨dq, tq, eq, etq⟩ := id po
    exact ⟨p, dx, _, rfl, ep, .inl ⟨q, dq, _, rfl, eq⟩, p, q, a, _, rfl, hp2, po, la, Nat.le_trans (trim_le [i]) (by show 1 ≤ 400; decide), ba, (fun j => by rw [cf_trim]; exact bi j), k.up s2 fun j => S_ext (fun _ => rfl) (fun _ => cf_trim ..) j⟩
theorem ok_pmul {f : Addr} {fd : FuncData} (F : Fun K "__mul__" "Poly.__mul__" s_pmul f fd) (T : PTy P K mg C CB fB CP fP CI fI) (D_whole0 : DefAt P w K mg base CX0 1 "is_whole" ["value"] (spWhole0 C)) (D_prodof : DefAt P w K mg base CX0 2 "product_of" ["one", "other"] spProd)
    (M_Poly : MakeR P w K mg base (L2.CX P w) 3 "Poly" C (spPoly C CB)) (O_mul : CmpAt P w K mg base CX0 5 C "__mul__" ["self", "other"] (spPmul0 C)) (B_mul : BinF K C (Operator.info .Mult).2) : FnOk P w K mg base CX0 6 f fd ["self", "other"] (spPmul C) :=
  fn_two (fn_up (ok_pmul0 F T D_whole0 D_prodof M_Poly) (by decide)) (ok_pmul1 F T D_whole0 D_prodof M_Poly O_mul B_mul) fun vs H Q E h => by
    obtain ⟨p, v, a, b, rfl, hp, hv, la, lb, ba, bb, k⟩ := h
    rcases hv with ⟨q, rfl, hq⟩ | ⟨i, rfl, rfl⟩
    · exact .inl ⟨p, q, a, b, rfl, hp, hq, la, lb, ba, bb, k⟩
    · exact .inr ⟨p, i, a, rfl, hp, la, ba, bb, k⟩
theorem ok_prmul {f : Addr} {fd : FuncData} (F : Fun K "__rmul__" "Poly.__rmul__" s_prmul f fd) (T : PTy P K mg C CB fB CP fP CI fI) (O_mul : CmpAt P w K mg base CX0 6 C "__mul__" ["self", "other"] (spPmul C)) (B_mul : BinF K C (Operator.info .Mult).2) : FnOk P w K mg base CX0 7 f fd ["self", "other"] (spPmul C) := by
  refine F.ok sc_prmul (fun vs H Q E h => ?_) (fun cdv A outer s H vs Q E hr h => ?_)
  · obtain ⟨p, v, a, b, rfl, _⟩ := h
    rfl
  · obtain ⟨p, v, a, b, rfl, hp, hv, k⟩ := h
    refine ⟨_, (pss_one (ps_ret (pe_op (My.op_binO O_mul B_mul (hr.mono (by decide)) pass0) (pv 0) (pv 1)))), ?_⟩
    obtain ⟨dx, t, ep, et⟩ := id hp
    exact ⟨_, rfl, _, rfl, p, dx, _, rfl, ep, hv.orInt, p, v, a, b, rfl, hp, hv, k⟩
end
end My
set_option pp.maxSteps 1500
set_option pp.deepTerms.threshold 8
/-! ### step and along -/
namespace My
open PySem PySem.Spec PyProof.Rows L2
abbrev s_palong : Stmt := inClass (topS 26) 4
theorem sc_palong : FnScope ["self", "slope", "more", "found", "term"] ["self", "slope", "more"] (defScope s_palong) := ⟨rfl, rfl, rfl, by decide +kernel, rfl, by decide +kernel, by decide +kernel⟩
abbrev s_pstep : Stmt := inClass (topS 26) 3
theorem sc_pstep : FnScope ["self"] ["self"] (defScope s_pstep) := ⟨rfl, rfl, rfl, by decide +kernel, rfl, by decide +kernel, by decide +kernel⟩
section
variable {P : Program} {w : World} {K : PySem.W.Frag} {mg : Str → Option Value} {base : Heap} {C CB fB CP fP CI fI : Addr}
def spPalong (C : Addr) : Sp := fun vs H Q _ => ∃ (p : Addr) (v u : Int) (a : List Int), vs = [.ref p, .int v, .int u] ∧ PolyAt C H p a ∧ a.length ≤ 20 ∧ Bd a 200 ∧ u.natAbs < 2 ^ 100 ∧ v.natAbs < 2 ^ 100 ∧ Gives C H Q (mv u v a)
theorem Bd.mono {a : List Int} {A B : Nat} (h : Bd a A) (le : A ≤ B) : Bd a B := fun k => Nat.lt_of_lt_of_le (h k) (Nat.pow_le_pow_right (by decide) le)
theorem bd_of {a : List Int} {B : Nat} (h : ∀ z ∈ a, z.natAbs < 2 ^ B) : Bd a B := fun k => by
  unfold cf
  cases e : a[k]? with
  | none => exact Nat.two_pow_pos _
  | some z => exact h z (List.mem_of_getElem? e)
theorem ok_palong {f : Addr} {fd : FuncData} (F : Fun K "along" "Poly.along" s_palong f fd) (T : PTy P K mg C CB fB CP fP CI fI) (M_Poly : MakeR P w K mg base (L2.CX P w) 3 "Poly" C (spPoly C CB))
    (O_add : CmpAt P w K mg base CX0 6 C "__add__" ["self", "other"] (spPadd C)) (O_mul : CmpAt P w K mg base CX0 6 C "__mul__" ["self", "other"] (spPmul C)) (B_add : BinF K C (Operator.info .Add).2) (B_mul : BinF K C (Operator.info .Mult).2) : FnOk P w K mg base CX0 7 f fd ["self", "slope", "more"] (spPalong C) := by
  refine F.ok sc_palong (fun vs H Q E h => ?_) (fun cdv A outer s H vs Q E hr h => ?_)
  · obtain ⟨p, v, u, a, rfl, _⟩ := h
    rfl
  · obtain ⟨p, v, u, a, rfl, hp, la, ba, bu, bv, k⟩ := h
    refine ⟨_, (pss_cons (ps_set (i := 3) sc_palong.nd rfl (Or.inl rfl) (My.pe_mkR0 M_Poly (hr.mono (by decide)) (by rfl) passL))
      (pss_cons (ps_for PassesOwn.never rfl (pi_tup (My.pe_revT (pe_fld (pv 0) rfl))) (pg_name (i := 4) sc_palong.nd rfl (Or.inl rfl)) (pss_one (ps_set (i := 3) sc_palong.nd rfl (Or.inl rfl) (pe_op (My.op_binO O_add B_add (hr.mono (by decide)) pass0) (pe_op (My.op_binO O_mul B_mul (hr.mono (by decide)) pass0) (pv 3) (My.pe_mkR M_Poly (hr.mono (by decide)) (by rfl) passL (pa_cons (pv 2) (pa_cons (pv 1) pa_nil)))) (pv 4)))))
      (pss_one (ps_ret (pv 3))))), ?_⟩
    refine poly_ints [] (by decide) fun f0 H1 po1 s1 => ?_
    have hp1 := hp.same s1
    obtain ⟨dx, t, ep, et⟩ := id hp1
    refine ⟨_, rfl, p, C, dx, _, .ref t, rfl, ep, T.cl, T.nT, pfs_terms _ _, t, _, rfl, SqT.of et, fun q hq => ?_⟩
    have er : (a.map V.int).reverse = a.reverse.map V.int := (List.map_reverse ..).symm
    rw [er]
    have sq := same_new (o := .tup (a.reverse.map V.int)) hq
    refine ⟨q, rfl, ⟨_, SqT.of upd_same⟩, for_tup (K := K) (a := q) (xs := a.reverse.map V.int) (fun i σ H' => ∃ fp r v4, σ = [some (.ref p), some (.int v), some (.int u), some (.ref fp), v4] ∧ PolyAt C H' fp r ∧ Tight r ∧ (∀ k, cf r k = (a.reverse.take i).foldl (stp u v) (fun _ => 0) k) ∧ Same (upd H1 q (.tup (a.reverse.map V.int))) H') ⟨f0, _, none, rfl, po1.same sq, trim_tight _, (fun k => by rw [cf_trim]; rfl), fun _ _ e => e⟩ (fun i σ H' _ hh => by obtain ⟨_, _, _, _, _, _, _, s5⟩ := hh; exact SqT.of (s5 _ _ upd_same)) ?_ ?_⟩
    · rintro i x σ H' hi ⟨fp, r, v4, rfl, pr, tr, cr, sr⟩
      obtain ⟨y, hy, rfl⟩ := at_int hi
      have il : i < a.length := by
        have := (List.getElem?_eq_some_iff.mp hy).1
        rw [List.length_reverse] at this
        exact this
      have cr2 : ∀ k, cf r k = mv u v (a.reverse.take i).reverse k := fun k => by rw [cr, fold_mv']
      have len : (a.reverse.take i).reverse.length = i := by rw [List.length_reverse, List.length_take, List.length_reverse]; omega
      have bt : ∀ z ∈ (a.reverse.take i).reverse, z.natAbs < 2 ^ 200 := fun z hz => by
        have h1 := List.mem_reverse.mp (List.mem_of_mem_take (List.mem_reverse.mp hz))
        obtain ⟨j, hj⟩ := List.getElem?_of_mem h1
        have := ba j
        unfold cf at this
        rw [hj] at this
        exact this
      have rl : r.length ≤ i := len_le tr fun k hk => by rw [cr2, mv_out u v _ k (by omega)]
      have rb : Bd r 400000 := fun k => by
        rw [cr2]
        refine Nat.lt_of_lt_of_le (mv_bd bu bv _ (bd_of bt) k) (Nat.pow_le_pow_right (by decide) ?_)
        rw [len]
        omega
      refine ⟨_, rfl, _, rfl, _, rfl, poly_ints [u, v] (by show 2 ≤ 1000; decide) fun g H2 pg s2 => ?_⟩
      have pr2 := pr.same s2
      obtain ⟨df, tf, ef, etf⟩ := id pr2
      obtain ⟨dg, tg, eg, etg⟩ := id pg
      have bg : Bd (trim [u, v]) 400000 := fun k => by
        rw [cf_trim]
        exact (bd_of (B := 100) (fun z hz => by
          simp only [List.mem_cons, List.mem_nil_iff, or_false] at hz
          rcases hz with rfl | rfl
          · exact bu
          · exact bv)).mono (by decide) k
      refine ⟨fp, df, _, rfl, ef, .inl ⟨g, dg, _, rfl, eg⟩, fp, .ref g, r, trim [u, v], rfl, pr2, .inl ⟨g, rfl, pg⟩, by omega, Nat.le_trans (trim_le _) (by show 2 ≤ 400; decide), rb, bg, fun h1 r1 H3 t1 c1 p1 s3 => ?_⟩
      obtain ⟨dh, th, eh, eth⟩ := id p1
      have c1' : ∀ k, cf r1 k = u * cf r k + (if k = 0 then 0 else v * cf r (k - 1)) := fun k => by
        rw [c1, S_ext (c := r) (d := [u, v]) (fun _ => rfl) (fun _ => cf_trim ..), S_lin]
      have l1 : r1.length ≤ i + 1 := len_le t1 fun k hk => by
        rw [c1', cf_out (by omega), if_neg (by omega), cf_out (by omega)]
        omega
      refine ⟨_, rfl, h1, dh, _, rfl, eh, .inr ⟨y, rfl⟩, h1, .int y, r1, [y], rfl, p1, .inr ⟨y, rfl, rfl⟩, by omega, (by show 1 ≤ 400; decide), fun h2 r2 H4 t2 c2 p2 s4 => ?_⟩
      refine ⟨h2, r2, some (.int y), rfl, p2, t2, fun k => ?_, sr.trans (s2.trans (s3.trans s4))⟩
      have c2 : ∀ k, cf r2 k = cf r1 k + cf [y] k := c2
      rw [c2, c1', take1 hy, List.foldl_append]
      show _ = u * ((a.reverse.take i).foldl (stp u v) (fun _ => 0)) k + (if k = 0 then 0 else v * ((a.reverse.take i).foldl (stp u v) (fun _ => 0)) (k - 1)) + cf [y] k
      rw [← cr, ← cr]
    · rintro σ H' ⟨fp, r, v4, rfl, pr, tr, cr, sr⟩
      refine ⟨_, rfl, k fp r H' tr (fun j => ?_) pr (s1.trans (sq.trans sr))⟩
      rw [cr, List.length_map, List.take_length, fold_mv]
def spPstep (C : Addr) : Sp := fun vs H Q _ => ∃ (p : Addr) (a : List Int), vs = [.ref p] ∧ PolyAt C H p a ∧ a.length ≤ 20 ∧ Bd a 200 ∧ Gives C H Q fun k => mv 1 1 a k - cf a k
theorem ok_pstep {f : Addr} {fd : FuncData} (F : Fun K "step" "Poly.step" s_pstep f fd) (T : PTy P K mg C CB fB CP fP CI fI) (MT_along : MethAt P w K mg base CX0 7 C "along" ["self", "slope", "more"] (spPalong C))
    (O_sub : CmpAt P w K mg base CX0 7 C "__sub__" ["self", "other"] (spPsub C)) (B_sub : BinF K C (Operator.info .Sub).2) : FnOk P w K mg base CX0 8 f fd ["self"] (spPstep C) := by
  refine F.ok sc_pstep (fun vs H Q E h => ?_) (fun cdv A outer s H vs Q E hr h => ?_)
  · obtain ⟨p, a, rfl, _⟩ := h
    rfl
  · obtain ⟨p, a, rfl, hp, la, ba, k⟩ := h
    refine ⟨_, (pss_one (ps_ret (pe_op (My.op_binO O_sub B_sub (hr.mono (by decide)) pass0) (My.pe_mt T.cl MT_along (hr.mono (by decide)) pass0 (pv 0) (pa_cons pe_int (pa_cons pe_int pa_nil))) (pv 0)))), ?_⟩
    obtain ⟨dx, t, ep, et⟩ := id hp
    refine ⟨_, rfl, p, dx, _, rfl, ep, rfl, p, 1, 1, a, rfl, hp, la, ba, by decide, by decide, fun g r H2 tr cr pr s2 => ?_⟩
    obtain ⟨dg, tg, eg, etg⟩ := id pr
    have hp2 := hp.same s2
    have cr : ∀ k, cf r k = mv 1 1 a k := cr
    have lr : r.length ≤ a.length := len_le tr fun k hk => by rw [cr, mv_out 1 1 a k hk]
    have hv : NumP C H2 (.ref p) a := .inl ⟨p, rfl, hp2⟩
    exact ⟨_, rfl, g, dg, _, rfl, eg, hv.orInt, g, .ref p, r, a, rfl, pr, hv, by omega, by omega, k.up s2 fun j => by rw [cr]⟩
end
end My
set_option pp.maxSteps 1500
set_option pp.deepTerms.threshold 8
/-! ### the law's sums and products -/
namespace My
open PySem PySem.Spec PyProof.Rows L2
abbrev s_lsum : Stmt := topS 33
theorem sc_lsum : FnScope ["_law_one", "_law_other", "_law_sign", "_law_many", "_law_first", "_law_second", "_law_a", "_law_b"] ["_law_one", "_law_other", "_law_sign"] (defScope s_lsum) := ⟨rfl, rfl, rfl, by decide +kernel, rfl, by decide +kernel, by decide +kernel⟩
/-- enumerate of a list or a tuple -/
def iEnumS (K : PySem.W.Frag) (ta : TA) : TI := fun σ H R => iEnum K ta σ H R ∨ iEnumT K ta σ H R
theorem pi_enumS {X : Cx} {e : Expr} {ta : TA} {p pos tpos : Pos} {elts : List Expr} {kk : Nat} (hg : Gl X "enumerate") (hm : X.mg "enumerate" = none) (ha : PA X [e] ta) (hs : starEach [e] X.env = [(false, eval e X.env)] := by rfl) :
    PI X (.Tuple elts kk tpos) (.Call (.Name "enumerate" p) [e] [] pos) (iEnumS X.K ta) :=
  ⟨fun pins s σ H R I h => h.elim (fun h => (pi_enum hg hm ha hs).run pins s σ H R I h) (fun h => (pi_enumT hg hm ha hs).run pins s σ H R I h)⟩
theorem walk_enumT {K : PySem.W.Frag} {a : Addr} {xs : List V} : Walk (IteT K a) xs.length (fun H => SqT K H a xs) (YPair (fun i => some (.int (i : Nat))) (fun i => xs[i]?)) := by
  refine ⟨fun i _ hi q => ⟨xs, xs[i], q, by simp [hi]⟩, fun _ q => ⟨xs, q, rfl⟩, fun i H v H' _ q y => ?_⟩
  obtain ⟨T, x, h1, h2, h3, h4⟩ := y
  exact ⟨T, .int (i : Nat), x, h1, h2, h3, rfl, h4 xs q⟩
/-- at p: a list or a tuple of these ints -/
def IntsAt (H : Hp) (p : Addr) (a : List Int) : Prop := H p = some (.lst (a.map V.int)) ∨ H p = some (.tup (a.map V.int))
theorem IntsAt.same {H H' : Hp} {p : Addr} {a : List Int} (h : IntsAt H p a) (s : Same H H') : IntsAt H' p a := h.imp (s _ _) (s _ _)
theorem IntsAt.len {K : PySem.W.Frag} {H : Hp} {p : Addr} {a : List Int} (h : IntsAt H p a) : LenV K (.ref p) H a.length := by
  rcases h with h | h
  · exact .inl ⟨_, SqL.of h, (List.length_map ..).symm⟩
  · exact .inr ⟨_, SqT.of h, (List.length_map ..).symm⟩
theorem IntsAt.sq {K : PySem.W.Frag} {H : Hp} {p : Addr} {a : List Int} (h : IntsAt H p a) : SqL K H p (a.map V.int) ∨ SqT K H p (a.map V.int) := h.imp SqL.of SqT.of
/-- a tuple of ints without a 0 at the end, told by its coefficients -/
def GivesT (H : Hp) (Q : VK) (f : Nat → Int) : Prop := ∀ (r : Addr) (ts : List Int) (H' : Hp), Tight ts → (∀ k, cf ts k = f k) → H' r = some (.tup (ts.map V.int)) → Same H H' → Q (.ref r) H'
def spLsum : Sp := fun vs H Q _ => ∃ (p q : Addr) (s : Int) (a b : List Int), vs = [.ref p, .ref q, .int s] ∧ IntsAt H p a ∧ IntsAt H q b ∧ a.length ≤ 400 ∧ b.length ≤ 400 ∧ -1 ≤ s ∧ s ≤ 1 ∧ GivesT H Q fun k => cf a k + s * cf b k
section
variable {P : Program} {w : World} {K : PySem.W.Frag} {mg : Str → Option Value} {base : Heap} {C CB fB CP fP CI fI : Addr}
theorem rep_zero (n : Nat) : (List.replicate n [V.int 0]).flatten = (List.replicate n (0 : Int)).map V.int := by
  induction n with
  | zero => rfl
  | succ n ih =>
    rw [List.replicate_succ, List.flatten_cons, ih, List.replicate_succ]
    rfl
theorem cf_pad (a : List Int) (n k : Nat) : cf (a ++ List.replicate n 0) k = cf a k := by
  unfold cf
  by_cases h : k < a.length
  · rw [List.getElem?_append_left h]
  · rw [List.getElem?_append_right (by omega), List.getElem?_eq_none (l := a) (by omega)]
    by_cases h2 : k - a.length < n
    · rw [List.getElem?_replicate, if_pos h2]
      rfl
    · rw [List.getElem?_replicate, if_neg h2]
theorem ok_lsum {f : Addr} {fd : FuncData} (F : Fun K "_law_sum" "_law_sum" s_lsum f fd) (T : PTy P K mg C CB fB CP fP CI fI) (D_lcut : DefAt P w K mg base CX0 1 "_law_cut" ["_law_terms_here"] (spCut K)) : FnOk P w K mg base CX0 2 f fd ["_law_one", "_law_other", "_law_sign"] spLsum := by
  refine F.ok sc_lsum (fun vs H Q E h => ?_) (fun cdv A outer s H vs Q E hr h => ?_)
  · obtain ⟨p, q, s, a, b, rfl, _⟩ := h
    rfl
  · obtain ⟨p, q, sg, a, b, rfl, hp, hq, la, lb, s0, s1, k⟩ := h
    refine ⟨_, (pss_cons (ps_set (i := 3) sc_lsum.nd rfl (Or.inl rfl) (pe_callB (call_max2 rfl) (by rfl) T.z_max boot_max (pa_cons (pe_callB call_len (by rfl) T.z_len PySem.boot_len (pa_cons (pv 0) pa_nil)) (pa_cons (pe_callB call_len (by rfl) T.z_len PySem.boot_len (pa_cons (pv 1) pa_nil)) pa_nil))))
      (pss_cons (ps_set (i := 4) sc_lsum.nd rfl (Or.inl rfl) (pe_op op_cat (pe_callTy call_list_of (by rfl) T.z_list boot_list (pa_cons (pv 0) pa_nil)) (pe_op op_rep (pe_lst (pa_cons pe_int pa_nil)) (pe_op op_sub (pv 3) (pe_callB call_len (by rfl) T.z_len PySem.boot_len (pa_cons (pv 0) pa_nil))))))
      (pss_cons (ps_set (i := 5) sc_lsum.nd rfl (Or.inl rfl) (pe_op op_cat (pe_callTy call_list_of (by rfl) T.z_list boot_list (pa_cons (pv 1) pa_nil)) (pe_op op_rep (pe_lst (pa_cons pe_int pa_nil)) (pe_op op_sub (pv 3) (pe_callB call_len (by rfl) T.z_len PySem.boot_len (pa_cons (pv 1) pa_nil))))))
      (pss_one (ps_ret (My.pe_d D_lcut (hr.mono (by decide)) (by rfl) pass0 (pa_cons (pe_lc (own := [("_law_a", 6), ("_law_b", 7)]) rfl sc_lsum.nd (pi_zip (by rfl) T.z_zip (pa_cons (pv 4) (pa_cons (pv 5) pa_nil))) (blkOk_by (by show blkC ["_law_one", "_law_other", "_law_sign", "_law_many", "_law_first", "_law_second", "_law_a", "_law_b"] (defScope s_lsum) _ _ = true; decide +kernel)) (fun _ _ _ _ _ => (My.pg_tupB (K := K) (n := 2) rfl rfl (pgs_cons (pg_name (i := 6) sc_lsum.nd rfl (Or.inl rfl)) (pgs_cons (pg_name (i := 7) sc_lsum.nd rfl (Or.inl rfl)) pgs_nil)))) (fun _ _ _ _ _ => pts_nil) (fun _ _ _ _ _ => (pe_op op_add (pv 6) (pe_op op_mul (pv 2) (pv 7))))) pa_nil))))))), ?_⟩
    obtain ⟨N, hN⟩ : ∃ N : Nat, (if ((b.length : Nat) : Int) > ((a.length : Nat) : Int) then ((b.length : Nat) : Int) else ((a.length : Nat) : Int)) = (N : Int) ∧ a.length ≤ N ∧ b.length ≤ N ∧ N ≤ 400 := by
      split
      · exact ⟨b.length, rfl, by omega, by omega, by omega⟩
      · exact ⟨a.length, rfl, by omega, by omega, by omega⟩
    refine ⟨_, rfl, _, a.length, rfl, hp.len, _, rfl, _, b.length, rfl, hq.len, _, _, rfl, ?_⟩
    rw [hN.1]
    refine ⟨_, rfl, p, _, rfl, hp.sq, fun l1 h1 => ⟨(by show 1 ≤ sizeLine; decide), fun l2 h2 => ⟨_, rfl, _, rfl, _, a.length, rfl, ?_⟩⟩⟩
    have t1 := (same_new (o := .lst (a.map V.int)) h1).trans (same_new (o := .lst [.int 0]) h2)
    refine ⟨(hp.same t1).len, _, _, rfl, rfl, ?_⟩
    have L1 : upd (upd H l1 (.lst (a.map V.int))) l2 (.lst [.int 0]) l1 = some (.lst (a.map V.int)) := same_new h2 _ _ upd_same
    have L2 : upd (upd H l1 (.lst (a.map V.int))) l2 (.lst [.int 0]) l2 = some (.lst [.int 0]) := upd_same
    generalize upd (upd H l1 (.lst (a.map V.int))) l2 (.lst [.int 0]) = H2 at t1 L1 L2
    refine ⟨l2, _, _, rfl, rfl, L2, by omega, by omega, ?_, fun l3 h3 => ?_⟩
    · show 1 * _ ≤ sizeLine
      rw [sizeLine_eq]
      omega
    have ez : ([V.int 0] : List V).length = 1 := rfl
    refine ⟨l1, l3, _, _, rfl, rfl, same_new h3 _ _ L1, upd_same, ?_, fun l4 h4 => ?_⟩
    · rw [rep_zero, List.length_map, List.length_map, List.length_replicate, sizeLine_eq]
      omega
    have ea : a.map V.int ++ (List.replicate (((N : Nat) : Int) - ((a.length : Nat) : Int)).toNat [V.int 0]).flatten = (a ++ List.replicate (N - a.length) 0).map V.int := by
      rw [rep_zero, List.map_append]
      congr 3
      omega
    rw [ea]
    have t2 := t1.trans ((same_new (o := .lst (List.replicate (((N : Nat) : Int) - ((a.length : Nat) : Int)).toNat [V.int 0]).flatten) h3).trans (same_new (o := .lst ((a ++ List.replicate (N - a.length) 0).map V.int)) h4))
    have F4 : upd (upd H2 l3 (.lst (List.replicate (((N : Nat) : Int) - ((a.length : Nat) : Int)).toNat [V.int 0]).flatten)) l4 (.lst ((a ++ List.replicate (N - a.length) 0).map V.int)) l4 = some (.lst ((a ++ List.replicate (N - a.length) 0).map V.int)) := upd_same
    generalize upd (upd H2 l3 (.lst (List.replicate (((N : Nat) : Int) - ((a.length : Nat) : Int)).toNat [V.int 0]).flatten)) l4 (.lst ((a ++ List.replicate (N - a.length) 0).map V.int)) = H4 at t2 F4
    have hq4 := hq.same t2
    refine ⟨_, rfl, q, _, rfl, hq4.sq, fun l5 h5 => ⟨(by show 1 ≤ sizeLine; decide), fun l6 h6 => ⟨_, rfl, _, rfl, _, b.length, rfl, ?_⟩⟩⟩
    have t3 := (same_new (o := .lst (b.map V.int)) h5).trans (same_new (o := .lst [.int 0]) h6)
    refine ⟨(hq4.same t3).len, _, _, rfl, rfl, ?_⟩
    have L5 : upd (upd H4 l5 (.lst (b.map V.int))) l6 (.lst [.int 0]) l5 = some (.lst (b.map V.int)) := same_new h6 _ _ upd_same
    have L6 : upd (upd H4 l5 (.lst (b.map V.int))) l6 (.lst [.int 0]) l6 = some (.lst [.int 0]) := upd_same
    generalize upd (upd H4 l5 (.lst (b.map V.int))) l6 (.lst [.int 0]) = H6 at t3 L5 L6
    refine ⟨l6, _, _, rfl, rfl, L6, by omega, by omega, ?_, fun l7 h7 => ?_⟩
    · show 1 * _ ≤ sizeLine
      rw [sizeLine_eq]
      omega
    refine ⟨l5, l7, _, _, rfl, rfl, same_new h7 _ _ L5, upd_same, ?_, fun l8 h8 => ?_⟩
    · rw [rep_zero, List.length_map, List.length_map, List.length_replicate, sizeLine_eq]
      omega
    have eb : b.map V.int ++ (List.replicate (((N : Nat) : Int) - ((b.length : Nat) : Int)).toNat [V.int 0]).flatten = (b ++ List.replicate (N - b.length) 0).map V.int := by
      rw [rep_zero, List.map_append]
      congr 3
      omega
    rw [eb]
    have t4 := t3.trans ((same_new (o := .lst (List.replicate (((N : Nat) : Int) - ((b.length : Nat) : Int)).toNat [V.int 0]).flatten) h7).trans (same_new (o := .lst ((b ++ List.replicate (N - b.length) 0).map V.int)) h8))
    have F8 : upd (upd H6 l7 (.lst (List.replicate (((N : Nat) : Int) - ((b.length : Nat) : Int)).toNat [V.int 0]).flatten)) l8 (.lst ((b ++ List.replicate (N - b.length) 0).map V.int)) l8 = some (.lst ((b ++ List.replicate (N - b.length) 0).map V.int)) := upd_same
    generalize upd (upd H6 l7 (.lst (List.replicate (((N : Nat) : Int) - ((b.length : Nat) : Int)).toNat [V.int 0]).flatten)) l8 (.lst ((b ++ List.replicate (N - b.length) 0).map V.int)) = H8 at t4 F8
    have G4 := t4 _ _ F4
    have tt := t2.trans t4
    have lena : ((a ++ List.replicate (N - a.length) 0).map V.int).length = N := by
      rw [List.length_map, List.length_append, List.length_replicate]
      omega
    have lenb : ((b ++ List.replicate (N - b.length) 0).map V.int).length = N := by
      rw [List.length_map, List.length_append, List.length_replicate]
      omega
    refine ⟨_, rfl, _, rfl, l4, l8, _, _, rfl, SqL.of G4, SqL.of F8, fun D hD => ?_⟩
    refine lc_it (walk_zip (n := N) (by rw [lena, lenb]; omega)) (fun i Hh => Hh D = some (.lst ((L (fun k => cf a k + sg * cf b k) i).map V.int)) ∧ Same H8 Hh) ⟨upd_same, same_new hD⟩ (fun i Hh _ hh => ⟨SqL.of (hh.2 _ _ G4), SqL.of (hh.2 _ _ F8)⟩) ?_ ?_
    · rintro i x Hh H' hi ⟨c1, c2⟩ ⟨T1, x1, y1, rfl, hT, rfl, hx, hy⟩
      obtain ⟨x2, hx2, rfl⟩ := at_int hx
      obtain ⟨y2, hy2, rfl⟩ := at_int hy
      have ex : x2 = cf a i := by rw [← cf_pad a (N - a.length)]; unfold cf; rw [hx2]; rfl
      have ey : y2 = cf b i := by rw [← cf_pad b (N - b.length)]; unfold cf; rw [hy2]; rfl
      subst ex ey
      have nT := same_new (o := .tup [.int (cf a i), .int (cf b i)]) hT
      refine ⟨T1, _, rfl, SqT.of upd_same, rfl, _, _, rfl, _, _, rfl, rfl, rfl, yes_go ⟨_, rfl, _, rfl, _, rfl, _, _, rfl, rfl, .inl ⟨by omega, by omega⟩, _, _, rfl, rfl, _, nT _ _ c1, ?_, ?_, ?_⟩⟩
      · rw [List.length_map, L_len, sizeLine_eq]
        omega
      · rw [L_succ, List.map_append]
        exact upd_same
      · intro b' o e
        rw [upd_ne (ne_of_none e hD)]
        exact nT _ _ (c2 _ _ e)
    rintro H9 ⟨c1, c2⟩
    refine ⟨D, _, rfl, c1, by rw [L_len]; omega, fun r H10 hr10 s10 => k r _ H10 (trim_tight _) (fun j => ?_) hr10 (tt.trans (c2.trans s10))⟩
    rw [cf_trim, cf_L]
    split
    · rfl
    · show 0 = cf a j + sg * cf b j
      rw [cf_out (ts := a) (by omega), cf_out (ts := b) (by omega), Int.mul_zero]
      rfl
end
end My
set_option pp.maxSteps 1500
set_option pp.deepTerms.threshold 8
/-! ### the law's products -/
namespace My
open PySem PySem.Spec PyProof.Rows L2
abbrev s_lprod : Stmt := topS 34
theorem sc_lprod : FnScope ["_law_one", "_law_other", "_law_found", "_law_k", "_law_a", "_law_j", "_law_b"] ["_law_one", "_law_other"] (defScope s_lprod) := ⟨rfl, rfl, rfl, by decide +kernel, rfl, by decide +kernel, by decide +kernel⟩
theorem L_ext {f g : Nat → Int} (n : Nat) (h : ∀ p, p < n → f p = g p) : L f n = L g n := by
  unfold L
  exact List.map_congr_left fun p hp => h p (List.mem_range.mp hp)
theorem L_at (f : Nat → Int) {n q : Nat} (h : q < n) : (L f n)[q]? = some (f q) := by
  unfold L
  rw [List.getElem?_map, List.getElem?_range h]
  rfl
theorem L_set (f : Nat → Int) (n q : Nat) (v : Int) : (L f n).set q v = L (fun p => if p = q then v else f p) n := by
  refine List.ext_getElem? fun i => ?_
  rw [List.getElem?_set, L_len]
  by_cases h : i < n
  · rw [L_at f h, L_at _ h]
    by_cases c : q = i
    · rw [if_pos c, if_pos (by omega), if_pos c.symm]
    · rw [if_neg c, if_neg (Ne.symm c)]
  · rw [List.getElem?_eq_none (l := L (fun p => if p = q then v else f p) n) (by rw [L_len]; omega)]
    by_cases c : q = i
    · rw [if_pos c, if_neg (by omega)]
    · rw [if_neg c, List.getElem?_eq_none (by rw [L_len]; omega)]
/-- the rows above k, and what of row k stands for the first j -/
def rowsF (a b : List Int) (k j : Nat) (p : Nat) : Int := sumN (fun i => if i ≤ p then cf a i * cf b (p - i) else 0) k + (if k ≤ p ∧ p < k + j then cf a k * cf b (p - k) else 0)
theorem rows_0 (a b : List Int) (k p : Nat) : rowsF a b k 0 p = sumN (fun i => if i ≤ p then cf a i * cf b (p - i) else 0) k := by
  unfold rowsF
  rw [if_neg (by omega), Int.add_zero]
theorem rows_next (a b : List Int) (k p : Nat) : rowsF a b k b.length p = rowsF a b (k + 1) 0 p := by
  rw [rows_0]
  unfold rowsF
  show _ = sumN _ k + (if k ≤ p then cf a k * cf b (p - k) else 0)
  congr 1
  by_cases c : k ≤ p
  · rw [if_pos c]
    by_cases d : p < k + b.length
    · rw [if_pos ⟨c, d⟩]
    · rw [if_neg (by omega), cf_out (ts := b) (by omega), Int.mul_zero]
  · rw [if_neg (by omega), if_neg c]
theorem rows_step (a b : List Int) (k j p : Nat) : rowsF a b k (j + 1) p = if p = k + j then rowsF a b k j (k + j) + cf a k * cf b j else rowsF a b k j p := by
  unfold rowsF
  by_cases c : p = k + j
  · subst c
    rw [if_pos rfl, if_pos (by omega), if_neg (c := k ≤ k + j ∧ k + j < k + j) (by omega), Nat.add_sub_cancel_left]
    omega
  · rw [if_neg c]
    congr 1
    by_cases d : k ≤ p ∧ p < k + j
    · rw [if_pos d, if_pos (by omega)]
    · rw [if_neg d, if_neg (by omega)]
def spLprod : Sp := fun vs H Q _ => ∃ (p q : Addr) (a b : List Int), vs = [.ref p, .ref q] ∧ IntsAt H p a ∧ H q = some (.lst (b.map V.int)) ∧ a.length ≤ 400 ∧ b.length ≤ 400 ∧ Bd a 400000 ∧ Bd b 400000 ∧ GivesT H Q (S a b)
section
variable {P : Program} {w : World} {K : PySem.W.Frag} {mg : Str → Option Value} {base : Heap} {C CB fB CP fP CI fI : Addr}
theorem ok_lprod {f : Addr} {fd : FuncData} (F : Fun K "_law_product" "_law_product" s_lprod f fd) (T : PTy P K mg C CB fB CP fP CI fI) (D_lcut : DefAt P w K mg base CX0 1 "_law_cut" ["_law_terms_here"] (spCut K)) : FnOk P w K mg base CX0 2 f fd ["_law_one", "_law_other"] spLprod := by
  refine F.ok sc_lprod (fun vs H Q E h => ?_) (fun cdv A outer s H vs Q E hr h => ?_)
  · obtain ⟨p, q, a, b, rfl, _⟩ := h
    rfl
  · obtain ⟨p, q, a, b, rfl, hp, hq, la, lb, ba, bb, k⟩ := h
    refine ⟨_, (pss_cons (ps_set (i := 2) sc_lprod.nd rfl (Or.inl rfl) (pe_op op_rep (pe_lst (pa_cons pe_int pa_nil)) (pe_op op_add (pe_callB call_len (by rfl) T.z_len PySem.boot_len (pa_cons (pv 0) pa_nil)) (pe_callB call_len (by rfl) T.z_len PySem.boot_len (pa_cons (pv 1) pa_nil)))))
      (pss_cons (ps_for PassesOwn.never rfl (My.pi_enumS (by rfl) T.z_enumerate (pa_cons (pv 0) pa_nil)) (pg_tup rfl (pgs_cons (pg_name (i := 3) sc_lprod.nd rfl (Or.inl rfl)) (pgs_cons (pg_name (i := 4) sc_lprod.nd rfl (Or.inl rfl)) pgs_nil))) (pss_one (ps_for PassesOwn.never rfl (My.pi_enumS (by rfl) T.z_enumerate (pa_cons (pv 1) pa_nil)) (pg_tup rfl (pgs_cons (pg_name (i := 5) sc_lprod.nd rfl (Or.inl rfl)) (pgs_cons (pg_name (i := 6) sc_lprod.nd rfl (Or.inl rfl)) pgs_nil))) (pss_one (ps_asg (pe_op op_add (pe_ix ix_list (pv 2) (pe_op op_add (pv 3) (pv 5)) (fun _ _ => rfl)) (pe_op op_mulW (pv 4) (pv 6))) (pg_sub (pv 2) (pe_op op_add (pv 3) (pv 5)) set_list))))))
      (pss_one (ps_ret (My.pe_d D_lcut (hr.mono (by decide)) (by rfl) pass0 (pa_cons (pv 2) pa_nil)))))), ?_⟩
    refine ⟨(by show 1 ≤ sizeLine; decide), fun l1 h1 => ⟨_, rfl, _, a.length, rfl, ?_⟩⟩
    have t1 := same_new (o := .lst [.int 0]) h1
    refine ⟨(hp.same t1).len, _, rfl, _, b.length, rfl, .inl ⟨_, SqL.of (t1 _ _ hq), (List.length_map ..).symm⟩, _, _, rfl, rfl, l1, _, _, rfl, rfl, upd_same, by omega, by omega, ?_, fun D hD => ?_⟩
    · show 1 * _ ≤ sizeLine
      rw [sizeLine_eq]
      omega
    have e0 : (List.replicate (((a.length : Nat) : Int) + ((b.length : Nat) : Int)).toNat [V.int 0]).flatten = (L (rowsF a b 0 0) (a.length + b.length)).map V.int := by
      rw [rep_zero]
      congr 1
      have e1 : (((a.length : Nat) : Int) + ((b.length : Nat) : Int)).toNat = a.length + b.length := by omega
      rw [e1]
      refine List.ext_getElem? fun i => ?_
      rw [List.getElem?_replicate]
      by_cases h : i < a.length + b.length
      · rw [if_pos h, L_at _ h, rows_0]
        rfl
      · rw [if_neg h, List.getElem?_eq_none (by rw [L_len]; omega)]
    rw [e0]
    have t2 := t1.trans (same_new (o := .lst ((L (rowsF a b 0 0) (a.length + b.length)).map V.int)) hD)
    have FD : upd (upd H l1 (.lst [.int 0])) D (.lst ((L (rowsF a b 0 0) (a.length + b.length)).map V.int)) D = some (.lst ((L (rowsF a b 0 0) (a.length + b.length)).map V.int)) := upd_same
    have hDH : H D = none := t1.free hD
    generalize upd (upd H l1 (.lst [.int 0])) D (.lst ((L (rowsF a b 0 0) (a.length + b.length)).map V.int)) = H2 at t2 FD
    have nqD : q ≠ D := ne_of_none hq hDH
    have npD : p ≠ D := by
      rcases hp with e | e
      · exact ne_of_none e hDH
      · exact ne_of_none e hDH
    let Iv : Nat → L2.St → Hp → Prop := fun i σ Hh => ∃ v3 v4 v5 v6, σ = [some (.ref p), some (.ref q), some (.ref D), v3, v4, v5, v6] ∧ Hh D = some (.lst ((L (rowsF a b i 0) (a.length + b.length)).map V.int)) ∧ Same H Hh
    rcases hp with hp | hp
    · refine .inl ⟨_, rfl, p, _, rfl, SqL.of (t2 _ _ hp), for_it walk_enum Iv ⟨none, none, none, none, rfl, FD, t2⟩ (fun i σ Hh _ hh => by obtain ⟨_, _, _, _, _, _, s5⟩ := hh; exact SqL.of (s5 _ _ hp)) ?_ ?_⟩
      · rintro i x σ Hh H' hi ⟨v3, v4, v5, v6, rfl, c1, c2⟩ ⟨T1, x1, y1, rfl, hT, rfl, hx, hy⟩
        cases hx
        obtain ⟨y2, hy2, rfl⟩ := at_int hy
        have ey : y2 = cf a i := by unfold cf; rw [hy2]; rfl
        subst ey
        have ia : i < a.length := (List.getElem?_eq_some_iff.mp hy2).1
        have nT := same_new (o := .tup [.int ((i : Nat) : Int), .int (cf a i)]) hT
        refine ⟨T1, _, rfl, SqT.of upd_same, rfl, _, _, rfl, _, _, rfl, rfl, ?_⟩
        have c1' := nT _ _ c1
        have c2' := c2.trans nT
        generalize upd Hh T1 (.tup [.int ((i : Nat) : Int), .int (cf a i)]) = H5 at c1' c2'
        have hq5 := c2' _ _ hq
        refine .inl ⟨_, rfl, q, _, rfl, SqL.of hq5, for_it walk_enum (fun j σ Hj => ∃ v5 v6, σ = [some (.ref p), some (.ref q), some (.ref D), some (.int ((i : Nat) : Int)), some (.int (cf a i)), v5, v6] ∧ Hj D = some (.lst ((L (rowsF a b i j) (a.length + b.length)).map V.int)) ∧ Same H Hj) ⟨_, _, rfl, c1', c2'⟩ (fun j σ Hj _ hh => by obtain ⟨_, _, _, _, s5⟩ := hh; exact SqL.of (s5 _ _ hq)) ?_ ?_⟩
        · rintro j x σ Hj H' hj ⟨w5, w6, rfl, d1, d2⟩ ⟨T2, x1, y1, rfl, hT2, rfl, hx, hy⟩
          cases hx
          obtain ⟨y2, hy2, rfl⟩ := at_int hy
          have ey : y2 = cf b j := by unfold cf; rw [hy2]; rfl
          subst ey
          have jb : j < b.length := (List.getElem?_eq_some_iff.mp hy2).1
          have nT2 := same_new (o := .tup [.int ((j : Nat) : Int), .int (cf b j)]) hT2
          have at1 : atI ((L (rowsF a b i j) (a.length + b.length)).map V.int) (((i : Nat) : Int) + ((j : Nat) : Int)) = some (.int (rowsF a b i j (i + j))) := at_of (j := i + j) (by omega) (by rw [List.getElem?_map, L_at _ (by omega)]; rfl)
          refine ⟨T2, _, rfl, SqT.of upd_same, rfl, _, _, rfl, _, _, rfl, rfl, ?_⟩
          refine ⟨_, rfl, _, rfl, _, rfl, _, _, rfl, rfl, D, _, _, _, rfl, rfl, SqL.of (nT2 _ _ d1), at1, _, rfl, _, rfl, _, _, rfl, rfl, wide_mul (a := 400000) (b := 400000) (ba i) (bb j) (by decide) (by decide) (by decide), _, _, rfl, rfl, ?_⟩
          refine ⟨_, rfl, _, rfl, _, rfl, _, _, rfl, rfl, D, _, _, i + j, rfl, rfl, nT2 _ _ d1, ix_at (by omega) (by rw [List.length_map, L_len]; omega), ?_⟩
          refine ⟨_, _, rfl, ?_, ?_⟩
          · rw [upd_same]
            congr 2
            show ((L (rowsF a b i j) (a.length + b.length)).map V.int).set (i + j) (V.int (rowsF a b i j (i + j) + cf a i * cf b j)) = _
            rw [← List.map_set, L_set]
            congr 1
            exact L_ext _ fun p _ => (rows_step a b i j p).symm
          · intro b' o e
            rw [upd_ne (ne_of_none e hDH)]
            exact nT2 _ _ (d2 _ _ e)
        · rintro σ Hj ⟨w5, w6, rfl, d1, d2⟩
          refine ⟨_, _, _, _, rfl, ?_, d2⟩
          rw [d1, List.length_map, L_ext _ fun p _ => rows_next a b i p]
      · rintro σ Hh ⟨v3, v4, v5, v6, rfl, c1, c2⟩
        rw [List.length_map] at c1
        refine ⟨_, rfl, D, _, rfl, c1, by rw [L_len]; omega, fun r H10 hr10 s10 => k r _ H10 (trim_tight _) (fun j => ?_) hr10 (c2.trans s10)⟩
        rw [cf_trim, cf_L]
        split
        · rw [rows_0, S_rows]
        · exact (S_out (by omega)).symm
    · refine .inr ⟨_, rfl, p, _, rfl, SqT.of (t2 _ _ hp), for_it walk_enumT Iv ⟨none, none, none, none, rfl, FD, t2⟩ (fun i σ Hh _ hh => by obtain ⟨_, _, _, _, _, _, s5⟩ := hh; exact SqT.of (s5 _ _ hp)) ?_ ?_⟩
      · rintro i x σ Hh H' hi ⟨v3, v4, v5, v6, rfl, c1, c2⟩ ⟨T1, x1, y1, rfl, hT, rfl, hx, hy⟩
        cases hx
        obtain ⟨y2, hy2, rfl⟩ := at_int hy
        have ey : y2 = cf a i := by unfold cf; rw [hy2]; rfl
        subst ey
        have ia : i < a.length := (List.getElem?_eq_some_iff.mp hy2).1
        have nT := same_new (o := .tup [.int ((i : Nat) : Int), .int (cf a i)]) hT
        refine ⟨T1, _, rfl, SqT.of upd_same, rfl, _, _, rfl, _, _, rfl, rfl, ?_⟩
        have c1' := nT _ _ c1
        have c2' := c2.trans nT
        generalize upd Hh T1 (.tup [.int ((i : Nat) : Int), .int (cf a i)]) = H5 at c1' c2'
        have hq5 := c2' _ _ hq
        refine .inl ⟨_, rfl, q, _, rfl, SqL.of hq5, for_it walk_enum (fun j σ Hj => ∃ v5 v6, σ = [some (.ref p), some (.ref q), some (.ref D), some (.int ((i : Nat) : Int)), some (.int (cf a i)), v5, v6] ∧ Hj D = some (.lst ((L (rowsF a b i j) (a.length + b.length)).map V.int)) ∧ Same H Hj) ⟨_, _, rfl, c1', c2'⟩ (fun j σ Hj _ hh => by obtain ⟨_, _, _, _, s5⟩ := hh; exact SqL.of (s5 _ _ hq)) ?_ ?_⟩
        · rintro j x σ Hj H' hj ⟨w5, w6, rfl, d1, d2⟩ ⟨T2, x1, y1, rfl, hT2, rfl, hx, hy⟩
          cases hx
          obtain ⟨y2, hy2, rfl⟩ := at_int hy
          have ey : y2 = cf b j := by unfold cf; rw [hy2]; rfl
          subst ey
          have jb : j < b.length := (List.getElem?_eq_some_iff.mp hy2).1
          have nT2 := same_new (o := .tup [.int ((j : Nat) : Int), .int (cf b j)]) hT2
          have at1 : atI ((L (rowsF a b i j) (a.length + b.length)).map V.int) (((i : Nat) : Int) + ((j : Nat) : Int)) = some (.int (rowsF a b i j (i + j))) := at_of (j := i + j) (by omega) (by rw [List.getElem?_map, L_at _ (by omega)]; rfl)
          refine ⟨T2, _, rfl, SqT.of upd_same, rfl, _, _, rfl, _, _, rfl, rfl, ?_⟩
          refine ⟨_, rfl, _, rfl, _, rfl, _, _, rfl, rfl, D, _, _, _, rfl, rfl, SqL.of (nT2 _ _ d1), at1, _, rfl, _, rfl, _, _, rfl, rfl, wide_mul (a := 400000) (b := 400000) (ba i) (bb j) (by decide) (by decide) (by decide), _, _, rfl, rfl, ?_⟩
          refine ⟨_, rfl, _, rfl, _, rfl, _, _, rfl, rfl, D, _, _, i + j, rfl, rfl, nT2 _ _ d1, ix_at (by omega) (by rw [List.length_map, L_len]; omega), ?_⟩
          refine ⟨_, _, rfl, ?_, ?_⟩
          · rw [upd_same]
            congr 2
            show ((L (rowsF a b i j) (a.length + b.length)).map V.int).set (i + j) (V.int (rowsF a b i j (i + j) + cf a i * cf b j)) = _
            rw [← List.map_set, L_set]
            congr 1
            exact L_ext _ fun p _ => (rows_step a b i j p).symm
          · intro b' o e
            rw [upd_ne (ne_of_none e hDH)]
            exact nT2 _ _ (d2 _ _ e)
        · rintro σ Hj ⟨w5, w6, rfl, d1, d2⟩
          refine ⟨_, _, _, _, rfl, ?_, d2⟩
          rw [d1, List.length_map, L_ext _ fun p _ => rows_next a b i p]
      · rintro σ Hh ⟨v3, v4, v5, v6, rfl, c1, c2⟩
        rw [List.length_map] at c1
        refine ⟨_, rfl, D, _, rfl, c1, by rw [L_len]; omega, fun r H10 hr10 s10 => k r _ H10 (trim_tight _) (fun j => ?_) hr10 (c2.trans s10)⟩
        rw [cf_trim, cf_L]
        split
        · rw [rows_0, S_rows]
        · exact (S_out (by omega)).symm
end
end My
namespace My
open PySem PySem.Spec PyProof.Rows L2
theorem int_show {K : PySem.W.Frag} {H : Hp} {i : Int} (h : i.natAbs.log2 < 1920) : Dr K H (.int i) (.int i) ∧ (PyData.int i).showable = true ∧ (PyData.int i).depth ≤ 60 ∧ (PyData.int i).shown.length ≤ sizeLine := by
  refine ⟨.inl (.int i), ?_, Nat.zero_le _, ?_⟩
  · show decide (i.natAbs.log2 < 1920) = true
    exact decide_eq_true h
  · have := num_len h
    show ((toString i : String) : Str).length ≤ sizeLine
    rw [sizeLine_eq]
    omega
theorem shaped_tupI (ns : List Int) : SeqAt.shaped (.tuple (ns.map PyData.int)) = true := by
  show (PyData.canLayAll0 (ns.map PyData.int) && decide (PyData.depthAll (ns.map PyData.int) + 1 ≤ 64)) = true
  rw [lay_ints, dep_ints]
  rfl
theorem bl_len (b : Bool) : (PyData.bool b).shown.length ≤ 5 := by cases b <;> decide +kernel
theorem dep_2 (us ts : List Int) (n : Int) (b : Bool) : PyData.depthAll [PyData.tuple (us.map PyData.int), .int n, .bool b, .list (ts.map PyData.int)] ≤ 10 := by
  show max (PyData.depthAll (us.map PyData.int) + 1) (max 0 (max 0 (max (PyData.depthAll (ts.map PyData.int) + 1) 0))) ≤ 10
  rw [dep_ints, dep_ints]
  decide
/-- [tuple, int, bool, list] shown -/
theorem seen_show {K : PySem.W.Frag} {H : Hp} {l t q : Addr} (us ts : List Int) (n : Int) (b : Bool) (hu : ∀ z ∈ us, z.natAbs.log2 < 1920) (ht : ∀ z ∈ ts, z.natAbs.log2 < 1920) (hn : n.natAbs.log2 < 1920) (lu : us.length ≤ 100) (lt : ts.length ≤ 100) (h : H l = some (.lst [.ref t, .int n, .bl b, .ref q])) (h1 : H t = some (.tup (us.map V.int))) (h2 : H q = some (.lst (ts.map V.int))) :
    Dr K H (.ref l) (.list [.tuple (us.map .int), .int n, .bool b, .list (ts.map .int)]) ∧ (PyData.list [.tuple (us.map .int), .int n, .bool b, .list (ts.map .int)]).showable = true ∧ (PyData.list [.tuple (us.map .int), .int n, .bool b, .list (ts.map .int)]).depth ≤ 60 ∧ (PyData.list [.tuple (us.map .int), .int n, .bool b, .list (ts.map .int)]).shown.length ≤ sizeLine := by
  refine ⟨.inl (.lst (SqL.of h) (.cons (.tup (SqT.of h1) (dp_ints us)) (.cons (.int n) (.cons (.bl b) (.cons (.lst (SqL.of h2) (dp_ints ts)) .nil))))), ?_, ?_, ?_⟩
  · show (PyData.showableAll (us.map PyData.int) && (decide (n.natAbs.log2 < 1920) && (true && (PyData.showableAll (ts.map PyData.int) && true)))) = true
    rw [showable_ints us hu, showable_ints ts ht, decide_eq_true hn]
    rfl
  · have := dep_2 us ts n b
    show _ + 1 ≤ 60
    omega
  · have a1 := tupleText_len_le (PyData.shownAll (us.map PyData.int))
    obtain ⟨a2, a3⟩ := shown_sum us hu
    have b1 := listText_len_le (PyData.shownAll (ts.map PyData.int))
    obtain ⟨b2, b3⟩ := shown_sum ts ht
    have c1 := num_len hn
    have d1 := bl_len b
    have e1 := listText_len_le [(PyData.tuple (us.map PyData.int)).shown, (PyData.int n).shown, (PyData.bool b).shown, (PyData.list (ts.map PyData.int)).shown]
    show (listText [(PyData.tuple (us.map PyData.int)).shown, (PyData.int n).shown, (PyData.bool b).shown, (PyData.list (ts.map PyData.int)).shown]).length ≤ sizeLine
    have e2 : ([(PyData.tuple (us.map PyData.int)).shown, (PyData.int n).shown, (PyData.bool b).shown, (PyData.list (ts.map PyData.int)).shown].map (·.length)).sum = (tupleText (PyData.shownAll (us.map PyData.int))).length + (((toString n : String) : Str).length + ((PyData.bool b).shown.length + ((listText (PyData.shownAll (ts.map PyData.int))).length + 0))) := rfl
    have e3 : [(PyData.tuple (us.map PyData.int)).shown, (PyData.int n).shown, (PyData.bool b).shown, (PyData.list (ts.map PyData.int)).shown].length = 4 := rfl
    rw [e2, e3] at e1
    rw [sizeLine_eq]
    omega
end My
namespace My
open PySem PySem.Spec PyProof.Rows L2
/-- lists of ints as tuples of data -/
def tupsD (uss : List (List Int)) : List PyData := uss.map fun us => .tuple (us.map .int)
/-- tuples of ints at these addresses -/
inductive TupsAt (H : Hp) : List V → List (List Int) → Prop where
  | nil : TupsAt H [] []
  | cons {t : Addr} {us : List Int} {xs : List V} {uss : List (List Int)} (h : H t = some (.tup (us.map V.int))) (r : TupsAt H xs uss) : TupsAt H (.ref t :: xs) (us :: uss)
theorem TupsAt.dp {K : PySem.W.Frag} {H : Hp} {xs : List V} {uss : List (List Int)} (h : TupsAt H xs uss) : DpAll K H xs (tupsD uss) := by
  induction h with
  | nil => exact .nil
  | cons h r ih => exact .cons (.tup (SqT.of h) (dp_ints _)) ih
theorem TupsAt.same {H H' : Hp} {xs : List V} {uss : List (List Int)} (h : TupsAt H xs uss) (s : Same H H') : TupsAt H' xs uss := by
  induction h with
  | nil => exact .nil
  | cons h r ih => exact .cons (s _ _ h) ih
theorem tups_lay : ∀ uss : List (List Int), PyData.depthAll (tupsD uss) ≤ 1
  | [] => Nat.zero_le _
  | us :: uss => by
    show max (PyData.depthAll (us.map PyData.int) + 1) (PyData.depthAll (tupsD uss)) ≤ 1
    rw [dep_ints]
    have := tups_lay uss
    omega
theorem tups_showable : ∀ uss : List (List Int), (∀ us ∈ uss, ∀ z ∈ us, z.natAbs.log2 < 1920) → PyData.showableAll (tupsD uss) = true
  | [], _ => rfl
  | us :: uss, h => by
    show (PyData.showableAll (us.map PyData.int) && PyData.showableAll (tupsD uss)) = true
    rw [showable_ints us (h us List.mem_cons_self), tups_showable uss fun u hu => h u (List.mem_cons_of_mem _ hu)]
    rfl
theorem tups_sum : ∀ uss : List (List Int), (∀ us ∈ uss, us.length ≤ 400 ∧ ∀ z ∈ us, z.natAbs.log2 < 1920) → ((PyData.shownAll (tupsD uss)).map (·.length)).sum ≤ 800000 * uss.length ∧ (PyData.shownAll (tupsD uss)).length = uss.length
  | [], _ => ⟨Nat.le_refl _, rfl⟩
  | us :: uss, h => by
    obtain ⟨h1, h2⟩ := tups_sum uss fun u hu => h u (List.mem_cons_of_mem _ hu)
    obtain ⟨l, z⟩ := h us List.mem_cons_self
    have a1 := tupleText_len_le (PyData.shownAll (us.map PyData.int))
    obtain ⟨a2, a3⟩ := shown_sum us z
    refine ⟨?_, ?_⟩
    · show (tupleText (PyData.shownAll (us.map PyData.int))).length + ((PyData.shownAll (tupsD uss)).map (·.length)).sum ≤ 800000 * (uss.length + 1)
      omega
    · show (PyData.shownAll (tupsD uss)).length + 1 = uss.length + 1
      omega
/-- a list of tuples of ints shown -/
theorem tups_show {K : PySem.W.Frag} {H : Hp} {l : Addr} {xs : List V} (uss : List (List Int)) (h : H l = some (.lst xs)) (at_ : TupsAt H xs uss) (hz : ∀ us ∈ uss, us.length ≤ 400 ∧ ∀ z ∈ us, z.natAbs.log2 < 1920) (hl : uss.length ≤ 10) :
    Dr K H (.ref l) (.list (tupsD uss)) ∧ (PyData.list (tupsD uss)).showable = true ∧ (PyData.list (tupsD uss)).depth ≤ 60 ∧ (PyData.list (tupsD uss)).shown.length ≤ sizeLine := by
  refine ⟨.inl (.lst (SqL.of h) at_.dp), tups_showable uss fun u hu => (hz u hu).2, ?_, ?_⟩
  · have := tups_lay uss
    show PyData.depthAll (tupsD uss) + 1 ≤ 60
    omega
  · have h1 := listText_len_le (PyData.shownAll (tupsD uss))
    obtain ⟨h2, h3⟩ := tups_sum uss hz
    show (listText (PyData.shownAll (tupsD uss))).length ≤ sizeLine
    rw [sizeLine_eq]
    omega
end My
set_option pp.maxSteps 1500
set_option pp.deepTerms.threshold 8
/-! ### two polys -/
namespace My
open PySem PySem.Spec PyProof.Rows L2
abbrev s_twoR : Stmt := topS 35
theorem sc_twoR : FnScope ["_law_one", "_law_other", "_law_mine", "_law_yours", "_law_given", "_law_due"] ["_law_one", "_law_other"] (defScope s_twoR) := ⟨rfl, rfl, rfl, by decide +kernel, rfl, by decide +kernel, by decide +kernel⟩
theorem bd_log {a : List Int} {B : Nat} (h : Bd a B) (h0 : 0 < B := by decide) (hB : B ≤ 1900 := by decide) : ∀ z ∈ a, z.natAbs.log2 < 1920 := fun z hz => by
  obtain ⟨j, hj⟩ := List.getElem?_of_mem hz
  have := h j
  unfold cf at this
  rw [hj] at this
  exact Nat.lt_of_lt_of_le (PySem.Flt.log2_lt_of (k := B) h0 this) (by omega)
theorem bd_add {a b c : List Int} {A : Nat} (ha : Bd a A) (hb : Bd b A) (h : ∀ k, cf c k = cf a k + cf b k) : Bd c (A + 1) := fun k => by
  rw [h, Nat.pow_succ]
  have := ha k
  have := hb k
  omega
theorem bd_sub {a b c : List Int} {A : Nat} (ha : Bd a A) (hb : Bd b A) (h : ∀ k, cf c k = cf a k - cf b k) : Bd c (A + 1) := fun k => by
  rw [h, Nat.pow_succ]
  have := ha k
  have := hb k
  omega
theorem bd_neg {a c : List Int} {A : Nat} (ha : Bd a A) (h : ∀ k, cf c k = -cf a k) : Bd c A := fun k => by
  rw [h, Int.natAbs_neg]
  exact ha k
theorem bd_mul {a b c : List Int} {A B : Nat} (ha : Bd a A) (hb : Bd b B) (l : a.length + b.length ≤ 1000) (h : ∀ k, cf c k = S a b k) : Bd c (A + B + 10) := fun k => by
  rw [h]
  exact S_bd ha hb l k
theorem bd_same {a c : List Int} {A : Nat} (ha : Bd a A) (h : ∀ k, cf c k = cf a k) : Bd c A := fun k => by
  rw [h]
  exact ha k
def spTwoR : Sp := fun vs H Q _ => ∃ (l1 l2 : Addr) (a b : List Int), vs = [.ref l1, .ref l2] ∧ H l1 = some (.lst (a.map V.int)) ∧ H l2 = some (.lst (b.map V.int)) ∧ a.length ≤ 6 ∧ b.length ≤ 6 ∧ (∀ z ∈ a, Tm z) ∧ (∀ z ∈ b, Tm z) ∧ ∀ H', Same H H' → Q (.bl true) H'
theorem add_len {a b c : List Int} {n : Nat} (t : Tight c) (ha : a.length ≤ n) (hb : b.length ≤ n) (h : ∀ k, cf c k = cf a k + cf b k) : c.length ≤ n := len_le t fun k hk => by
  rw [h, cf_out (by omega), cf_out (by omega)]
  rfl
theorem sub_len {a b c : List Int} {n : Nat} (t : Tight c) (ha : a.length ≤ n) (hb : b.length ≤ n) (h : ∀ k, cf c k = cf a k - cf b k) : c.length ≤ n := len_le t fun k hk => by
  rw [h, cf_out (by omega), cf_out (by omega)]
  rfl
theorem mul_len {a b c : List Int} {n : Nat} (t : Tight c) (l : a.length + b.length ≤ n) (h : ∀ k, cf c k = S a b k) : c.length ≤ n := len_le t fun k hk => by
  rw [h, S_out (by omega)]
section
variable {P : Program} {w : World} {K : PySem.W.Frag} {mg : Str → Option Value} {base : Heap} {C CB fB CP fP CI fI : Addr}
theorem tyI {C : Addr} (Hz : Hp) (us : List Int) : ∀ v ∈ us.map V.int, TyL C Hz v := fun v hv => by
  obtain ⟨z, rfl, _⟩ := mem_ints hv
  exact TyL.int C Hz z
theorem noI (us : List Int) (i : Nat) (v : V) (hi : (us.map V.int)[i]? = some v) (hv : isI v = false) : False := by
  obtain ⟨y, _, rfl⟩ := at_int hi
  cases hv
theorem v_inj {us zs : List Int} (e : us.map V.int = zs.map V.int) : us = zs := (List.map_inj_right fun a b z => V.int.inj z).mp e
theorem ok_twoR {f : Addr} {fd : FuncData} (F : Fun K "_law_two_right" "_law_two_right" s_twoR f fd) (T : PTy P K mg C CB fB CP fP CI fI) (D_lcut : DefAt P w K mg base CX0 1 "_law_cut" ["_law_terms_here"] (spCut K))
    (D_lsum : DefAt P w K mg base CX0 2 "_law_sum" ["_law_one", "_law_other", "_law_sign"] spLsum) (D_lprod : DefAt P w K mg base CX0 2 "_law_product" ["_law_one", "_law_other"] spLprod)
    (K_of : ClsAt P w K mg base (L2.CX P w) 5 C "of" (spPof K C CB))
    (O_add : CmpAt P w K mg base CX0 6 C "__add__" ["self", "other"] (spPadd C)) (O_sub : CmpAt P w K mg base CX0 7 C "__sub__" ["self", "other"] (spPsub C)) (O_mul : CmpAt P w K mg base CX0 6 C "__mul__" ["self", "other"] (spPmul C)) (O_neg : CmpAt P w K mg base CX0 5 C "__neg__" ["self"] (spPneg C))
    (B_add : BinF K C (Operator.info .Add).2) (B_sub : BinF K C (Operator.info .Sub).2) (B_mul : BinF K C (Operator.info .Mult).2) :
    FnG P w K mg base CX0 9 f fd ["_law_one", "_law_other"] spTwoR := by
  refine okG F sc_twoR (fun vs H Q E h => ?_) (fun cdv A outer s H vs Q E hf hgd hr h => ?_)
  · obtain ⟨l1, l2, a, b, rfl, _⟩ := h
    rfl
  · obtain ⟨l1, l2, a, b, rfl, h1, h2, la, lb, ta, tb, k⟩ := h
    refine ⟨_, (pss_cons (ps_par (i := 2) (j := 3) (by rfl) sc_twoR.nd rfl rfl (by decide) rfl rfl (pa_cons (My.pe_cm K_of (hr.mono (by decide)) passL (pe_glob (v := .ref C) (by rfl) T.gP rfl) (pa_cons (pv 0) pa_nil)) (pa_cons (My.pe_cm K_of (hr.mono (by decide)) passL (pe_glob (v := .ref C) (by rfl) T.gP rfl) (pa_cons (pv 1) pa_nil)) pa_nil)) (by rfl))
      (pss_cons (ps_set (i := 4) sc_twoR.nd rfl (Or.inl rfl) (pe_lst (pa_cons (pe_fld (pe_op (My.op_binO O_add B_add (hr.mono (by decide)) pass0) (pv 2) (pv 3)) rfl) (pa_cons (pe_fld (pe_op (My.op_binO O_sub B_sub (hr.mono (by decide)) pass0) (pv 2) (pv 3)) rfl) (pa_cons (pe_fld (pe_op (My.op_binO O_mul B_mul (hr.mono (by decide)) pass0) (pv 2) (pv 3)) rfl) (pa_cons (pe_fld (pe_un (My.un_negO O_neg (hr.mono (by decide)) pass0) (pv 2)) rfl) pa_nil))))))
      (pss_cons (ps_set (i := 5) sc_twoR.nd rfl (Or.inl rfl) (pe_lst (pa_cons (My.pe_d D_lsum (hr.mono (by decide)) (by rfl) pass0 (pa_cons (pv 0) (pa_cons (pv 1) (pa_cons pe_int pa_nil)))) (pa_cons (My.pe_d D_lsum (hr.mono (by decide)) (by rfl) pass0 (pa_cons (pv 0) (pa_cons (pv 1) (pa_cons (pe_un un_neg pe_int) pa_nil)))) (pa_cons (My.pe_d D_lprod (hr.mono (by decide)) (by rfl) pass0 (pa_cons (pv 0) (pa_cons (pv 1) pa_nil))) (pa_cons (My.pe_d D_lsum (hr.mono (by decide)) (by rfl) pass0 (pa_cons (pe_lst pa_nil) (pa_cons (pv 0) (pa_cons (pe_un un_neg pe_int) pa_nil)))) pa_nil))))))
      (pss_one (ps_ret (pe_and (pe_cmpR op_eq (pe_callB (My.call_repr hgd hr) (by rfl) T.z_repr boot_repr (pa_cons (pv 4) pa_nil)) (pe_callB (My.call_repr hgd hr) (by rfl) T.z_repr boot_repr (pa_cons (pv 5) pa_nil)) (nomark _)) (pe_one (pe_cmpR op_eq (pe_callB (My.call_repr hgd hr) (by rfl) T.z_repr boot_repr (pa_cons (pe_lst (pa_cons (pe_fld (pv 2) rfl) (pa_cons (pe_fld (pv 3) rfl) pa_nil))) pa_nil)) (pe_callB (My.call_repr hgd hr) (by rfl) T.z_repr boot_repr (pa_cons (pe_lst (pa_cons (My.pe_d D_lcut (hr.mono (by decide)) (by rfl) pass0 (pa_cons (pv 0) pa_nil)) (pa_cons (My.pe_d D_lcut (hr.mono (by decide)) (by rfl) pass0 (pa_cons (pv 1) pa_nil)) pa_nil))) pa_nil)) (nomark _))))))))), ?_⟩
    have ba : Bd a 140 := bd_of fun z hz => (ta z hz).abs
    have bb : Bd b 140 := bd_of fun z hz => (tb z hz).abs
    have bA : Bd (trim a) 140 := bd_same ba (cf_trim a)
    have bB : Bd (trim b) 140 := bd_same bb (cf_trim b)
    have lA := trim_le a
    have lB := trim_le b
    refine ⟨rfl, _, rfl, l1, a.map V.int, rfl, .inr (SqL.of h1), by rw [List.length_map]; omega, tyI _ _, fun zs ez p H1 P1 s1 => ?_, fun i v g1 g2 _ => (noI a i v g1 g2).elim⟩
    rw [← v_inj ez] at P1
    refine ⟨rfl, _, rfl, l2, b.map V.int, rfl, .inr (SqL.of (s1 _ _ h2)), by rw [List.length_map]; omega, tyI _ _, fun zs ez q H2 P2 s2 => ?_, fun i v g1 g2 _ => (noI b i v g1 g2).elim⟩
    rw [← v_inj ez] at P2
    have P1 := P1.same s2
    have s2 := s1.trans s2
    clear s1
    obtain ⟨d1, e1, x1, y1⟩ := id P1
    obtain ⟨d2, e2, x2, y2⟩ := id P2
    refine ⟨_, _, rfl, _, rfl, _, rfl, p, d1, _, rfl, x1, .inl ⟨q, d2, _, rfl, x2⟩, p, .ref q, _, _, rfl, P1, .inl ⟨q, rfl, P2⟩, by omega, by omega, fun q3 r3 H3 t3 c3 p3 s3 => ?_⟩
    obtain ⟨d3, e3, x3, y3⟩ := id p3
    refine ⟨q3, C, d3, _, .ref e3, rfl, x3, T.cl, T.nT, pfs_terms _ _, ?_⟩
    have P1 := P1.same s3
    have P2 := P2.same s3
    obtain ⟨d1, e1, x1, y1⟩ := id P1
    obtain ⟨d2, e2, x2, y2⟩ := id P2
    refine ⟨_, rfl, _, rfl, p, d1, _, rfl, x1, .inl ⟨q, d2, _, rfl, x2⟩, p, .ref q, _, _, rfl, P1, .inl ⟨q, rfl, P2⟩, by omega, by omega, fun q4 r4 H4 t4 c4 p4 s4 => ?_⟩
    obtain ⟨d4, e4, x4, y4⟩ := id p4
    refine ⟨q4, C, d4, _, .ref e4, rfl, x4, T.cl, T.nT, pfs_terms _ _, ?_⟩
    have P1 := P1.same s4
    have P2 := P2.same s4
    have y3 := s4 _ _ y3
    have s4 := s3.trans s4
    obtain ⟨d1, e1, x1, y1⟩ := id P1
    obtain ⟨d2, e2, x2, y2⟩ := id P2
    refine ⟨_, rfl, _, rfl, p, d1, _, rfl, x1, .inl ⟨q, d2, _, rfl, x2⟩, p, .ref q, _, _, rfl, P1, .inl ⟨q, rfl, P2⟩, by omega, by omega, bA.mono (by decide), bB.mono (by decide), fun q5 r5 H5 t5 c5 p5 s5 => ?_⟩
    obtain ⟨d5, e5, x5, y5⟩ := id p5
    refine ⟨q5, C, d5, _, .ref e5, rfl, x5, T.cl, T.nT, pfs_terms _ _, ?_⟩
    have P1 := P1.same s5
    have P2 := P2.same s5
    have y3 := s5 _ _ y3
    have y4 := s5 _ _ y4
    have s5 := s4.trans s5
    obtain ⟨d1, e1, x1, y1⟩ := id P1
    obtain ⟨d2, e2, x2, y2⟩ := id P2
    refine ⟨_, rfl, p, d1, _, rfl, x1, p, _, rfl, P1, by omega, fun q6 r6 H6 t6 c6 p6 s6 => ?_⟩
    obtain ⟨d6, e6, x6, y6⟩ := id p6
    refine ⟨q6, C, d6, _, .ref e6, rfl, x6, T.cl, T.nT, pfs_terms _ _, (by show 4 ≤ sizeLine; decide), fun l7 g7 => ?_⟩
    have s7 := s6.trans (same_new (o := .lst [.ref e3, .ref e4, .ref e5, .ref e6]) g7)
    have z7 : TupsAt _ [.ref e3, .ref e4, .ref e5, .ref e6] [r3, r4, r5, r6] := .cons (s7 _ _ y3) (.cons (s7 _ _ y4) (.cons (s7 _ _ y5) (.cons (same_new g7 _ _ y6) .nil)))
    have L7 : upd H6 l7 (.lst [.ref e3, .ref e4, .ref e5, .ref e6]) l7 = some (.lst [.ref e3, .ref e4, .ref e5, .ref e6]) := upd_same
    have S7 := s2.trans (s5.trans s7)
    have P1 := P1.same s7
    have P2 := P2.same s7
    generalize upd H6 l7 (.lst [.ref e3, .ref e4, .ref e5, .ref e6]) = H7 at S7 z7 L7 P1 P2
    clear s7 s6 s5 s4 s3 y3 y4 y5 y6 x1 y1 x2 y2 p3 p4 p5 p6 x3 x4 x5 x6
    have M1 := S7 _ _ h1
    have M2 := S7 _ _ h2
    refine ⟨_, rfl, _, rfl, l1, l2, 1, a, b, rfl, .inl M1, .inl M2, by omega, by omega, by decide, by decide, fun f3 u3 H8 v3 w3 z3 s8 => ?_⟩
    refine ⟨_, rfl, _, rfl, _, rfl, l1, l2, -1, a, b, rfl, .inl (s8 _ _ M1), .inl (s8 _ _ M2), by omega, by omega, by decide, by decide, fun f4 u4 H9 v4 w4 z4 s9 => ?_⟩
    have s9' := s8.trans s9
    refine ⟨_, rfl, _, rfl, l1, l2, a, b, rfl, .inl (s9' _ _ M1), s9' _ _ M2, by omega, by omega, ba.mono (by decide), bb.mono (by decide), fun f5 u5 H10 v5 w5 z5 s10 => ?_⟩
    have s10' := s9'.trans s10
    refine ⟨(by show 0 ≤ sizeLine; decide), fun l11 g11 => ?_⟩
    have s11 := s10'.trans (same_new (o := .lst []) g11)
    have L11 : upd H10 l11 (.lst []) l11 = some (.lst ([].map V.int)) := upd_same
    refine ⟨_, rfl, _, rfl, l11, l1, -1, [], a, rfl, .inl L11, .inl (s11 _ _ M1), (by show 0 ≤ 400; decide), by omega, by decide, by decide, fun f6 u6 H12 v6 w6 z6 s12 => ?_⟩
    refine ⟨(by show 4 ≤ sizeLine; decide), fun l13 g13 => ?_⟩
    have n13 := same_new (o := .lst [.ref f3, .ref f4, .ref f5, .ref f6]) g13
    have a13 := (same_new (o := .lst []) g11).trans (s12.trans n13)
    have S13 := s10'.trans a13
    have w3 : ∀ k, cf u3 k = cf a k + 1 * cf b k := w3
    have c3 : ∀ k, cf r3 k = cf (trim a) k + cf (trim b) k := c3
    have w4 : ∀ k, cf u4 k = cf a k + -1 * cf b k := w4
    have c4 : ∀ k, cf r4 k = cf (trim a) k - cf (trim b) k := c4
    have w6 : ∀ k, cf u6 k = cf [] k + -1 * cf a k := w6
    have c6 : ∀ k, cf r6 k = -cf (trim a) k := c6
    have e3 : u3 = r3 := tight_eq v3 t3 fun k => by rw [w3, c3, cf_trim, cf_trim, Int.one_mul]
    have e4 : u4 = r4 := tight_eq v4 t4 fun k => by rw [w4, c4, cf_trim, cf_trim]; grind
    have e5 : u5 = r5 := tight_eq v5 t5 fun k => by rw [w5, c5, S_ext (cf_trim a) (cf_trim b)]
    have e6 : u6 = r6 := tight_eq v6 t6 fun k => by
      rw [w6, c6, cf_trim]
      show 0 + -1 * cf a k = _
      omega
    subst e3 e4 e5 e6
    have z13 : TupsAt (upd H12 l13 (.lst [.ref f3, .ref f4, .ref f5, .ref f6])) [.ref f3, .ref f4, .ref f5, .ref f6] [u3, u4, u5, u6] := .cons (a13 _ _ (s10 _ _ (s9 _ _ z3))) (.cons (a13 _ _ (s10 _ _ z4)) (.cons (a13 _ _ z5) (.cons (n13 _ _ z6) .nil)))
    have L13 : upd H12 l13 (.lst [.ref f3, .ref f4, .ref f5, .ref f6]) l13 = some (.lst [.ref f3, .ref f4, .ref f5, .ref f6]) := upd_same
    have okz : ∀ us ∈ [u3, u4, u5, u6], us.length ≤ 400 ∧ ∀ z ∈ us, z.natAbs.log2 < 1920 := fun us hus => by
      simp only [List.mem_cons, List.mem_nil_iff, or_false] at hus
      rcases hus with rfl | rfl | rfl | rfl
      · exact ⟨Nat.le_trans (add_len t3 (n := 6) (by omega) (by omega) c3) (by decide), bd_log (bd_add bA bB c3)⟩
      · exact ⟨Nat.le_trans (sub_len t4 (n := 6) (by omega) (by omega) c4) (by decide), bd_log (bd_sub bA bB c4)⟩
      · exact ⟨Nat.le_trans (mul_len t5 (n := 12) (by omega) c5) (by decide), bd_log (bd_mul bA bB (by omega) c5)⟩
      · exact ⟨Nat.le_trans (neg_len t6 c6) (by omega), bd_log (bd_neg bA c6)⟩
    have L7' := S13 _ _ L7
    have z7' := z7.same S13
    have P1 := P1.same S13
    have P2 := P2.same S13
    have Sz := S7.trans S13
    generalize upd H12 l13 (.lst [.ref f3, .ref f4, .ref f5, .ref f6]) = H13 at z13 L13 L7' z7' P1 P2 Sz
    clear S13 a13 n13 s12 s11 s10' s9' s10 s9 s8 z3 z4 z5 z6 L11
    obtain ⟨i1, i2, i3, i4⟩ := tups_show (K := K) _ L7' z7' okz (by show 4 ≤ 10; decide)
    obtain ⟨j1, j2, j3, j4⟩ := tups_show (K := K) _ L13 z13 okz (by show 4 ≤ 10; decide)
    refine ⟨_, rfl, _, _, rfl, i1, i2, i3, i4, _, rfl, _, _, rfl, j1, j2, j3, j4, rfl, ?_⟩
    clear i1 i2 i3 i4 j1 j2 j3 j4
    generalize (PyData.list (tupsD [u3, u4, u5, u6])).shown = zz
    refine ⟨true, by rw [decide_eq_true (rfl : V.str zz = V.str zz)], iteT ?_⟩
    obtain ⟨d1, e1, x1, y1⟩ := id P1
    obtain ⟨d2, e2, x2, y2⟩ := id P2
    refine ⟨_, rfl, p, C, d1, _, .ref e1, rfl, x1, T.cl, T.nT, pfs_terms _ _, _, rfl, q, C, d2, _, .ref e2, rfl, x2, T.cl, T.nT, pfs_terms _ _, (by show 2 ≤ sizeLine; decide), fun l14 g14 => ?_⟩
    have n14 := same_new (o := .lst [.ref e1, .ref e2]) g14
    have okz : ∀ us ∈ [trim a, trim b], us.length ≤ 400 ∧ ∀ z ∈ us, z.natAbs.log2 < 1920 := fun us hus => by
      simp only [List.mem_cons, List.mem_nil_iff, or_false] at hus
      rcases hus with rfl | rfl
      · exact ⟨by omega, bd_log bA⟩
      · exact ⟨by omega, bd_log bB⟩
    obtain ⟨i1, i2, i3, i4⟩ := tups_show (K := K) (l := l14) [trim a, trim b] upd_same (.cons (n14 _ _ y1) (.cons (n14 _ _ y2) .nil)) okz (by show 2 ≤ 10; decide)
    refine ⟨_, _, rfl, i1, i2, i3, i4, ?_⟩
    clear i1 i2 i3 i4
    have M1 := n14 _ _ (Sz _ _ h1)
    have M2 := n14 _ _ (Sz _ _ h2)
    refine ⟨_, rfl, l1, a, rfl, M1, by omega, fun f7 H15 z7 s15 => ?_⟩
    refine ⟨_, rfl, l2, b, rfl, s15 _ _ M2, by omega, fun f8 H16 z8 s16 => ⟨(by show 2 ≤ sizeLine; decide), fun l17 g17 => ?_⟩⟩
    have n17 := same_new (o := .lst [.ref f7, .ref f8]) g17
    obtain ⟨i1, i2, i3, i4⟩ := tups_show (K := K) (l := l17) [trim a, trim b] upd_same (.cons (n17 _ _ (s16 _ _ z7)) (.cons (n17 _ _ z8) .nil)) okz (by show 2 ≤ 10; decide)
    refine ⟨_, _, rfl, i1, i2, i3, i4, rfl, ?_⟩
    generalize (PyData.list (tupsD [trim a, trim b])).shown = yy
    rw [decide_eq_true (rfl : V.str yy = V.str yy)]
    exact k _ (Sz.trans (n14.trans (s15.trans (s16.trans n17))))
end
end My
set_option pp.maxSteps 1500
set_option pp.deepTerms.threshold 8
/-! ### a poly and an integer -/
namespace My
open PySem PySem.Spec PyProof.Rows L2
abbrev s_numR : Stmt := topS 36
theorem sc_numR : FnScope ["_law_one", "_law_number", "_law_mine", "_law_given", "_law_due", "_law_found", "_law_held"] ["_law_one", "_law_number"] (defScope s_numR) := ⟨rfl, rfl, rfl, by decide +kernel, rfl, by decide +kernel, by decide +kernel⟩
/-- polys at these addresses -/
inductive PolysAt (C : Addr) (H : Hp) : List V → List (List Int) → Prop where
  | nil : PolysAt C H [] []
  | cons {q : Addr} {r : List Int} {xs : List V} {rs : List (List Int)} (h : PolyAt C H q r) (t : PolysAt C H xs rs) : PolysAt C H (.ref q :: xs) (r :: rs)
theorem PolysAt.same {C : Addr} {H H' : Hp} {xs : List V} {rs : List (List Int)} (h : PolysAt C H xs rs) (s : Same H H') : PolysAt C H' xs rs := by
  induction h with
  | nil => exact .nil
  | cons h r ih => exact .cons (h.same s) ih
theorem PolysAt.get {C : Addr} {H : Hp} {xs : List V} {rs : List (List Int)} (h : PolysAt C H xs rs) : ∀ {i : Nat} {x : V}, xs[i]? = some x → ∃ q r, x = .ref q ∧ rs[i]? = some r ∧ PolyAt C H q r := by
  induction h with
  | nil => intro i x e; cases e
  | cons h r ih =>
    intro i x e
    cases i with
    | zero => cases e; exact ⟨_, _, rfl, rfl, h⟩
    | succ i => exact ih e
theorem PolysAt.len {C : Addr} {H : Hp} {xs : List V} {rs : List (List Int)} (h : PolysAt C H xs rs) : xs.length = rs.length := by
  induction h with
  | nil => rfl
  | cons h r ih => rw [List.length_cons, List.length_cons, ih]
theorem TupsAt.snoc {H : Hp} {xs : List V} {uss : List (List Int)} (h : TupsAt H xs uss) {t : Addr} {us : List Int} (e : H t = some (.tup (us.map V.int))) : TupsAt H (xs ++ [.ref t]) (uss ++ [us]) := by
  induction h with
  | nil => exact .cons e .nil
  | cons h r ih => exact .cons h ih
theorem ite_same {a b : Str} (e : a = b) {A B : Prop} (h : B) : if (!decide (V.str a = V.str b)) = true then A else B := by
  rw [e, decide_eq_true rfl]
  exact h
theorem TupsAt.putL {H : Hp} {xs ys zs : List V} {uss : List (List Int)} {D : Addr} (h : TupsAt H xs uss) (hD : H D = some (.lst ys)) : TupsAt (upd H D (.lst zs)) xs uss := by
  induction h with
  | nil => exact .nil
  | cons h r ih => exact .cons (by rw [upd_ne (ne_of h hD (by intro z; cases z))]; exact h) ih
def spNumR : Sp := fun vs H Q _ => ∃ (l1 : Addr) (n : Int) (a : List Int), vs = [.ref l1, .int n] ∧ H l1 = some (.lst (a.map V.int)) ∧ a.length ≤ 6 ∧ (∀ z ∈ a, Tm z) ∧ Tm n ∧ ∀ H', Same H H' → Q (.bl true) H'
section
variable {P : Program} {w : World} {K : PySem.W.Frag} {mg : Str → Option Value} {base : Heap} {C CB fB CP fP CI fI : Addr}
theorem ok_numR {f : Addr} {fd : FuncData} (F : Fun K "_law_number_right" "_law_number_right" s_numR f fd) (T : PTy P K mg C CB fB CP fP CI fI)
    (D_lsum : DefAt P w K mg base CX0 2 "_law_sum" ["_law_one", "_law_other", "_law_sign"] spLsum) (D_lprod : DefAt P w K mg base CX0 2 "_law_product" ["_law_one", "_law_other"] spLprod)
    (K_of : ClsAt P w K mg base (L2.CX P w) 5 C "of" (spPof K C CB)) (CE_eq : CmpAt P w K mg base CX0 1 C "__eq__" ["self", "other"] (spPeq C))
    (O_add : CmpAt P w K mg base CX0 6 C "__add__" ["self", "other"] (spPadd C)) (O_sub : CmpAt P w K mg base CX0 7 C "__sub__" ["self", "other"] (spPsub C)) (O_mul : CmpAt P w K mg base CX0 6 C "__mul__" ["self", "other"] (spPmul C))
    (O_radd : CmpAt P w K mg base CX0 7 C "__radd__" ["self", "other"] (spPadd C)) (O_rsub : CmpAt P w K mg base CX0 7 C "__rsub__" ["self", "other"] (spPrsub C)) (O_rmul : CmpAt P w K mg base CX0 7 C "__rmul__" ["self", "other"] (spPmul C))
    (B_add : BinF K C (Operator.info .Add).2) (B_sub : BinF K C (Operator.info .Sub).2) (B_mul : BinF K C (Operator.info .Mult).2)
    (R_add : RefF K C (Operator.info .Add).2) (R_sub : RefF K C (Operator.info .Sub).2) (R_mul : RefF K C (Operator.info .Mult).2)
    (N_add : InpF K C (Operator.info .Add).2) (N_sub : InpF K C (Operator.info .Sub).2) (N_mul : InpF K C (Operator.info .Mult).2) :
    FnG P w K mg base CX0 9 f fd ["_law_one", "_law_number"] spNumR := by
  refine okG F sc_numR (fun vs H Q E h => ?_) (fun cdv A outer s H vs Q E hf hgd hr h => ?_)
  · obtain ⟨l1, n, a, rfl, _⟩ := h
    rfl
  · obtain ⟨l1, n, a, rfl, h1, la, ta, tn, k⟩ := h
    refine ⟨_, (pss_cons (ps_set (i := 2) sc_numR.nd rfl (Or.inl rfl) (My.pe_cm K_of (hr.mono (by decide)) passL (pe_glob (v := .ref C) (by rfl) T.gP rfl) (pa_cons (pv 0) pa_nil)))
      (pss_cons (ps_set (i := 3) sc_numR.nd rfl (Or.inl rfl) (pe_lst (pa_cons (pe_op (My.op_binO O_add B_add (hr.mono (by decide)) pass0) (pv 2) (pv 1)) (pa_cons (pe_op (My.op_binR O_radd My.is_add R_add (hr.mono (by decide)) pass0) (pv 1) (pv 2)) (pa_cons (pe_op (My.op_binO O_sub B_sub (hr.mono (by decide)) pass0) (pv 2) (pv 1)) (pa_cons (pe_op (My.op_binR O_rsub My.is_sub R_sub (hr.mono (by decide)) pass0) (pv 1) (pv 2)) (pa_cons (pe_op (My.op_binO O_mul B_mul (hr.mono (by decide)) pass0) (pv 2) (pv 1)) (pa_cons (pe_op (My.op_binR O_rmul My.is_mul R_mul (hr.mono (by decide)) pass0) (pv 1) (pv 2)) pa_nil))))))))
      (pss_cons (ps_set (i := 4) sc_numR.nd rfl (Or.inl rfl) (pe_op op_cat (pe_op op_rep (pe_lst (pa_cons (My.pe_d D_lsum (hr.mono (by decide)) (by rfl) pass0 (pa_cons (pv 0) (pa_cons (pe_lst (pa_cons (pv 1) pa_nil)) (pa_cons pe_int pa_nil)))) pa_nil)) pe_int) (pe_lst (pa_cons (My.pe_d D_lsum (hr.mono (by decide)) (by rfl) pass0 (pa_cons (pv 0) (pa_cons (pe_lst (pa_cons (pv 1) pa_nil)) (pa_cons (pe_un un_neg pe_int) pa_nil)))) (pa_cons (My.pe_d D_lsum (hr.mono (by decide)) (by rfl) pass0 (pa_cons (pe_lst (pa_cons (pv 1) pa_nil)) (pa_cons (pv 0) (pa_cons (pe_un un_neg pe_int) pa_nil)))) pa_nil)))))
      (pss_cons (ps_set (i := 4) sc_numR.nd rfl (Or.inl rfl) (pe_op op_cat (pv 4) (pe_op op_rep (pe_lst (pa_cons (My.pe_d D_lprod (hr.mono (by decide)) (by rfl) pass0 (pa_cons (pv 0) (pa_cons (pe_lst (pa_cons (pv 1) pa_nil)) pa_nil))) pa_nil)) pe_int)))
      (pss_cons (ps_if (PW.pt (pw_or (pt_cmpR op_ne (pe_callB (My.call_repr hgd hr) (by rfl) T.z_repr boot_repr (pa_cons (pe_lc (own := [("_law_found", 5)]) rfl sc_numR.nd (pi_list (pv 3)) (blkOk_by (by show blkC ["_law_one", "_law_number", "_law_mine", "_law_given", "_law_due", "_law_found", "_law_held"] (defScope s_numR) _ _ = true; decide +kernel)) (fun _ _ _ _ _ => (pg_name (i := 5) sc_numR.nd rfl (Or.inl rfl))) (fun _ _ _ _ _ => pts_nil) (fun _ _ _ _ _ => (My.pe_fldB (K := K) rfl (pv 5) rfl))) pa_nil)) (pe_callB (My.call_repr hgd hr) (by rfl) T.z_repr boot_repr (pa_cons (pv 4) pa_nil)) (nomark _)) (pw_or1 (pt_not (pt_val (pe_callB call_isi (by rfl) T.z_isinstance boot_isinstance (pa_cons (pe_ix ix_list (pv 3) pe_int (fun _ _ => rfl)) (pa_cons (pe_glob (v := .ref C) (by rfl) T.gP rfl) pa_nil)))))))) (pss_one (ps_ret pe_bl)) pss_nil)
      (pss_cons (ps_set (i := 6) sc_numR.nd rfl (Or.inl rfl) (pv 2))
      (pss_cons (ps_aug (i := 6) sc_numR.nd rfl (Or.inl rfl) (pv 1) (My.iop_O O_add B_add N_add (hr.mono (by decide)) pass0) (Or.inr rfl))
      (pss_cons (ps_aug (i := 6) sc_numR.nd rfl (Or.inl rfl) (pv 2) (My.iop_O O_mul B_mul N_mul (hr.mono (by decide)) pass0) (Or.inr rfl))
      (pss_cons (ps_aug (i := 6) sc_numR.nd rfl (Or.inl rfl) pe_int (My.iop_O O_sub B_sub N_sub (hr.mono (by decide)) pass0) (Or.inr rfl))
      (pss_one (ps_ret (pe_and (pe_cmpR (op_eqD hr.units) (pe_fld (pv 6) rfl) (My.pe_d D_lsum (hr.mono (by decide)) (by rfl) pass0 (pa_cons (My.pe_d D_lprod (hr.mono (by decide)) (by rfl) pass0 (pa_cons (My.pe_d D_lsum (hr.mono (by decide)) (by rfl) pass0 (pa_cons (pv 0) (pa_cons (pe_lst (pa_cons (pv 1) pa_nil)) (pa_cons pe_int pa_nil)))) (pa_cons (pv 0) pa_nil))) (pa_cons (pe_lst (pa_cons pe_int pa_nil)) (pa_cons (pe_un un_neg pe_int) pa_nil)))) (nomark _)) (pe_one (pe_cmpR (My.op_cmpO CE_eq (hr.mono (by decide)) pass0) (pv 2) (My.pe_cm K_of (hr.mono (by decide)) passL (pe_glob (v := .ref C) (by rfl) T.gP rfl) (pa_cons (pv 0) pa_nil)) (nomark _))))))))))))))), ?_⟩
    have ba : Bd a 140 := bd_of fun z hz => (ta z hz).abs
    have bn : Bd [n] 140 := bd_of fun z hz => by rw [List.mem_singleton.mp hz]; exact tn.abs
    have bA : Bd (trim a) 140 := bd_same ba (cf_trim a)
    have lA := trim_le a
    have l1n : ([n] : List Int).length = 1 := rfl
    refine ⟨rfl, _, rfl, l1, a.map V.int, rfl, .inr (SqL.of h1), by rw [List.length_map]; omega, tyI _ _, fun zs ez p H1 P1 s1 => ?_, fun i v g1 g2 _ => (noI a i v g1 g2).elim⟩
    rw [← v_inj ez] at P1
    obtain ⟨d1, e1, x1, y1⟩ := id P1
    -- mine + n
    refine ⟨_, rfl, _, rfl, p, d1, _, rfl, x1, .inr ⟨n, rfl⟩, p, .int n, _, _, rfl, P1, .inr ⟨n, rfl, rfl⟩, by omega, by omega, fun q3 r3 H3 t3 c3 p3 s3 => ?_⟩
    have P1 := P1.same s3
    obtain ⟨d1, e1, x1, y1⟩ := id P1
    -- n + mine
    refine ⟨_, rfl, _, rfl, n, p, d1, _, rfl, rfl, x1, p, .int n, _, _, rfl, P1, .inr ⟨n, rfl, rfl⟩, by omega, by omega, fun q4 r4 H4 t4 c4 p4 s4 => ?_⟩
    have P1 := P1.same s4
    have p3 := p3.same s4
    obtain ⟨d1, e1, x1, y1⟩ := id P1
    -- mine - n
    refine ⟨_, rfl, _, rfl, p, d1, _, rfl, x1, .inr ⟨n, rfl⟩, p, .int n, _, _, rfl, P1, .inr ⟨n, rfl, rfl⟩, by omega, by omega, fun q5 r5 H5 t5 c5 p5 s5 => ?_⟩
    have P1 := P1.same s5
    have p3 := p3.same s5
    have p4 := p4.same s5
    obtain ⟨d1, e1, x1, y1⟩ := id P1
    -- n - mine
    refine ⟨_, rfl, _, rfl, n, p, d1, _, rfl, rfl, x1, p, n, _, rfl, P1, by omega, fun q6 r6 H6 t6 c6 p6 s6 => ?_⟩
    have P1 := P1.same s6
    have p3 := p3.same s6
    have p4 := p4.same s6
    have p5 := p5.same s6
    obtain ⟨d1, e1, x1, y1⟩ := id P1
    -- mine * n
    refine ⟨_, rfl, _, rfl, p, d1, _, rfl, x1, .inr ⟨n, rfl⟩, p, .int n, _, _, rfl, P1, .inr ⟨n, rfl, rfl⟩, by omega, by omega, bA.mono (by decide), bn.mono (by decide), fun q7 r7 H7 t7 c7 p7 s7 => ?_⟩
    have P1 := P1.same s7
    have p3 := p3.same s7
    have p4 := p4.same s7
    have p5 := p5.same s7
    have p6 := p6.same s7
    obtain ⟨d1, e1, x1, y1⟩ := id P1
    -- n * mine
    refine ⟨_, rfl, _, rfl, n, p, d1, _, rfl, rfl, x1, p, .int n, _, _, rfl, P1, .inr ⟨n, rfl, rfl⟩, by omega, by omega, bA.mono (by decide), bn.mono (by decide), fun q8 r8 H8 t8 c8 p8 s8 => ⟨(by show 6 ≤ sizeLine; decide), fun l9 g9 => ?_⟩⟩
    have n9 := s8.trans (same_new (o := .lst [.ref q3, .ref q4, .ref q5, .ref q6, .ref q7, .ref q8]) g9)
    have z9 : PolysAt C _ [.ref q3, .ref q4, .ref q5, .ref q6, .ref q7, .ref q8] [r3, r4, r5, r6, r7, r8] := .cons (p3.same n9) (.cons (p4.same n9) (.cons (p5.same n9) (.cons (p6.same n9) (.cons (p7.same n9) (.cons (p8.same (same_new g9)) .nil)))))
    have L9 : upd H8 l9 (.lst [.ref q3, .ref q4, .ref q5, .ref q6, .ref q7, .ref q8]) l9 = some (.lst [.ref q3, .ref q4, .ref q5, .ref q6, .ref q7, .ref q8]) := upd_same
    have S9 := s1.trans (s3.trans (s4.trans (s5.trans (s6.trans (s7.trans n9)))))
    have P1 := P1.same n9
    generalize upd H8 l9 (.lst [.ref q3, .ref q4, .ref q5, .ref q6, .ref q7, .ref q8]) = H9 at z9 L9 S9 P1
    clear n9 s8 s7 s6 s5 s4 s3 s1 p3 p4 p5 p6 p7 p8 x1 y1
    have M9 := S9 _ _ h1
    -- due
    refine ⟨_, rfl, _, rfl, (by show 1 ≤ sizeLine; decide), fun la1 ga1 => ?_⟩
    have na1 := same_new (o := .lst [.int n]) ga1
    have La1 : upd H9 la1 (.lst [.int n]) la1 = some (.lst ([n].map V.int)) := upd_same
    refine ⟨l1, la1, 1, a, [n], rfl, .inl (na1 _ _ M9), .inl La1, by omega, by omega, by decide, by decide, fun f3 u3 Ha v3 w3 z3 sa => ⟨(by show 1 ≤ sizeLine; decide), fun la2 ga2 => ?_⟩⟩
    have na2 := same_new (o := .lst [.ref f3]) ga2
    refine ⟨la2, 2, _, rfl, rfl, upd_same, by decide, by decide, (by show 2 ≤ sizeLine; decide), fun la3 ga3 => ?_⟩
    have na3 := same_new (o := .lst [.ref f3, .ref f3]) ga3
    have La3 : upd (upd Ha la2 (.lst [.ref f3])) la3 (.lst (List.replicate (Int.toNat 2) [.ref f3]).flatten) la3 = some (.lst [.ref f3, .ref f3]) := upd_same
    have Sa : Same H9 (upd (upd Ha la2 (.lst [.ref f3])) la3 (.lst (List.replicate (Int.toNat 2) [.ref f3]).flatten)) := na1.trans (sa.trans (na2.trans na3))
    have z3 : (upd (upd Ha la2 (.lst [.ref f3])) la3 (.lst (List.replicate (Int.toNat 2) [.ref f3]).flatten)) f3 = some (.tup (u3.map V.int)) := na3 _ _ (na2 _ _ z3)
    generalize upd (upd Ha la2 (.lst [.ref f3])) la3 (.lst (List.replicate (Int.toNat 2) [.ref f3]).flatten) = Hb at La3 Sa z3
    clear na1 sa na2 na3 La1
    have Mb := Sa _ _ M9
    -- the two differences
    refine ⟨_, rfl, _, rfl, (by show 1 ≤ sizeLine; decide), fun lb1 gb1 => ?_⟩
    have nb1 := same_new (o := .lst [.int n]) gb1
    have Lb1 : upd Hb lb1 (.lst [.int n]) lb1 = some (.lst ([n].map V.int)) := upd_same
    refine ⟨_, rfl, l1, lb1, -1, a, [n], rfl, .inl (nb1 _ _ Mb), .inl Lb1, by omega, by omega, by decide, by decide, fun f5 u5 Hc v5 w5 z5 sc => ?_⟩
    have Mc := sc _ _ (nb1 _ _ Mb)
    refine ⟨_, rfl, (by show 1 ≤ sizeLine; decide), fun lc1 gc1 => ?_⟩
    have nc1 := same_new (o := .lst [.int n]) gc1
    have Lc1 : upd Hc lc1 (.lst [.int n]) lc1 = some (.lst ([n].map V.int)) := upd_same
    refine ⟨_, rfl, _, rfl, lc1, l1, -1, [n], a, rfl, .inl Lc1, .inl (nc1 _ _ Mc), by omega, by omega, by decide, by decide, fun f6 u6 Hd v6 w6 z6 sd => ⟨(by show 2 ≤ sizeLine; decide), fun ld1 gd1 => ?_⟩⟩
    have nd1 := same_new (o := .lst [.ref f5, .ref f6]) gd1
    have Sd1 := nb1.trans (sc.trans (nc1.trans (sd.trans nd1)))
    refine ⟨la3, ld1, _, _, rfl, rfl, Sd1 _ _ La3, upd_same, (by show 2 + 2 ≤ sizeLine; decide), fun ld2 gd2 => ?_⟩
    have nd2 := same_new (o := .lst [.ref f3, .ref f3, .ref f5, .ref f6]) gd2
    have Ld2 : upd (upd Hd ld1 (.lst [.ref f5, .ref f6])) ld2 (.lst ([.ref f3, .ref f3] ++ [.ref f5, .ref f6])) ld2 = some (.lst [.ref f3, .ref f3, .ref f5, .ref f6]) := upd_same
    have Sd : Same Hb (upd (upd Hd ld1 (.lst [.ref f5, .ref f6])) ld2 (.lst ([.ref f3, .ref f3] ++ [.ref f5, .ref f6]))) := Sd1.trans nd2
    have z3 : (upd (upd Hd ld1 (.lst [.ref f5, .ref f6])) ld2 (.lst ([.ref f3, .ref f3] ++ [.ref f5, .ref f6]))) f3 = some (.tup (u3.map V.int)) := Sd _ _ z3
    have z5 : (upd (upd Hd ld1 (.lst [.ref f5, .ref f6])) ld2 (.lst ([.ref f3, .ref f3] ++ [.ref f5, .ref f6]))) f5 = some (.tup (u5.map V.int)) := nd2 _ _ (nd1 _ _ (sd _ _ (nc1 _ _ z5)))
    have z6 : (upd (upd Hd ld1 (.lst [.ref f5, .ref f6])) ld2 (.lst ([.ref f3, .ref f3] ++ [.ref f5, .ref f6]))) f6 = some (.tup (u6.map V.int)) := nd2 _ _ (nd1 _ _ z6)
    generalize upd (upd Hd ld1 (.lst [.ref f5, .ref f6])) ld2 (.lst ([.ref f3, .ref f3] ++ [.ref f5, .ref f6])) = He at Ld2 Sd z3 z5 z6
    clear nb1 sc nc1 sd nd1 Sd1 nd2 Lb1 Lc1 Mc
    have Me := Sd _ _ Mb
    -- the products
    refine ⟨_, rfl, _, rfl, _, rfl, (by show 1 ≤ sizeLine; decide), fun le1 ge1 => ?_⟩
    have ne1 := same_new (o := .lst [.int n]) ge1
    have Le1 : upd He le1 (.lst [.int n]) le1 = some (.lst ([n].map V.int)) := upd_same
    refine ⟨l1, le1, a, [n], rfl, .inl (ne1 _ _ Me), Le1, by omega, by omega, ba.mono (by decide), bn.mono (by decide), fun f7 u7 Hf v7 w7 z7 sf => ⟨(by show 1 ≤ sizeLine; decide), fun lf1 gf1 => ?_⟩⟩
    have nf1 := same_new (o := .lst [.ref f7]) gf1
    refine ⟨lf1, 2, _, rfl, rfl, upd_same, by decide, by decide, (by show 2 ≤ sizeLine; decide), fun lf2 gf2 => ?_⟩
    have nf2 := same_new (o := .lst [.ref f7, .ref f7]) gf2
    have Sf2 := ne1.trans (sf.trans (nf1.trans nf2))
    refine ⟨ld2, lf2, _, _, rfl, rfl, Sf2 _ _ Ld2, upd_same, (by show 4 + 2 ≤ sizeLine; decide), fun lg gg => ?_⟩
    have ng := same_new (o := .lst [.ref f3, .ref f3, .ref f5, .ref f6, .ref f7, .ref f7]) gg
    have Lg : upd (upd (upd Hf lf1 (.lst [.ref f7])) lf2 (.lst (List.replicate (Int.toNat 2) [.ref f7]).flatten)) lg (.lst ([.ref f3, .ref f3, .ref f5, .ref f6] ++ (List.replicate (Int.toNat 2) [.ref f7]).flatten)) lg = some (.lst [.ref f3, .ref f3, .ref f5, .ref f6, .ref f7, .ref f7]) := upd_same
    have Sg : Same He (upd (upd (upd Hf lf1 (.lst [.ref f7])) lf2 (.lst (List.replicate (Int.toNat 2) [.ref f7]).flatten)) lg (.lst ([.ref f3, .ref f3, .ref f5, .ref f6] ++ (List.replicate (Int.toNat 2) [.ref f7]).flatten))) := Sf2.trans ng
    have z7 : (upd (upd (upd Hf lf1 (.lst [.ref f7])) lf2 (.lst (List.replicate (Int.toNat 2) [.ref f7]).flatten)) lg (.lst ([.ref f3, .ref f3, .ref f5, .ref f6] ++ (List.replicate (Int.toNat 2) [.ref f7]).flatten))) f7 = some (.tup (u7.map V.int)) := ng _ _ (nf2 _ _ (nf1 _ _ z7))
    have zg : TupsAt _ [.ref f3, .ref f3, .ref f5, .ref f6, .ref f7, .ref f7] [u3, u3, u5, u6, u7, u7] := .cons (Sg _ _ z3) (.cons (Sg _ _ z3) (.cons (Sg _ _ z5) (.cons (Sg _ _ z6) (.cons z7 (.cons z7 .nil)))))
    generalize upd (upd (upd Hf lf1 (.lst [.ref f7])) lf2 (.lst (List.replicate (Int.toNat 2) [.ref f7]).flatten)) lg (.lst ([.ref f3, .ref f3, .ref f5, .ref f6] ++ (List.replicate (Int.toNat 2) [.ref f7]).flatten)) = Hg at Lg Sg z7 zg
    clear ne1 sf nf1 nf2 Sf2 ng Le1 z3 z5 z6 z7
    have Tg := Sa.trans (Sd.trans Sg)
    have Sg := S9.trans Tg
    have Lz := Tg _ _ L9
    have zz := z9.same Tg
    have P1 := P1.same Tg
    clear Tg Sa Sd S9 Mb Me M9 La3 Ld2 L9 z9
    have e3 : u3 = r3 := tight_eq v3 t3 fun k => by rw [w3, c3]; show _ + 1 * _ = _ + _; rw [cf_trim]; omega
    have e4 : u3 = r4 := tight_eq v3 t4 fun k => by rw [w3, c4]; show _ + 1 * _ = _ + _; rw [cf_trim]; omega
    have e5 : u5 = r5 := tight_eq v5 t5 fun k => by rw [w5, c5]; show _ + -1 * _ = _ - _; rw [cf_trim]; omega
    have e6 : u6 = r6 := tight_eq v6 t6 fun k => by rw [w6, c6]; show _ + -1 * _ = _ - _; rw [cf_trim]; omega
    have e7 : u7 = r7 := tight_eq v7 t7 fun k => by rw [w7, c7, S_ext (cf_trim a) fun _ => rfl]
    have e8 : u7 = r8 := tight_eq v7 t8 fun k => by rw [w7, c8, S_ext (cf_trim a) fun _ => rfl]
    subst e3 e4 e5 e6 e7 e8
    have okz : ∀ us ∈ [u3, u3, u5, u6, u7, u7], us.length ≤ 400 ∧ ∀ z ∈ us, z.natAbs.log2 < 1920 := fun us hus => by
      have k3 : u3.length ≤ 400 ∧ ∀ z ∈ u3, z.natAbs.log2 < 1920 := ⟨Nat.le_trans (add_len t3 (n := 6) (by omega) (by omega) c3) (by decide), bd_log (bd_add bA bn c3)⟩
      have k7 : u7.length ≤ 400 ∧ ∀ z ∈ u7, z.natAbs.log2 < 1920 := ⟨Nat.le_trans (mul_len t7 (n := 12) (by omega) c7) (by decide), bd_log (bd_mul bA bn (by omega) c7)⟩
      simp only [List.mem_cons, List.mem_nil_iff, or_false] at hus
      rcases hus with rfl | rfl | rfl | rfl | rfl | rfl
      · exact k3
      · exact k3
      · exact ⟨Nat.le_trans (sub_len t5 (n := 6) (by omega) (by omega) c5) (by decide), bd_log (bd_sub bA bn c5)⟩
      · exact ⟨Nat.le_trans (sub_len t6 (n := 6) (by omega) (by omega) c6) (by decide), bd_log (bd_sub bn bA c6)⟩
      · exact k7
      · exact k7
    -- shown
    refine ⟨_, rfl, l9, rfl, ⟨_, SqL.of Lz⟩, fun D hD => ?_⟩
    refine lc_list (K := K) (a := l9) (xs := [.ref q3, .ref q4, .ref q5, .ref q6, .ref q7, .ref q8]) (fun i Hh => ∃ acc, Hh D = some (.lst acc) ∧ acc.length = i ∧ TupsAt Hh acc ([u3, u3, u5, u6, u7, u7].take i) ∧ Same Hg Hh) ⟨[], upd_same, rfl, .nil, same_new hD⟩ (fun i Hh _ hh => by obtain ⟨_, _, _, _, s⟩ := hh; exact SqL.of (s _ _ Lz)) ?_ ?_
    · rintro i x Hh hi ⟨acc, i1, i2, i3, i4⟩
      obtain ⟨q, r, rfl, er, pr⟩ := (zz.same i4).get hi
      obtain ⟨dq, tq, xq, yq⟩ := id pr
      have i6 : i < 6 := (List.getElem?_eq_some_iff.mp hi).1
      refine ⟨rfl, yes_go ⟨_, rfl, q, C, dq, _, .ref tq, rfl, xq, T.cl, T.nT, pfs_terms _ _, acc, i1, (by rw [i2, sizeLine_eq]; omega), acc ++ [.ref tq], upd_same, by rw [List.length_append, i2]; rfl, ?_, ?_⟩⟩
      · rw [take1 er]
        exact (i3.putL i1).snoc (by rw [upd_ne (ne_of yq i1 (by intro z; cases z))]; exact yq)
      · intro b o e
        rw [upd_ne (ne_of_none e hD)]
        exact i4 _ _ e
    rintro Hh ⟨acc, i1, i2, i3, i4⟩
    have Lg := i4 _ _ Lg
    have zg := zg.same i4
    have P1 := P1.same i4
    have Lz := i4 _ _ Lz
    have zz := zz.same i4
    have Sg := Sg.trans i4
    clear i4
    obtain ⟨j1, j2, j3, j4⟩ := tups_show (K := K) (l := D) [u3, u3, u5, u6, u7, u7] i1 i3 okz (by show 6 ≤ 10; decide)
    refine ⟨_, _, rfl, j1, j2, j3, j4, _, rfl, ?_⟩
    obtain ⟨j1, j2, j3, j4⟩ := tups_show (K := K) (l := lg) [u3, u3, u5, u6, u7, u7] Lg zg okz (by show 6 ≤ 10; decide)
    refine ⟨_, _, rfl, j1, j2, j3, j4, rfl, _, rfl, ite_same rfl ?_⟩
    clear j1 j2 j3 j4 i1 i3 hD Lg zg
    obtain ⟨q, r, eq, er, pr⟩ := zz.get (i := 1) (x := .ref q4) rfl
    cases eq
    refine ⟨_, rfl, l9, _, _, .ref q4, rfl, rfl, SqL.of Lz, rfl, _, _, _, _, true, rfl, .own _, T.ty pr, T.me, _, rfl, iteF ?_⟩
    clear pr er r Lz zz
    -- in place
    obtain ⟨d1, e1, x1, y1⟩ := id P1
    refine ⟨_, rfl, _, rfl, _, rfl, p, d1, _, rfl, x1, .inr ⟨n, rfl⟩, p, .int n, _, _, rfl, P1, .inr ⟨n, rfl, rfl⟩, by omega, by omega, fun q1 r1 Hi t1 c1 p1 s1 => ?_⟩
    have c1 : ∀ k, cf r1 k = cf (trim a) k + cf [n] k := c1
    have b1 := bd_add bA bn c1
    have ln1 := add_len t1 (n := 6) (by omega) (by omega) c1
    have P1 := P1.same s1
    obtain ⟨d1, e1, x1, y1⟩ := id P1
    obtain ⟨dq1, eq1, xq1, yq1⟩ := id p1
    refine ⟨_, rfl, _, rfl, q1, dq1, _, rfl, xq1, .inl ⟨p, d1, _, rfl, x1⟩, q1, .ref p, _, _, rfl, p1, .inl ⟨p, rfl, P1⟩, by omega, by omega, b1.mono (by decide), bA.mono (by decide), fun q2 r2 Hj t2 c2 p2 s2 => ?_⟩
    have b2 := bd_mul b1 bA (by omega) c2
    have ln2 := mul_len t2 (n := 12) (by omega) c2
    have P1 := P1.same s2
    obtain ⟨dq2, eq2, xq2, yq2⟩ := id p2
    refine ⟨_, rfl, q2, dq2, _, rfl, xq2, .inr ⟨1, rfl⟩, q2, .int 1, _, _, rfl, p2, .inr ⟨1, rfl, rfl⟩, by omega, (by show 1 ≤ 400; decide), fun q3' r3' Hk t3' c3' p3' s3' => ?_⟩
    have c3' : ∀ k, cf r3' k = cf r2 k - cf [1] k := c3'
    have ln3 := sub_len t3' (n := 12) (by omega) (by show 1 ≤ 12; decide) c3'
    have P1 := P1.same s3'
    have Sk := Sg.trans (s1.trans (s2.trans s3'))
    have Mk := Sk _ _ h1
    obtain ⟨dq3, eq3, xq3, yq3⟩ := id p3'
    clear s1 s2 s3' Sg
    refine ⟨_, rfl, q3', C, dq3, _, .ref eq3, rfl, xq3, T.cl, T.nT, pfs_terms _ _, ?_⟩
    refine ⟨_, rfl, _, rfl, (by show 1 ≤ sizeLine; decide), fun m1 gm1 => ?_⟩
    have nm1 := same_new (o := .lst [.int n]) gm1
    have Lm1 : upd Hk m1 (.lst [.int n]) m1 = some (.lst ([n].map V.int)) := upd_same
    refine ⟨l1, m1, 1, a, [n], rfl, .inl (nm1 _ _ Mk), .inl Lm1, by omega, by omega, by decide, by decide, fun g3 i3 Hl v3' w3' z3 sl => ?_⟩
    have w3' : ∀ k, cf i3 k = cf a k + 1 * cf [n] k := w3'
    have w3'' : ∀ k, cf i3 k = cf r1 k := fun k => by rw [w3', c1, cf_trim]; omega
    have bi : Bd i3 141 := bd_same b1 w3''
    have li : i3.length ≤ 6 := len_le v3' fun k hk => by rw [w3'', cf_out (by omega)]
    have Sl := nm1.trans sl
    refine ⟨_, rfl, g3, l1, i3, a, rfl, .inr z3, Sl _ _ Mk, by omega, by omega, bi.mono (by decide), ba.mono (by decide), fun g4 i4 Hm v4' w4' z4 sm => ?_⟩
    have w4'' : ∀ k, cf i4 k = cf r2 k := fun k => by rw [w4', c2, S_ext w3'' fun k => (cf_trim a k).symm]
    have li4 : i4.length ≤ 12 := len_le v4' fun k hk => by rw [w4'', cf_out (by omega)]
    refine ⟨(by show 1 ≤ sizeLine; decide), fun m2 gm2 => ?_⟩
    have nm2 := same_new (o := .lst [.int 1]) gm2
    have Lm2 : upd Hm m2 (.lst [.int 1]) m2 = some (.lst ([1].map V.int)) := upd_same
    refine ⟨_, rfl, g4, m2, -1, i4, [1], rfl, .inr (nm2 _ _ z4), .inl Lm2, by omega, (by show 1 ≤ 400; decide), by decide, by decide, fun g5 i5 Hn v5' w5' z5 sn => ?_⟩
    have w5' : ∀ k, cf i5 k = cf i4 k + -1 * cf [1] k := w5'
    have e9 : i5 = r3' := tight_eq v5' t3' fun k => by rw [w5', c3', w4'']; omega
    subst e9
    have Sn := Sl.trans (sm.trans (nm2.trans sn))
    have P1 := P1.same Sn
    have yq3 := Sn _ _ yq3
    have Sk := Sk.trans Sn
    clear Sn nm2 sm Sl sl nm1 Mk Lm1 Lm2
    refine ⟨.tuple (i5.map PyData.int), .tuple (i5.map PyData.int), .tup (SqT.of yq3) (dp_ints _), .tup (SqT.of z5) (dp_ints _), shaped_tupI _, shaped_tupI _, ?_⟩
    have ee : PyData.eqv (.tuple (i5.map PyData.int)) (.tuple (i5.map PyData.int)) = decide (i5 = i5) := eqv_ints i5 i5
    rw [ee, decide_eq_true (rfl : i5 = i5)]
    refine ⟨true, rfl, iteT ?_⟩
    have M := Sk _ _ h1
    refine ⟨_, rfl, rfl, _, rfl, l1, a.map V.int, rfl, .inr (SqL.of M), by rw [List.length_map]; omega, tyI _ _, fun zs ez o2 Ho O2 so => ?_, fun i v g1 g2 _ => (noI a i v g1 g2).elim⟩
    rw [← v_inj ez] at O2
    have P1 := P1.same so
    obtain ⟨d1, e1, x1, y1⟩ := id P1
    refine ⟨p, d1, _, _, rfl, x1, T.ty O2, T.sf, p, _, _, rfl, P1, by omega, .inl ⟨o2, _, rfl, O2, by omega, ?_⟩⟩
    rw [decide_eq_true (rfl : trim a = trim a)]
    exact k _ (Sk.trans so)
end
end My
set_option exponentiation.threshold 5000
namespace My
theorem horner_bd' {m : Int} {X : Nat} (hm : m.natAbs < 2 ^ 41) : ∀ (l : List Int) (a : Int) (B : Nat), X ≤ B → a.natAbs < 2 ^ B → (∀ z ∈ l, z.natAbs < 2 ^ X) → (l.foldl (fun f t => f * m + t) a).natAbs < 2 ^ (B + 42 * l.length)
  | [], a, B, _, ha, _ => ha
  | z :: l, a, B, hB, ha, hl => by
    have h1 : (a * m).natAbs < 2 ^ (B + 41) := by
      rw [Int.natAbs_mul, Nat.pow_add]
      exact Nat.mul_lt_mul_of_lt_of_lt ha hm
    have h2 : z.natAbs < 2 ^ (B + 41) := Nat.lt_of_lt_of_le (hl z List.mem_cons_self) (Nat.pow_le_pow_right (by decide) (by omega))
    have h3 : (a * m + z).natAbs < 2 ^ (B + 42) := by
      have := Int.natAbs_add_le (a * m) z
      have e : (2 : Nat) ^ (B + 42) = 2 ^ (B + 41) * 2 := Nat.pow_succ ..
      omega
    have h4 := horner_bd' hm l (a * m + z) (B + 42) (by omega) h3 fun x hx => hl x (List.mem_cons_of_mem _ hx)
    have e : B + 42 * (z :: l).length = B + 42 + 42 * l.length := by
      rw [List.length_cons]
      omega
    rw [e]
    exact h4
theorem take_bd' {m : Int} {ts : List Int} {X : Nat} (hm : m.natAbs < 2 ^ 41) (hl : ts.length ≤ 12) (ht : ∀ k, (cf ts k).natAbs < 2 ^ X) (k : Nat) : ((ts.reverse.take k).foldl (fun f t => f * m + t) 0).natAbs < 2 ^ (X + 504) := by
  refine Nat.lt_of_lt_of_le (horner_bd' (X := X) hm (ts.reverse.take k) 0 X (Nat.le_refl _) (Nat.two_pow_pos _) fun z hz => ?_) (Nat.pow_le_pow_right (by decide) ?_)
  · have h1 := List.mem_reverse.mp (List.mem_of_mem_take hz)
    obtain ⟨j, hj⟩ := List.getElem?_of_mem h1
    have := ht j
    unfold cf at this
    rw [hj] at this
    exact this
  · have : (ts.reverse.take k).length ≤ ts.length := by
      rw [List.length_take, List.length_reverse]
      omega
    omega
theorem cf_Lmv (u v : Int) (a : List Int) (k : Nat) : cf (L (mv u v a) a.length) k = mv u v a k := by
  rw [cf_L]
  split
  · rfl
  · exact (mv_out u v a k (by omega)).symm
theorem step_evl {r a : List Int} (h : ∀ k, cf r k = mv 1 1 a k - cf a k) (m : Int) : evl r m = evl a (m + 1) - evl a m := by
  have e1 : evl (L (mv 1 1 a) a.length) m = evl r m + evl a m := evl_add (fun k => by rw [cf_Lmv, h]; omega) m
  have e2 := mv_evl 1 1 m a _ (cf_Lmv 1 1 a)
  rw [Int.one_mul] at e2
  omega
end My
set_option exponentiation.threshold 5000
set_option pp.maxSteps 1500
set_option pp.deepTerms.threshold 8
/-! ### polys moved -/
namespace My
open PySem PySem.Spec PyProof.Rows L2
abbrev s_movR : Stmt := topS 37
theorem sc_movR : FnScope ["_law_pen_here", "_law_one", "_law_mine", "_law_slope", "_law_more", "_law_step", "_law_along", "_law_m"] ["_law_pen_here", "_law_one"] (defScope s_movR) := ⟨rfl, rfl, rfl, by decide +kernel, rfl, by decide +kernel, by decide +kernel⟩
def spMovR : Sp := fun vs H Q _ => ∃ (pn l1 : Addr) (n : Nat) (a : List Int), vs = [.ref pn, .ref l1] ∧ PenAt H pn n ∧ n < 80000 ∧ H l1 = some (.lst (a.map V.int)) ∧ l1 ≠ pn ∧ a.length ≤ 6 ∧ (∀ z ∈ a, Tm z) ∧ ∀ H', PenAt H' pn (n + 3) → But pn H H' → Q (.bl true) H'
section
variable {P : Program} {w : World} {K : PySem.W.Frag} {mg : Str → Option Value} {base : Heap} {C CB fB CP fP CI fI : Addr}
theorem ok_movR {f : Addr} {fd : FuncData} (F : Fun K "_law_moved_right" "_law_moved_right" s_movR f fd) (T : PTy P K mg C CB fB CP fP CI fI)
    (D_draw : DefAt P w K mg base CX0 1 "_law_draw" ["_law_pen_here", "_law_many"] spDrawC) (D_pick : DefAt P w K mg base CX0 2 "_law_pick" ["_law_pen_here", "_law_some"] spPick)
    (K_of : ClsAt P w K mg base (L2.CX P w) 5 C "of" (spPof K C CB)) (C_Poly : CallAt P w K mg base (L2.CX P w) 3 C ["self", "m"] (spPcall C CP))
    (MT_along : MethAt P w K mg base CX0 7 C "along" ["self", "slope", "more"] (spPalong C)) (MT_step : MethAt P w K mg base CX0 8 C "step" ["self"] (spPstep C)) :
    FnOk P w K mg base CX0 9 f fd ["_law_pen_here", "_law_one"] spMovR := by
  refine F.ok sc_movR (fun vs H Q E h => ?_) (fun cdv A outer s H vs Q E hr h => ?_)
  · obtain ⟨pn, l1, n, a, rfl, _⟩ := h
    rfl
  · obtain ⟨pn, l1, n, a, rfl, hp, hn, h1, nl, la, ta, k⟩ := h
    refine ⟨_, (pss_cons (ps_set (i := 2) sc_movR.nd rfl (Or.inl rfl) (My.pe_cm K_of (hr.mono (by decide)) passL (pe_glob (v := .ref C) (by rfl) T.gP rfl) (pa_cons (pv 1) pa_nil)))
      (pss_cons (ps_par (i := 3) (j := 4) (by rfl) sc_movR.nd rfl rfl (by decide) rfl rfl (pa_cons (My.pe_d D_pick (hr.mono (by decide)) (by rfl) pass0 (pa_cons (pv 0) (pa_cons (pe_lst (pa_cons pe_int (pa_cons pe_int (pa_cons pe_int (pa_cons (pe_un un_neg pe_int) (pa_cons pe_int (pa_cons (pe_op op_pow pe_int pe_int) pa_nil))))))) pa_nil))) (pa_cons (pe_op op_sub (My.pe_d D_draw (hr.mono (by decide)) (by rfl) pass0 (pa_cons (pv 0) (pa_cons pe_int pa_nil))) pe_int) pa_nil)) (by rfl))
      (pss_cons (ps_par (i := 5) (j := 6) (by rfl) sc_movR.nd rfl rfl (by decide) rfl rfl (pa_cons (My.pe_mt0 T.cl MT_step (hr.mono (by decide)) pass0 (pv 2)) (pa_cons (My.pe_mt T.cl MT_along (hr.mono (by decide)) pass0 (pv 2) (pa_cons (pv 3) (pa_cons (pv 4) pa_nil))) pa_nil)) (by rfl))
      (pss_cons (ps_for PassesOwn.never rfl (pi_range2 rfl T.z_range (pa_cons (pe_un un_neg pe_int) (pa_cons pe_int pa_nil))) (pg_name (i := 7) sc_movR.nd rfl (Or.inl rfl)) (pss_one (ps_if (PW.pt (pw_or (pt_cmpR op_ne (My.pe_clI C_Poly (hr.mono (by decide)) passL (pv 5) (pa_cons (pv 7) pa_nil)) (pe_op op_sub (My.pe_clI C_Poly (hr.mono (by decide)) passL (pv 2) (pa_cons (pe_op op_add (pv 7) pe_int) pa_nil)) (My.pe_clI C_Poly (hr.mono (by decide)) passL (pv 2) (pa_cons (pv 7) pa_nil))) (nomark _)) (pw_or1 (pt_cmpR op_ne (My.pe_clI C_Poly (hr.mono (by decide)) passL (pv 6) (pa_cons (pv 7) pa_nil)) (My.pe_clI C_Poly (hr.mono (by decide)) passL (pv 2) (pa_cons (pe_op op_add (pe_op op_mul (pv 3) (pv 7)) (pv 4)) pa_nil)) (nomark _))))) (pss_one (ps_ret pe_bl)) pss_nil)))
      (pss_one (ps_ret (pe_and (pe_cmpR op_eq (pe_fld (pv 5) rfl) (pe_callB (call_max2 rfl) (by rfl) T.z_max boot_max (pa_cons (pe_un un_neg pe_int) (pa_cons (pe_op op_sub (pe_callTy call_int1 (by rfl) T.z_int boot_int (pa_cons (pe_fld (pv 2) rfl) pa_nil)) pe_int) pa_nil))) (nomark _)) (pe_one (pe_cmpR op_le (pe_fld (pv 6) rfl) (pe_fld (pv 2) rfl) (nomark _)))))))))), ?_⟩
    have ba : Bd a 140 := bd_of fun z hz => (ta z hz).abs
    have bA : Bd (trim a) 140 := bd_same ba (cf_trim a)
    have lA := trim_le a
    refine ⟨rfl, _, rfl, l1, a.map V.int, rfl, .inr (SqL.of h1), by rw [List.length_map]; omega, tyI _ _, fun zs ez p H1 P1 s1 => ?_, fun i v g1 g2 _ => (noI a i v g1 g2).elim⟩
    rw [← v_inj ez] at P1
    have hp1 := pen_same hp s1
    refine ⟨_, rfl, _, rfl, _, _, rfl, rfl, ⟨by decide, by decide, by decide⟩, (by show 6 ≤ sizeLine; decide), fun l2 h2 => ?_⟩
    refine ⟨pn, l2, n, _, rfl, upd_same, pen_ne hp1 h2, (by show 0 < 6; decide), (by show 6 ≤ 1000; decide), pen_new hp1 h2, by omega, fun v H3 hv p3 u3 => ?_⟩
    obtain ⟨sl, rfl, hw⟩ := mem_ints (zs := [0, 1, 2, -1, 7, 10 ^ Int.toNat 9]) hv
    have w0 : -1 ≤ sl ∧ sl ≤ 10 ^ 9 := by
      have e : (10 : Int) ^ Int.toNat 9 = 1000000000 := by decide
      simp only [List.mem_cons, List.mem_nil_iff, or_false] at hw
      rw [e] at hw
      rcases hw with e | e | e | e | e | e <;> omega
    obtain ⟨cl, q3⟩ := p3.cells
    refine ⟨_, rfl, pn, cl, 41, _, rfl, by decide, by decide, q3, by omega, fun d4 H4 a4 b4 q4 u4 => ?_⟩
    have U : But pn H H4 := (but_same s1).trans ((But.new h2).trans (u3.trans u4))
    have P4 : PolyAt C H4 p (trim a) := ((P1.same (same_new h2)).but (pen_new hp1 h2) u3).but p3 u4
    have e9 : (10 : Int) ^ 9 = 1000000000 := rfl
    rw [e9] at w0
    clear u3 u4 P1 s1 hv hw
    obtain ⟨d1, e1, x1, y1⟩ := id P4
    refine ⟨_, _, rfl, rfl, _, _, rfl, ?_⟩
    refine ⟨_, rfl, p, d1, _, rfl, x1, rfl, p, trim a, rfl, P4, by omega, bA.mono (by decide), fun q5 r5 H5 t5 c5 p5 s5 => ?_⟩
    have c5 : ∀ k, cf r5 k = mv 1 1 (trim a) k - cf (trim a) k := c5
    have P5 := P4.same s5
    obtain ⟨d1, e1, x1, y1⟩ := id P5
    have su : (d4 - 20).natAbs < 2 ^ 10 := by
      have e : (2 : Nat) ^ 10 = 1024 := rfl
      omega
    have sv : sl.natAbs < 2 ^ 31 := by
      have e : (2 : Nat) ^ 31 = 2147483648 := rfl
      omega
    refine ⟨_, rfl, p, d1, _, rfl, x1, rfl, _, rfl, _, rfl, p, sl, d4 - 20, trim a, rfl, P5, by omega, bA.mono (by decide), Nat.lt_of_lt_of_le su (by decide), Nat.lt_of_lt_of_le sv (by decide), fun q6 r6 H6 t6 c6 p6 s6 => ?_⟩
    have c6 : ∀ k, cf r6 k = mv (d4 - 20) sl (trim a) k := c6
    have P6 := P5.same s6
    have p5 := p5.same s6
    have q6' := (q4.same s5).same s6
    have U6 : But pn H H6 := U.trans ((but_same s5).trans (but_same s6))
    have l5 : r5.length ≤ 6 := len_le t5 fun k hk => by rw [c5, mv_out 1 1 _ k (by omega), cf_out (by omega)]; rfl
    have l6 : r6.length ≤ 6 := len_le t6 fun k hk => by rw [c6, mv_out _ _ _ k (by omega)]
    have l6' : r6.length ≤ (trim a).length := len_le t6 fun k hk => by rw [c6, mv_out _ _ _ k hk]
    have b6 : Bd r6 400 := fun k => by
      rw [c6]
      refine Nat.lt_of_lt_of_le (mv_bd (N := 31) (Nat.lt_of_lt_of_le su (by decide)) sv _ bA k) (Nat.pow_le_pow_right (by decide) ?_)
      omega
    have b5 : Bd r5 400 := fun k => by
      rw [c5]
      have g1 := mv_bd (u := 1) (v := 1) (N := 1) (by decide) (by decide) _ bA k
      have g2 := Nat.lt_of_lt_of_le g1 (Nat.pow_le_pow_right (n := 2) (j := 300) (by decide) (by omega))
      have g3 := Nat.lt_of_lt_of_le (bA k) (Nat.pow_le_pow_right (n := 2) (j := 300) (by decide) (by decide))
      have g4 : (2 : Nat) ^ 300 + 2 ^ 300 ≤ 2 ^ 400 := by decide +kernel
      omega
    have ok : ∀ {r : List Int} {m : Int}, r.length ≤ 6 → Bd r 400 → m.natAbs < 2 ^ 41 → ∀ k, k ≤ r.length → CMulW ((r.reverse.take k).foldl (fun f t => f * m + t) 0) m := fun g1 g2 g3 k _ => Sm.mul (take_bd' g3 (by omega) g2 k) g3
    clear U s5 s6 q4 P5 P4 y1 x1
    refine ⟨_, _, rfl, _, rfl, -4, 8, rfl, ⟨by decide, by decide, by decide, by decide⟩, for_range (n := 12) (fun i σ H' => ∃ v7, σ = [some (.ref pn), some (.ref l1), some (.ref p), some (.int sl), some (.int (d4 - 20)), some (.ref q5), some (.ref q6), v7] ∧ PolyAt C H' p (trim a) ∧ PolyAt C H' q5 r5 ∧ PolyAt C H' q6 r6 ∧ PenC H' pn cl (n + 1 + 1) ∧ But pn H H') ⟨none, rfl, P6, p5, p6, q6', U6⟩ ?_ ?_⟩
    · rintro i σ Hh hi ⟨v7, rfl, g1, g2, g3, g4, g5⟩
      have b41 : (2 : Nat) ^ 41 = 2199023255552 := rfl
      have sm : sl * (-4 + ((i : Nat) : Int)) ≤ 8000000000 ∧ -8000000000 ≤ sl * (-4 + ((i : Nat) : Int)) := by
        have z1 : (-4 + ((i : Nat) : Int)) ≤ 8 := by omega
        have z2 : -4 ≤ (-4 + ((i : Nat) : Int)) := by omega
        generalize (-4 + ((i : Nat) : Int)) = m at z1 z2
        have : (sl * m).natAbs ≤ 1000000000 * 8 := by
          rw [Int.natAbs_mul]
          exact Nat.mul_le_mul (by omega) (by omega)
        omega
      obtain ⟨y1, y2, y3, y4⟩ := id g2
      refine ⟨_, rfl, q5, rfl, _, rfl, ⟨_, _, y3⟩, q5, r5, _, rfl, g2, by omega, TyL.int C _ _, fun m em => ?_, fun z => Bool.noConfusion z⟩
      cases em
      refine ⟨ok l5 b5 (by omega), fun Hi si => ?_⟩
      have g1 := g1.same si
      have g2 := g2.same si
      have g3 := g3.same si
      have g4 := g4.same si
      have g5 := g5.trans (but_same si)
      clear y3 y4 si
      obtain ⟨y1, y2, y3, y4⟩ := id g1
      refine ⟨_, rfl, p, rfl, _, rfl, _, _, rfl, rfl, ⟨_, _, y3⟩, p, _, _, rfl, g1, by omega, TyL.int C _ _, fun m em => ?_, fun z => Bool.noConfusion z⟩
      cases em
      refine ⟨ok (by omega) (bA.mono (by decide)) (by omega), fun Hj sj => ?_⟩
      have g1 := g1.same sj
      have g2 := g2.same sj
      have g3 := g3.same sj
      have g4 := g4.same sj
      have g5 := g5.trans (but_same sj)
      clear y3 y4 sj
      obtain ⟨y1, y2, y3, y4⟩ := id g1
      refine ⟨_, rfl, p, rfl, _, rfl, ⟨_, _, y3⟩, p, _, _, rfl, g1, by omega, TyL.int C _ _, fun m em => ?_, fun z => Bool.noConfusion z⟩
      cases em
      refine ⟨ok (by omega) (bA.mono (by decide)) (by omega), fun Hk sk => ?_⟩
      have g1 := g1.same sk
      have g2 := g2.same sk
      have g3 := g3.same sk
      have g4 := g4.same sk
      have g5 := g5.trans (but_same sk)
      clear y3 y4 sk
      refine ⟨_, _, rfl, rfl, rfl, _, rfl, ?_⟩
      rw [step_evl c5]
      refine iteNS rfl ?_
      obtain ⟨y1, y2, y3, y4⟩ := id g3
      refine ⟨_, rfl, q6, rfl, _, rfl, ⟨_, _, y3⟩, q6, r6, _, rfl, g3, by omega, TyL.int C _ _, fun m em => ?_, fun z => Bool.noConfusion z⟩
      cases em
      refine ⟨ok l6 b6 (by omega), fun Hl sl' => ?_⟩
      have g1 := g1.same sl'
      have g2 := g2.same sl'
      have g3 := g3.same sl'
      have g4 := g4.same sl'
      have g5 := g5.trans (but_same sl')
      clear y3 y4 sl'
      obtain ⟨y1, y2, y3, y4⟩ := id g1
      refine ⟨_, rfl, p, rfl, _, rfl, _, rfl, _, _, rfl, rfl, .inl ⟨by omega, by omega⟩, _, rfl, _, _, rfl, rfl, ⟨_, _, y3⟩, p, _, _, rfl, g1, by omega, TyL.int C _ _, fun m em => ?_, fun z => Bool.noConfusion z⟩
      cases em
      refine ⟨ok (by omega) (bA.mono (by decide)) (by omega), fun Hm sm' => ?_⟩
      have g1 := g1.same sm'
      have g2 := g2.same sm'
      have g3 := g3.same sm'
      have g4 := g4.same sm'
      have g5 := g5.trans (but_same sm')
      clear y3 y4 sm'
      refine ⟨rfl, _, rfl, ?_⟩
      rw [mv_evl _ _ _ _ _ c6]
      exact iteNS rfl ⟨_, rfl, g1, g2, g3, g4, g5⟩
    rintro σ Hh ⟨v7, rfl, g1, g2, g3, g4, g5⟩
    obtain ⟨z1, z2, z3, z4⟩ := id g1
    obtain ⟨y1, y2, y3, y4⟩ := id g2
    obtain ⟨x1, x2, x3, x4⟩ := id g3
    refine ⟨_, rfl, q5, C, y1, _, .int ((r5.length : Int) - 1), rfl, y3, T.cl, T.nD, pfs_deg _ _, _, rfl, _, rfl, p, C, z1, _, .int (((trim a).length : Int) - 1), rfl, z3, T.cl, T.nD, pfs_deg _ _, ?_⟩
    refine .inl ⟨_, rfl, _, _, rfl, rfl, _, _, rfl, rfl, ?_⟩
    have lr : r5.length = (trim a).length - 1 := step_len (trim_tight a) t5 c5
    have em : (if ((trim a).length : Int) - 1 - 1 > -1 then ((trim a).length : Int) - 1 - 1 else -1) = (r5.length : Int) - 1 := by
      split <;> omega
    refine ⟨true, ?_, iteT ?_⟩
    · have e : ∀ x y : Int, x = y → V.bl (decide (V.int x = V.int y)) = V.bl true := fun x y e => by rw [e, decide_eq_true rfl]
      exact e _ _ em.symm
    refine ⟨_, rfl, q6, C, x1, _, .int ((r6.length : Int) - 1), rfl, x3, T.cl, T.nD, pfs_deg _ _, _, rfl, p, C, z1, _, .int (((trim a).length : Int) - 1), rfl, z3, T.cl, T.nD, pfs_deg _ _, _, _, rfl, rfl, ?_⟩
    show Q (.bl (decide ((r6.length : Int) - 1 ≤ ((trim a).length : Int) - 1))) Hh
    rw [decide_eq_true (show ((r6.length : Int) - 1 ≤ ((trim a).length : Int) - 1) by omega)]
    exact k Hh (g4.pen.le (by omega)) g5
end
end My
set_option pp.maxSteps 1500
set_option pp.deepTerms.threshold 8
namespace My
open PySem PySem.Spec PyProof.Rows L2
abbrev s_law : Stmt := topS 38
theorem sc_law : FnScope ["_law_script", "_law_pen_here", "_law_turn", "_law_one", "_law_other", "_law_number"] ["_law_script"] (defScope s_law) := ⟨rfl, rfl, rfl, by decide +kernel, rfl, by decide +kernel, by decide +kernel⟩
def spLaw (K : PySem.W.Frag) (TS : List (Addr × Str)) : Sp := fun vs H Q _ => ∃ (a : Addr) (ns : List Int), vs = [.ref a] ∧ SqL K H a (ns.map V.int) ∧ LamX.Tabs TS H ∧ ∀ (H' : Hp), Q (.bl true) H'
section
variable {P : Program} {w : World} {K : PySem.W.Frag} {mg : Str → Option Value} {base : Heap} {C CB fB CP fP CI fI : Addr}
theorem ok_law {f : Addr} {fd : FuncData} (F : Fun K "law" "law" s_law f fd) (T : PTy P K mg C CB fB CP fP CI fI)
    (D_pen : DefAt P w K mg base CX0 1 "_law_pen" ["_law_script"] (spPen K)) (D_lterms : DefAt P w K mg base CX0 3 "_law_terms" ["_law_pen_here", "_law_most"] spTerms)
    (D_draw : DefAt P w K mg base CX0 1 "_law_draw" ["_law_pen_here", "_law_many"] spDrawC) (D_pick : DefAt P w K mg base CX0 2 "_law_pick" ["_law_pen_here", "_law_some"] spPick)
    (D_twoR : DefG P w K mg base CX0 9 "_law_two_right" ["_law_one", "_law_other"] spTwoR) (D_numR : DefG P w K mg base CX0 9 "_law_number_right" ["_law_one", "_law_number"] spNumR) (D_movR : DefAt P w K mg base CX0 9 "_law_moved_right" ["_law_pen_here", "_law_one"] spMovR) : FnG P w K mg base CX0 11 f fd ["_law_script"] (spLaw K []) := by
  refine okG F sc_law (fun vs H Q E h => ?_) (fun cdv A outer s H vs Q E hf hgd hr h => ?_)
  · obtain ⟨a, ns, rfl, _⟩ := h
    rfl
  · obtain ⟨sc, ns, rfl, hs, _, k⟩ := h
    refine ⟨_, (pss_cons (ps_set (i := 1) sc_law.nd rfl (Or.inl rfl) (My.pe_d D_pen (hr.mono (by decide)) (by rfl) pass0 (pa_cons (pv 0) pa_nil)))
      (pss_cons (ps_for PassesOwn.never rfl (pi_range1 rfl T.z_range (pa_cons pe_int pa_nil)) (pg_name (i := 2) sc_law.nd rfl (Or.inl rfl)) (pss_cons (ps_par (i := 3) (j := 4) (by rfl) sc_law.nd rfl rfl (by decide) rfl rfl (pa_cons (My.pe_d D_lterms (hr.mono (by decide)) (by rfl) pass0 (pa_cons (pv 1) (pa_cons pe_int pa_nil))) (pa_cons (My.pe_d D_lterms (hr.mono (by decide)) (by rfl) pass0 (pa_cons (pv 1) (pa_cons pe_int pa_nil))) pa_nil)) (by rfl))
      (pss_cons (ps_set (i := 5) sc_law.nd rfl (Or.inl rfl) (My.pe_d D_pick (hr.mono (by decide)) (by rfl) pass0 (pa_cons (pv 1) (pa_cons (pe_lst (pa_cons pe_int (pa_cons pe_int (pa_cons (pe_un un_neg pe_int) (pa_cons (pe_op op_sub (My.pe_d D_draw (hr.mono (by decide)) (by rfl) pass0 (pa_cons (pv 1) (pa_cons pe_int pa_nil))) pe_int) (pa_cons (pe_op op_pow pe_int pe_int) pa_nil)))))) pa_nil))))
      (pss_one (ps_if (PW.pt (pw_or (pt_not (pt_val (My.pe_dG D_twoR hgd (hr.mono (by decide)) (by rfl) pass0 (pa_cons (pv 3) (pa_cons (pv 4) pa_nil))))) (pw_or (pt_not (pt_val (My.pe_dG D_numR hgd (hr.mono (by decide)) (by rfl) pass0 (pa_cons (pv 3) (pa_cons (pv 5) pa_nil))))) (pw_or1 (pt_not (pt_val (My.pe_d D_movR (hr.mono (by decide)) (by rfl) pass0 (pa_cons (pv 1) (pa_cons (pv 3) pa_nil))))))))) (pss_one (ps_ret pe_bl)) pss_nil)))))
      (pss_one (ps_ret pe_bl)))), ?_⟩
    refine ⟨_, rfl, sc, ns, rfl, hs, fun pn H1 h1 p1 s1 => ?_⟩
    refine ⟨8, rfl, by decide, by decide, for_range (fun i σ H' => ∃ v2 v3 v4 v5, σ = [some (.ref sc), some (.ref pn), v2, v3, v4, v5] ∧ PenAt H' pn (100 * i)) ⟨none, none, none, none, rfl, p1⟩ ?_ ?_⟩
    · rintro i σ H' hi ⟨v2, v3, v4, v5, rfl, hp⟩
      have hi8 : i < 8 := hi
      refine ⟨_, rfl, pn, 100 * i, 6, rfl, by decide, hp, by omega, fun l1 a H2 la ta g1 h1 p2 u2 => ?_⟩
      refine ⟨_, rfl, pn, _, 6, rfl, by decide, p2, by omega, fun l2 b H3 lb tb g2 h2 p3 u3 => ⟨_, _, rfl, ?_⟩⟩
      have n1 : l1 ≠ pn := pen_ne hp g1
      have n2 : l2 ≠ pn := pen_ne p2 g2
      have h1 := u3 _ _ h1 n1
      obtain ⟨cl, q3⟩ := p3.cells
      refine ⟨_, rfl, _, rfl, _, rfl, pn, cl, 1000, _, rfl, by decide, by decide, q3, by omega, fun d4 H4 a4 b4 q4 u4 => ⟨_, _, rfl, rfl, _, _, rfl, rfl, ⟨by decide, by decide, by decide⟩, (by show 5 ≤ sizeLine; decide), fun l5 h5 => ?_⟩⟩
      have h1 := u4 _ _ h1 n1
      have h2 := u4 _ _ h2 n2
      have p4 := q4.pen
      refine ⟨pn, l5, _, _, rfl, upd_same, pen_ne p4 h5, (by show 0 < 5; decide), (by show 5 ≤ 1000; decide), pen_new p4 h5, by omega, fun v H6 hv p6 u6 => ?_⟩
      obtain ⟨nm, rfl, hw⟩ := mem_ints (zs := [0, 1, -1, d4 - 500, 10 ^ Int.toNat 40]) hv
      have tn : Tm nm := by
        have e : (10 : Int) ^ Int.toNat 40 = 10000000000000000000000000000000000000000 := by decide
        have e2 : (10 : Int) ^ 40 = 10000000000000000000000000000000000000000 := by decide
        unfold Tm
        rw [e2]
        simp only [List.mem_cons, List.mem_nil_iff, or_false] at hw
        rw [e] at hw
        rcases hw with e | e | e | e | e <;> omega
      have U6 := (But.new (pn := pn) (o := .lst ([0, 1, -1, d4 - 500, 10 ^ Int.toNat 40].map V.int)) h5).trans u6
      have h1 := U6 _ _ h1 n1
      have h2 := U6 _ _ h2 n2
      refine ⟨_, rfl, _, rfl, l1, l2, a, b, rfl, h1, h2, la, lb, ta, tb, fun H7 s7 => ⟨_, rfl, iteF ?_⟩⟩
      refine ⟨_, rfl, _, rfl, l1, nm, a, rfl, s7 _ _ h1, la, ta, tn, fun H8 s8 => ⟨_, rfl, iteF ?_⟩⟩
      refine ⟨_, rfl, _, rfl, pn, l1, _, a, rfl, pen_same (pen_same p6 s7) s8, by omega, s8 _ _ (s7 _ _ h1), n1, la, ta, fun H9 p9 u9 => ⟨_, rfl, iteF ?_⟩⟩
      exact ⟨_, _, _, _, rfl, p9.le (by omega)⟩
    · rintro σ H' ⟨v2, v3, v4, v5, rfl, hp⟩
      exact k _
end
end My
namespace My
open PySem PySem.Spec PyProof.Rows L2
theorem all_mk {l : PySem.W.OpenLaw} {w : World} {K : PySem.W.Frag} {h : Heap} {mg : Str → Option Value} {fa CE C CB fB CP fP CI fI : Addr}  (hfa : mg "law" = some (.ref fa))
    (_gP : mg "Poly" = some (.ref C))
    (_gB : mg "BadPoly" = some (.ref CB))
    (_gPl : mg "BadPlace" = some (.ref CP))
    (_gI : mg "NoIndex" = some (.ref CI))
    (_gE : mg "ClipError" = some (.ref CE))
    (_iCB : PySem.W.findIn K (.ref CB) "__init__" = some (some (.ref fB)))
    (_iCP : PySem.W.findIn K (.ref CP) "__init__" = some (some (.ref fP)))
    (_iCI : PySem.W.findIn K (.ref CI) "__init__" = some (some (.ref fI)))
    (T : PTx l.prog K mg C CB fB CP fP CI fI)
    (mk : PySem.W.makesIn K C = true)
    (kp : PySem.W.keepIn K (.ref C) = true)
    (A_pinit : HasM K C "__init__" "Poly.__init__" s_pinit)
    (A_pof : HasCM K C "of" "Poly.of" s_pof)
    (A_whole0 : Has K mg "is_whole" s_whole0)
    (A_needint : Has K mg "need_integer" s_needint)
    (A_wend : Has K mg "without_end" s_wend)
    (A_termof : Has K mg "term_of" s_termof)
    (A_pen : Has K mg "_law_pen" s_pen)
    (A_draw : Has K mg "_law_draw" s_draw)
    (A_pick : Has K mg "_law_pick" s_pick)
    (z_sum : mg "sum" = none)
    (z_max : mg "max" = none)
    (z_min : mg "min" = none)
    (z_zip : mg "zip" = none)
    (B_add : BinF K C (Operator.info .Add).2)
    (R_add : RefF K C (Operator.info .Add).2)
    (N_add : InpF K C (Operator.info .Add).2)
    (B_sub : BinF K C (Operator.info .Sub).2)
    (R_sub : RefF K C (Operator.info .Sub).2)
    (N_sub : InpF K C (Operator.info .Sub).2)
    (B_mul : BinF K C (Operator.info .Mult).2)
    (R_mul : RefF K C (Operator.info .Mult).2)
    (N_mul : InpF K C (Operator.info .Mult).2)
    (A_peq : HasM K C "__eq__" "Poly.__eq__" s_peq)
    (A_padd : HasM K C "__add__" "Poly.__add__" s_padd)
    (A_pradd : HasM K C "__radd__" "Poly.__radd__" s_pradd)
    (A_pneg : HasM K C "__neg__" "Poly.__neg__" s_pneg)
    (A_psub : HasM K C "__sub__" "Poly.__sub__" s_psub)
    (A_prsub : HasM K C "__rsub__" "Poly.__rsub__" s_prsub)
    (A_pmul : HasM K C "__mul__" "Poly.__mul__" s_pmul)
    (A_prmul : HasM K C "__rmul__" "Poly.__rmul__" s_prmul)
    (A_palong : HasM K C "along" "Poly.along" s_palong)
    (A_pstep : HasM K C "step" "Poly.step" s_pstep)
    (A_prodof : Has K mg "product_of" s_prodof)
    (A_lterms : Has K mg "_law_terms" s_lterms)
    (A_lcut : Has K mg "_law_cut" s_lcut)
    (A_lsum : Has K mg "_law_sum" s_lsum)
    (A_lprod : Has K mg "_law_product" s_lprod)
    (A_twoR : Has K mg "_law_two_right" s_twoR)
    (A_numR : Has K mg "_law_number_right" s_numR)
    (A_movR : Has K mg "_law_moved_right" s_movR)
    (A_law : Has K mg "law" s_law)
    (A_pcall : HasM K C "__call__" "Poly.__call__" s_pcall)
    : LawG l w K 11 63 "_law_script" mg fa h := by
  obtain ⟨fl, fdl, hl, Fl⟩ := A_law.ex
  have e := hfa.symm.trans hl
  cases e
  refine ⟨fdl, [], spLaw K [], (fun p hp => nomatch hp), fun s u => ?_, fun H a ns hn hb ht hs => ?_, fun base hK hN hT => ?_⟩
  · obtain ⟨oc, od, kV, doc, pm, an, cdv, ct, osl, rfl, _⟩ := Fl.ex
    exact .of_eq rfl
  · exact ⟨a, ns, rfl, hs, (fun p hp => nomatch hp), fun _ => rfl⟩
  · have D_whole0 : DefAt l.prog w K mg base CX0 1 "is_whole" ["value"] (spWhole0 C) := def_at A_whole0 (fun f fd F => ok_whole0 F T) fun _ _ _ _ _ _ us hl => match us, hl with | [_], _ => rfl
    have D_needint : DefAt l.prog w K mg base (L2.CX l.prog w) 2 "need_integer" ["value"] (spNeed C CP) := def_at A_needint (fun f fd F => ok_needint F T D_whole0) fun _ _ _ _ _ _ us hl => match us, hl with | [_], _ => rfl
    have D_wend : DefAt l.prog w K mg base CX0 1 "without_end" ["terms"] spWend := def_at A_wend (fun f fd F => ok_wend F T) fun _ _ _ _ _ _ us hl => match us, hl with | [_], _ => rfl
    have D_termof : DefAt l.prog w K mg base CX0 1 "term_of" ["terms", "k"] (spTermof K) := def_at A_termof (fun f fd F => ok_termof F T) fun _ _ _ _ _ _ us hl => match us, hl with | [_, _], _ => rfl
    have D_pen : DefAt l.prog w K mg base CX0 1 "_law_pen" ["_law_script"] (spPen K) := def_at A_pen (fun f fd F => ok_pen F T.toBI) fun _ _ _ _ _ _ us hl => match us, hl with | [_], _ => rfl
    have D_draw : DefAt l.prog w K mg base CX0 1 "_law_draw" ["_law_pen_here", "_law_many"] spDrawC := def_at A_draw (fun f fd F => ok_drawC F T.toBI) fun _ _ _ _ _ _ us hl => match us, hl with | [_, _], _ => rfl
    have M_Poly : MakeR l.prog w K mg base (L2.CX l.prog w) 3 "Poly" C (spPoly C CB) := makeR_at A_pinit T.gP mk kp fun f _ _ _ _ _ _ _ _ _ lk hcd => ok_pinit (fd := PySem.W.fnOf "" "" default [] default .none .none .none .none none .none .none) lk hcd T D_whole0 D_wend
    have K_of : ClsAt l.prog w K mg base (L2.CX l.prog w) 5 C "of" (spPof K C CB) := cls_at A_pof (fun f fd F => ok_pof F T M_Poly) fun _ _ _ _ _ _ us hl => match us, hl with | [_, _], _ => rfl
    have C_Poly : CallAt l.prog w K mg base (L2.CX l.prog w) 3 C ["self", "m"] (spPcall C CP) := call_at A_pcall (fun f fd F => ok_pcall F T D_needint) fun _ _ _ _ _ _ us hl => match us, hl with | [_, _], _ => rfl
    have Ty : PTy l.prog K mg C CB fB CP fP CI fI := ⟨T, z_sum, z_max, z_min, z_zip⟩
    have D_pick : DefAt l.prog w K mg base CX0 2 "_law_pick" ["_law_pen_here", "_law_some"] spPick := def_at A_pick (fun f fd F => ok_pick F T.toBI (def_at A_draw (fun f fd F => ok_draw F T.toBI) fun _ _ _ _ _ _ us hl => match us, hl with | [_, _], _ => rfl)) fun _ _ _ _ _ _ us hl => match us, hl with | [_, _], _ => rfl
    have D_prodof : DefAt l.prog w K mg base CX0 2 "product_of" ["one", "other"] spProd := def_at A_prodof (fun f fd F => ok_prodof F Ty D_termof) fun _ _ _ _ _ _ us hl => match us, hl with | [_, _], _ => rfl
    have CE_eq : CmpAt l.prog w K mg base CX0 1 C "__eq__" ["self", "other"] (spPeq C) := cmp_at A_peq (fun f fd F => ok_peq F T) fun _ _ _ _ _ _ us hl => match us, hl with | [_, _], _ => rfl
    have O_add0 : CmpAt l.prog w K mg base CX0 5 C "__add__" ["self", "other"] (spPadd0 C) := cmp_at A_padd (fun f fd F => ok_padd0 F Ty D_whole0 D_termof M_Poly) fun _ _ _ _ _ _ us hl => match us, hl with | [_, _], _ => rfl
    have O_add : CmpAt l.prog w K mg base CX0 6 C "__add__" ["self", "other"] (spPadd C) := cmp_at A_padd (fun f fd F => ok_padd F Ty D_whole0 D_termof M_Poly O_add0 B_add) fun _ _ _ _ _ _ us hl => match us, hl with | [_, _], _ => rfl
    have O_radd : CmpAt l.prog w K mg base CX0 7 C "__radd__" ["self", "other"] (spPadd C) := cmp_at A_pradd (fun f fd F => ok_pradd F Ty O_add B_add) fun _ _ _ _ _ _ us hl => match us, hl with | [_, _], _ => rfl
    have O_neg : CmpAt l.prog w K mg base CX0 5 C "__neg__" ["self"] (spPneg C) := cmp_at A_pneg (fun f fd F => ok_pneg F Ty M_Poly) fun _ _ _ _ _ _ us hl => match us, hl with | [_], _ => rfl
    have O_sub : CmpAt l.prog w K mg base CX0 7 C "__sub__" ["self", "other"] (spPsub C) := cmp_at A_psub (fun f fd F => ok_psub F Ty O_add O_neg B_add) fun _ _ _ _ _ _ us hl => match us, hl with | [_, _], _ => rfl
    have O_rsub : CmpAt l.prog w K mg base CX0 7 C "__rsub__" ["self", "other"] (spPrsub C) := cmp_at A_prsub (fun f fd F => ok_prsub F Ty O_add O_neg B_add) fun _ _ _ _ _ _ us hl => match us, hl with | [_, _], _ => rfl
    have O_mul0 : CmpAt l.prog w K mg base CX0 5 C "__mul__" ["self", "other"] (spPmul0 C) := cmp_at A_pmul (fun f fd F => ok_pmul0 F Ty D_whole0 D_prodof M_Poly) fun _ _ _ _ _ _ us hl => match us, hl with | [_, _], _ => rfl
    have O_mul : CmpAt l.prog w K mg base CX0 6 C "__mul__" ["self", "other"] (spPmul C) := cmp_at A_pmul (fun f fd F => ok_pmul F Ty D_whole0 D_prodof M_Poly O_mul0 B_mul) fun _ _ _ _ _ _ us hl => match us, hl with | [_, _], _ => rfl
    have O_rmul : CmpAt l.prog w K mg base CX0 7 C "__rmul__" ["self", "other"] (spPmul C) := cmp_at A_prmul (fun f fd F => ok_prmul F Ty O_mul B_mul) fun _ _ _ _ _ _ us hl => match us, hl with | [_, _], _ => rfl
    have MT_along : MethAt l.prog w K mg base CX0 7 C "along" ["self", "slope", "more"] (spPalong C) := meth_at A_palong (fun f fd F => ok_palong F Ty M_Poly O_add O_mul B_add B_mul) fun _ _ _ _ _ _ us hl => match us, hl with | [_, _, _], _ => rfl
    have MT_step : MethAt l.prog w K mg base CX0 8 C "step" ["self"] (spPstep C) := meth_at A_pstep (fun f fd F => ok_pstep F Ty MT_along O_sub B_sub) fun _ _ _ _ _ _ us hl => match us, hl with | [_], _ => rfl
    have D_lterms : DefAt l.prog w K mg base CX0 3 "_law_terms" ["_law_pen_here", "_law_most"] spTerms := def_at A_lterms (fun f fd F => ok_lterms F T D_draw D_pick) fun _ _ _ _ _ _ us hl => match us, hl with | [_, _], _ => rfl
    have D_lcut : DefAt l.prog w K mg base CX0 1 "_law_cut" ["_law_terms_here"] (spCut K) := def_at A_lcut (fun f fd F => ok_lcut F T) fun _ _ _ _ _ _ us hl => match us, hl with | [_], _ => rfl
    have D_lsum : DefAt l.prog w K mg base CX0 2 "_law_sum" ["_law_one", "_law_other", "_law_sign"] spLsum := def_at A_lsum (fun f fd F => ok_lsum F Ty D_lcut) fun _ _ _ _ _ _ us hl => match us, hl with | [_, _, _], _ => rfl
    have D_lprod : DefAt l.prog w K mg base CX0 2 "_law_product" ["_law_one", "_law_other"] spLprod := def_at A_lprod (fun f fd F => ok_lprod F Ty D_lcut) fun _ _ _ _ _ _ us hl => match us, hl with | [_, _], _ => rfl
    have D_twoR : DefG l.prog w K mg base CX0 9 "_law_two_right" ["_law_one", "_law_other"] spTwoR := def_atG A_twoR (fun f fd F => ok_twoR F Ty D_lcut D_lsum D_lprod K_of O_add O_sub O_mul O_neg B_add B_sub B_mul) fun _ _ _ _ _ _ us hl => match us, hl with | [_, _], _ => rfl
    have D_numR : DefG l.prog w K mg base CX0 9 "_law_number_right" ["_law_one", "_law_number"] spNumR := def_atG A_numR (fun f fd F => ok_numR F Ty D_lsum D_lprod K_of CE_eq O_add O_sub O_mul O_radd O_rsub O_rmul B_add B_sub B_mul R_add R_sub R_mul N_add N_sub N_mul) fun _ _ _ _ _ _ us hl => match us, hl with | [_, _], _ => rfl
    have D_movR : DefAt l.prog w K mg base CX0 9 "_law_moved_right" ["_law_pen_here", "_law_one"] spMovR := def_at A_movR (fun f fd F => ok_movR F Ty D_draw D_pick K_of C_Poly MT_along MT_step) fun _ _ _ _ _ _ us hl => match us, hl with | [_, _], _ => rfl
    exact ok_law Fl Ty D_pen D_lterms D_draw D_pick D_twoR D_numR D_movR
end My
open PySem PySem.W PyProof.Rows
set_option maxRecDepth 100000 in
set_option maxHeartbeats 0 in
theorem PySem.Challenge.cw_clipfades_k06_polys_reckoned_holds : PySem.Challenge.rw_clipfades_k06_polys_reckoned.Holds := by
  w_on; o_law; k_head; (case hw => w_witness2)
  k_fill
  refine My.walk_G (l := PySem.Challenge.rw_clipfades_k06_polys_reckoned) (n := 63) (k := 11) (x := "_law_script") rfl (by decide) rfl ⟨rfl, by decide, by decide⟩ (fun w h Y => by first | exact PySem.W.km_in_of Y | exact PySem.W.kIn_of Y) ?F
  case F =>
    intro w mg fa h Y KX G hmg tf
    have bi : My.BI mg := ⟨mg_none_of KX G (by k_is), mg_none_of KX G (by k_is), mg_none_of KX G (by k_is), mg_none_of KX G (by k_is), mg_none_of KX G (by k_is), mg_none_of KX G (by k_is), mg_none_of KX G (by k_is), mg_none_of KX G (by k_is)⟩
    refine' My.all_mk hmg ?gP ?gB ?gPl ?gI ?gE ?iCB ?iCP ?iCI ?T ?mk ?kp ?A_pinit ?A_pof ?A_whole0 ?A_needint ?A_wend ?A_termof ?A_pen ?A_draw ?A_pick ?z_sum ?z_max ?z_min ?z_zip ?B_add ?R_add ?N_add ?B_sub ?R_sub ?N_sub ?B_mul ?R_mul ?N_mul ?A_peq ?A_padd ?A_pradd ?A_pneg ?A_psub ?A_prsub ?A_pmul ?A_prmul ?A_palong ?A_pstep ?A_prodof ?A_lterms ?A_lcut ?A_lsum ?A_lprod ?A_twoR ?A_numR ?A_movR ?A_law ?A_pcall
    case gP => exact mg_of KX G (by k_is)
    case gB => exact mg_of KX G (by k_is)
    case gPl => exact mg_of KX G (by k_is)
    case gI => exact mg_of KX G (by k_is)
    case gE => exact mg_of KX G (by k_is)
    case iCB => k_is
    case iCP => k_is
    case iCI => k_is
    case T => exact ⟨bi, ⟨by k_is, by k_is, by k_is, by k_is⟩, show PySem.W.findIn _ (.ref _) "terms" = some none by k_is, show PySem.W.findIn _ (.ref _) "degree" = some none by k_is, mg_of KX G (by k_is), by k_is, by k_is, by k_is, by k_is, by kernel_rfl,
      ⟨mg_of KX G (by k_is), ⟨⟨_, _, _, _, _, _, _, _, _, _, _, _, _, _, _, by k_is, by decide⟩, by k_is, by k_is, by k_is, by k_is⟩, ⟨by k_is, by k_is, by k_is, by k_is⟩, by k_is, My.nm_at, by k_is, by k_is,
      ⟨_, _, _, _, _, _, _, _, _, _, _, _, _, _, _, _, _, _, _, _, _, _, by k_is, by k_is, ⟨_, _, _, by k_is⟩, _, _, _, _, _, _, by k_is, rfl, by decide +kernel, rfl⟩, by ks_is, by k_is, by k_is, mg_none_of KX G (by k_is), by k_is, by decide +kernel⟩, ⟨mg_of KX G (by k_is), ⟨⟨_, _, _, _, _, _, _, _, _, _, _, _, _, _, _, by k_is, by decide⟩, by k_is, by k_is, by k_is, by k_is⟩, ⟨by k_is, by k_is, by k_is, by k_is⟩, by k_is, My.nm_value, by k_is, by k_is,
      ⟨_, _, _, _, _, _, _, _, _, _, _, _, _, _, _, _, _, _, _, _, _, _, by k_is, by k_is, ⟨_, _, _, by k_is⟩, _, _, _, _, _, _, by k_is, rfl, by decide +kernel, rfl⟩, by ks_is, by k_is, by k_is, mg_none_of KX G (by k_is), by k_is, by decide +kernel⟩, ⟨mg_of KX G (by k_is), ⟨⟨_, _, _, _, _, _, _, _, _, _, _, _, _, _, _, by k_is, by decide⟩, by k_is, by k_is, by k_is, by k_is⟩, ⟨by k_is, by k_is, by k_is, by k_is⟩, by k_is, My.nm_value, by k_is, by k_is,
      ⟨_, _, _, _, _, _, _, _, _, _, _, _, _, _, _, _, _, _, _, _, _, _, by k_is, by k_is, ⟨_, _, _, by k_is⟩, _, _, _, _, _, _, by k_is, rfl, by decide +kernel, rfl⟩, by ks_is, by k_is, by k_is, mg_none_of KX G (by k_is), by k_is, by decide +kernel⟩, mg_none_of KX G (by k_is), mg_none_of KX G (by k_is), mg_none_of KX G (by k_is), by kernel_rfl, My.kinds7 (by kernel_rfl) (by k_is) (by kernel_rfl) (by k_is) (by kernel_rfl) (by k_is) (by kernel_rfl) (by k_is) (by kernel_rfl) (by k_is) (by kernel_rfl) (by k_is) (by kernel_rfl) (by k_is), by k_is⟩
    case mk => k_is
    case kp => k_is
    case A_pinit => exact ⟨_, _, by k_is, by k_is, L2.fun_mk (by k_is) (by k_is) (by k_is)⟩
    case A_pof => exact ⟨.type "type", _, _, _, ⟨by k_is, by k_is⟩, ⟨by k_is, ⟨_, by k_is⟩, by k_is⟩, L2.fun_mk (by k_is) (by k_is) (by k_is)⟩
    case A_whole0 => exact ⟨_, _, mg_of KX G (by k_is), L2.fun_mk (by k_is) (by k_is) (by k_is)⟩
    case A_needint => exact ⟨_, _, mg_of KX G (by k_is), L2.fun_mk (by k_is) (by k_is) (by k_is)⟩
    case A_wend => exact ⟨_, _, mg_of KX G (by k_is), L2.fun_mk (by k_is) (by k_is) (by k_is)⟩
    case A_termof => exact ⟨_, _, mg_of KX G (by k_is), L2.fun_mk (by k_is) (by k_is) (by k_is)⟩
    case A_pen => exact ⟨_, _, mg_of KX G (by k_is), L2.fun_mk (by k_is) (by k_is) (by k_is)⟩
    case A_draw => exact ⟨_, _, mg_of KX G (by k_is), L2.fun_mk (by k_is) (by k_is) (by k_is)⟩
    case A_pick => exact ⟨_, _, mg_of KX G (by k_is), L2.fun_mk (by k_is) (by k_is) (by k_is)⟩
    case z_sum => exact mg_none_of KX G (by k_is)
    case z_max => exact mg_none_of KX G (by k_is)
    case z_min => exact mg_none_of KX G (by k_is)
    case z_zip => exact mg_none_of KX G (by k_is)
    case B_add => exact ⟨by k_is, ⟨_, by k_is, .inr ⟨_, rfl⟩⟩, ⟨_, by k_is⟩, ⟨_, by k_is⟩, by k_is⟩
    case R_add => exact ⟨by k_is, ⟨_, by k_is⟩, ⟨_, _, by k_is, by k_is, by decide +kernel⟩, by k_is⟩
    case N_add => exact ⟨⟨_, by k_is, rfl⟩, by k_is, by k_is⟩
    case B_sub => exact ⟨by k_is, ⟨_, by k_is, .inr ⟨_, rfl⟩⟩, ⟨_, by k_is⟩, ⟨_, by k_is⟩, by k_is⟩
    case R_sub => exact ⟨by k_is, ⟨_, by k_is⟩, ⟨_, _, by k_is, by k_is, by decide +kernel⟩, by k_is⟩
    case N_sub => exact ⟨⟨_, by k_is, rfl⟩, by k_is, by k_is⟩
    case B_mul => exact ⟨by k_is, ⟨_, by k_is, .inr ⟨_, rfl⟩⟩, ⟨_, by k_is⟩, ⟨_, by k_is⟩, by k_is⟩
    case R_mul => exact ⟨by k_is, ⟨_, by k_is⟩, ⟨_, _, by k_is, by k_is, by decide +kernel⟩, by k_is⟩
    case N_mul => exact ⟨⟨_, by k_is, rfl⟩, by k_is, by k_is⟩
    case A_peq => exact ⟨_, _, by k_is, by k_is, L2.fun_mk (by k_is) (by k_is) (by k_is)⟩
    case A_padd => exact ⟨_, _, by k_is, by k_is, L2.fun_mk (by k_is) (by k_is) (by k_is)⟩
    case A_pradd => exact ⟨_, _, by k_is, by k_is, L2.fun_mk (by k_is) (by k_is) (by k_is)⟩
    case A_pneg => exact ⟨_, _, by k_is, by k_is, L2.fun_mk (by k_is) (by k_is) (by k_is)⟩
    case A_psub => exact ⟨_, _, by k_is, by k_is, L2.fun_mk (by k_is) (by k_is) (by k_is)⟩
    case A_prsub => exact ⟨_, _, by k_is, by k_is, L2.fun_mk (by k_is) (by k_is) (by k_is)⟩
    case A_pmul => exact ⟨_, _, by k_is, by k_is, L2.fun_mk (by k_is) (by k_is) (by k_is)⟩
    case A_prmul => exact ⟨_, _, by k_is, by k_is, L2.fun_mk (by k_is) (by k_is) (by k_is)⟩
    case A_palong => exact ⟨_, _, by k_is, by k_is, L2.fun_mk (by k_is) (by k_is) (by k_is)⟩
    case A_pstep => exact ⟨_, _, by k_is, by k_is, L2.fun_mk (by k_is) (by k_is) (by k_is)⟩
    case A_prodof => exact ⟨_, _, mg_of KX G (by k_is), L2.fun_mk (by k_is) (by k_is) (by k_is)⟩
    case A_lterms => exact ⟨_, _, mg_of KX G (by k_is), L2.fun_mk (by k_is) (by k_is) (by k_is)⟩
    case A_lcut => exact ⟨_, _, mg_of KX G (by k_is), L2.fun_mk (by k_is) (by k_is) (by k_is)⟩
    case A_lsum => exact ⟨_, _, mg_of KX G (by k_is), L2.fun_mk (by k_is) (by k_is) (by k_is)⟩
    case A_lprod => exact ⟨_, _, mg_of KX G (by k_is), L2.fun_mk (by k_is) (by k_is) (by k_is)⟩
    case A_twoR => exact ⟨_, _, mg_of KX G (by k_is), L2.fun_mk (by k_is) (by k_is) (by k_is)⟩
    case A_numR => exact ⟨_, _, mg_of KX G (by k_is), L2.fun_mk (by k_is) (by k_is) (by k_is)⟩
    case A_movR => exact ⟨_, _, mg_of KX G (by k_is), L2.fun_mk (by k_is) (by k_is) (by k_is)⟩
    case A_law => exact ⟨_, _, mg_of KX G (by k_is), L2.fun_mk (by k_is) (by k_is) (by k_is)⟩
    case A_pcall => exact ⟨_, _, by k_is, by k_is, L2.fun_mk (by k_is) (by k_is) (by k_is)⟩
