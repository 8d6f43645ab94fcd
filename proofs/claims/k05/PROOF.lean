import PyProof.Rows.All
import Wide.All
import OpenK.AllK
import Wide.FinOn
import HandS.ForMost
import HandS.ForExc
import HandS.ExcInit
import HandS.ExcField
import HandS.Lambda
import HandS.IsInst
import KE.KExcIs
import PyProof.Rows.NestShow
import KE.KExcSuper
import HandS.Wide
import HandS.Star
import HandS.Defaults
import HandS.EndTab
import PyProof.ListMulRight
import KE.KOpsOwn
import KE.KCallOwn
import KE.KFmtOwn
import PyProof.InstNe
import HandS.ClsMeth
import HandS.TupLe
import HandS.MakeKwOnly
import HandS.MakeKw
import HandS.Small
import HandS.Style
import HandS.TupAny
import KE.GoesEnum
import KE.GoesMore
import KE.KTupTruth
import HandS.Codes
import HandS.FStr
import HandS.RaiseMore
import HandS.Dict
import HandS.Comp
import PyProof.ReprLen
import HandS.OwnEq
import PySem.Challenge.RW_clipfades_k05_polys_made
set_option Elab.async false
set_option linter.all false
set_option maxRecDepth 100000
set_option maxHeartbeats 4000000
/-! Rules of our own over the hand layer: defs whose guards are told (for repr), repr of data, an error kept behind its except suite. -/
namespace My
open PySem PySem.Spec PyProof.Rows L2
/-! ### a def that is run where no repr is under way -/
structure FnG (P : Program) (w : World) (K : PySem.W.Frag) (mg : Str → Option Value) (base : Heap) (CX : CXT) (k : Nat) (f : Addr) (fd : FuncData) (ps : List Str) (sp : Sp) : Prop where
  len : ∀ vs H Q E, sp vs H Q E → vs.length = ps.length
  run : ∀ (A : Around) (outer : List Env) (s : Shared) (H : Hp) (args : Args) (us : List Value) (vs : List V) (Q : VK) (E : XK), A.guards = some [] → Room k A → Env0 P w K mg base A outer s H → BindsTo s fd args (ps.zip us) → Vals vs us → sp vs H Q E →
    codeAny (model P w) A (.call (.ref f) args) (CR CX outer P w H s Q E) s
section
variable {P : Program} {w : World} {K : PySem.W.Frag} {mg : Str → Option Value} {base : Heap}
theorem okG {x qual : Str} {st : Stmt} {f : Addr} {fd : FuncData} {N ps : List Str} {k : Nat} {sp : Sp} (F : Fun K x qual st f fd) (S : FnScope N ps (defScope st)) (len : ∀ vs H Q E, sp vs H Q E → vs.length = ps.length)
    (hbody : ∀ (cdv : Value) (A : Around) (outer : List Env) (s : Shared) (H : Hp) (vs : List V) (Q : VK) (E : XK), K.lookup f ≠ none → A.guards = some [] → Room k (A.deeper (envOfC qual (defScope st) s.heap.objs.size f cdv)) → sp vs H Q E →
      ∃ t, PSs (cxOf CX0 P w K mg base N qual (defScope st) f cdv A outer s H E).nox (defBody st) t ∧ t { nx := fun _ H' => Q .non H', rt := Q } (start N vs) H) : FnG P w K mg base CX0 (k + 1) f fd ps sp := by
  obtain ⟨oc, od, kV, doc, pm, an, cdv, ct, osl, rfl, lk, hcd⟩ := F.ex
  refine ⟨len, fun A outer s H args us vs Q E hg hr e0 hb r hsp => LamX.run_ofS lk hcd S hr e0 hb r (len _ _ _ _ hsp) fun hr' => ?_⟩
  obtain ⟨t, h, q⟩ := hbody cdv A outer s H vs Q E (by rw [lk]; exact fun z => nomatch z) hg hr' hsp
  exact ⟨t, h.nox, q⟩
end
section
variable {X : Cx} {CX : CXT} {k : Nat} {f : Addr} {fd : FuncData} {ps : List Str} {sp : Sp} {E : XK} {x : Str} {e : Expr} {es : List Expr} {t : TA} {p pos : Pos} {ds : List Value} {dvs : List V}
/-- x(e, ..) -/
theorem pe_callG (F : FnG X.prog X.w X.K X.mg X.base CX k f fd ps sp) (hgd : X.A.guards = some []) (hr : Room k X.A) (hg : Gl X x) (hm : X.mg x = some (.ref f)) (hk : PySem.W.keepIn X.K (.ref f) = true) (hb : Binds X.K fd ps []) (hx : Passes CX X E)
    (ha : PA X (e :: es) t) (hdb : (x == ("__debug__" : Str)) = false := by decide) (hs : starEach (e :: es) X.env = (false, eval e X.env) :: starEach es X.env := by rfl) (hpl : (backTo pos (starEach es X.env)).any (·.1) = false := by rfl) :
    PE X (.Call (.Name x p) (e :: es) [] pos) (tCall sp [] E t) := by
  refine ⟨fun pins s σ H Q I h => ?_⟩
  refine wpAny_Call_Name_kw (ld_glob I hg hm ?_ hdb)
  refine PySem.W.callWith_K (h₀ := X.base) I.ok.mod.kin hk (thn (ha.run pos pins s σ H _ I h) fun us s1 ⟨vs, H1, I1, r, q⟩ => ⟨I1.kIn, ?_⟩) hs hpl
  have q' : sp vs H1 Q E := by
    have z : sp (vs ++ []) H1 Q E := q
    rw [List.append_nil] at z
    exact z
  have hl : us.length = ps.length := by rw [← r.length]; exact F.len _ _ _ _ q'
  have hb' : BindsTo s1 fd ⟨us, []⟩ (ps.zip us) := by
    have z := hb s1 us I1.kIn (by rw [List.append_nil]; exact hl)
    rw [List.append_nil] at z
    exact z
  refine wpAny_call (codeAny_mono (F.run X.A X.stack s1 H1 ⟨us, []⟩ us vs Q E hgd hr I1.env0 hb' r q') fun res s2 hq => ?_)
  cases res with
  | error er => exact hx pins σ H1 s1 er s2 I1 hq
  | ok fl =>
    cases fl with
    | ret u => exact I1.after hq
    | next => exact False.elim hq
    | brk => exact False.elim hq
    | cont => exact False.elim hq
end
/-! ### repr of data -/
theorem sqt_same {K : PySem.W.Frag} {H H' : Hp} {a : Addr} {xs : List V} (e : Same H H') (h : SqT K H a xs) : SqT K H' a xs := by
  rcases h with (h | ⟨o, h⟩) | h
  · exact .inl (.inl (e _ _ h))
  · exact .inl (.inr ⟨o, e _ _ h⟩)
  · exact .inr h
/-- data that repr shows: as for ==, and the empty dict -/
def Dr (K : PySem.W.Frag) (H : Hp) (v : V) (d : PyData) : Prop := Dp K H v d ∨ (∃ a, v = .ref a ∧ d = .dict [] ∧ H a = some (.dK []))
mutual
theorem dp_same {K : PySem.W.Frag} {H H' : Hp} (k : Same H H') : ∀ (d : PyData) (v : V), Dp K H v d → Dp K H' v d
  | _, _, .non => .non
  | _, _, .bl b => .bl b
  | _, _, .int i => .int i
  | _, _, .str x => .str x
  | .list ds, _, .lst h ha => .lst (k.seq h) (dp_sameAll k ds _ ha)
  | .tuple ds, _, .tup h ha => .tup (sqt_same k h) (dp_sameAll k ds _ ha)
theorem dp_sameAll {K : PySem.W.Frag} {H H' : Hp} (k : Same H H') : ∀ (ds : List PyData) (vs : List V), DpAll K H vs ds → DpAll K H' vs ds
  | [], _, .nil => .nil
  | d :: ds, _, .cons h1 h2 => .cons (dp_same k d _ h1) (dp_sameAll k ds _ h2)
end
theorem dr_same {K : PySem.W.Frag} {H H' : Hp} {v : V} {d : PyData} (k : Same H H') (h : Dr K H v d) : Dr K H' v d := by
  rcases h with h | ⟨a, e1, e2, e3⟩
  · exact .inl (dp_same k d v h)
  · exact .inr ⟨a, e1, e2, k _ _ e3⟩
def rRepr (K : PySem.W.Frag) : List V → Hp → VK → Prop := fun xs H Q => ∃ (v : V) (d : PyData), xs = [v] ∧ Dr K H v d ∧ d.showable = true ∧ d.depth ≤ 60 ∧ d.shown.length ≤ sizeLine ∧ Q (.str d.shown) H
mutual
theorem noDict {K : PySem.W.Frag} {H : Hp} : ∀ (d : PyData) (v : V), Dp K H v d → d.hasDict = false
  | .none, _, _ => rfl
  | .bool _, _, _ => rfl
  | .int _, _, _ => rfl
  | .str _, _, _ => rfl
  | .list ds, _, h => by
    cases h with
    | lst _ ha => exact noDictAll ds _ ha
  | .tuple ds, _, h => by
    cases h with
    | tup _ ha => exact noDictAll ds _ ha
  | .dict _, _, h => by cases h
theorem noDictAll {K : PySem.W.Frag} {H : Hp} : ∀ (ds : List PyData) (vs : List V), DpAll K H vs ds → PyData.hasDictAll ds = false
  | [], _, _ => rfl
  | d :: ds, _, h => by
    cases h with
    | cons h1 h2 =>
      show (d.hasDict || PyData.hasDictAll ds) = false
      rw [noDict d _ h1, noDictAll ds _ h2]
      rfl
end
section
variable {X : Cx} {k : Nat}
theorem call_repr (hgd : X.A.guards = some []) (hr : Room k X.A) : CallR X (.builtin "repr") (rRepr X.K) := by
  intro pins s σ H xs us Q I r h
  obtain ⟨v, d, rfl, hd, hs, hdp, hz, q⟩ := h
  obtain ⟨u, rfl, r1⟩ := vals1 r
  have hu : X.A.units + (d.depth + 1) < cLine := by
    have := hr.units
    omega
  have fin : ∀ (h' : Heap) (t : Tok) (tk : Nat), (∀ b o, s.heap.get? b = some o → h'.get? b = some o) → EP X pins σ Q (.str d.shown t) { s with heap := h', toks := tk } :=
    fun h' t tk hk => ⟨.str d.shown, H, I.kept (t' := tk) hk, ⟨t, rfl⟩, q⟩
  rcases hd with hd | ⟨a, rfl, rfl, ha⟩
  · have hn := noDict d v hd
    obtain ⟨as, rd⟩ := Dp.reads I d v u hd r1
    cases hd with
    | non => cases (show u = Value.none from r1); exact PySem.P.repr_of_none (fin s.heap _ _ fun _ _ e => e)
    | bl b => cases (show u = Value.bool b from r1); exact PySem.P.repr_of_bool (fin s.heap _ _ fun _ _ e => e)
    | int i =>
      obtain ⟨t, e⟩ := (show ∃ t, u = Value.int i t from r1)
      cases e
      exact PySem.P.repr_of_int (of_decide_eq_true hs) (fin s.heap _ _ fun _ _ e => e)
    | str z =>
      obtain ⟨t, e⟩ := (show ∃ t, u = Value.str z t from r1)
      cases e
      exact PySem.P.repr_of_str (fin s.heap _ _ fun _ _ e => e) hz
    | @lst a xs ds _ _ =>
      cases (show u = Value.ref a from r1)
      exact repr_of_reads' rd hs (PyData.noDict_hsm hn) hgd hu (fun _ _ e => e) (fun h' t tk hk => fin h' t tk hk) hz
    | @tup a xs ds _ _ =>
      cases (show u = Value.ref a from r1)
      exact repr_of_reads' rd hs (PyData.noDict_hsm hn) hgd hu (fun _ _ e => e) (fun h' t tk hk => fin h' t tk hk) hz
  · cases (show u = Value.ref a from r1)
    obtain ⟨_, hne, vs, kv, o, es, ep, e1, e2, e3, e4⟩ := (show ObjOk X.prog X.w H s.heap a (.dK []) from I.hok a _ ha)
    cases kv
    have hes : es.toList = [] := by
      obtain ⟨_, pr, _⟩ := e4
      revert pr
      generalize es.toList = l
      intro pr
      cases pr
      rfl
    have rd : Reads s.heap (.ref a) (.dict []) (a :: [] ++ []) := .dict e1 e2.1 e3 (by rw [hes]; exact .nil) (by rw [hes]; exact .nil)
    exact repr_of_reads' rd hs (fun _ hm => by simp at hm; simp [hm] at hne) hgd hu (fun _ _ e => e) (fun h' t tk hk => fin h' t tk hk) hz
end
/-! ### an error that stands behind its except suite -/
/-- at a: an error of the class cls, its own dict at d -/
def ExA (cls : Value) (d : Option Addr) (a : Addr) : HO := .ext fun h => ∃ (oe : Obj) (vs : Array Value), h.get? a = some oe ∧ Zc cls d oe ∧ oe.data = .fields vs
theorem exA_ok {P : Program} {w : World} {H : Hp} {h : Heap} {a : Addr} {cls : Value} {d : Option Addr} {oe : Obj} {vs : Array Value} (e : h.get? a = some oe) (z : Zc cls d oe) (hd : oe.data = .fields vs) : ObjOk P w H h a (ExA cls d a) :=
  ⟨⟨oe, vs, e, z, hd⟩, ⟨oe, e⟩, fun _ _ ⟨o, v, q, r⟩ k => ⟨o, v, k o q, r⟩⟩
section
variable {X : Cx} {pins : List (Addr × Obj)} {σ : L2.St} {H : Hp} {s : Shared}
/-- an object of the heap that was not there at the entry, tracked from now on -/
theorem track {a : Addr} {o : HO} (I : Inv X pins σ H s) (h0 : X.s_0.heap.get? a = none) (na : H a = none) (nL : a ≠ X.env.locals) (nC : ∀ x c, X.env.cells.lookup x = some c → c ≠ a) (nP : ∀ p ∈ X.pn ++ pins, p.1 ≠ a)
    (new : ObjOk X.prog X.w (upd H a o) s.heap a o) : Inv X pins σ (upd H a o) s := by
  have ne0 : ∀ b ob, X.s_0.heap.get? b = some ob → b ≠ a := fun b ob e z => by rw [z, h0] at e; cases e
  refine ⟨I.ok, I.os, I.bare, ⟨I.base.keep, I.base.slot, fun b ob e n hx => ?_, I.base.there, fun b xs e => ?_, fun b ob u e => ?_, fun b ps e => ?_⟩, I.loc, I.cell, ?_, fun x c e => ?_, fun p hp => ?_, fun b u e => ?_, I.len⟩
  · rw [upd_ne (ne0 b ob e)]
    exact I.base.free b ob e n hx
  · have z := I.base.tups b xs e
    rw [upd_ne (ne_of_none z na)]
    exact z
  · have z := I.base.frzs b ob u e
    rw [upd_ne (ne_of_none z na)]
    exact z
  · obtain ⟨m, z⟩ := I.base.tbls b ps e
    exact ⟨m, by rw [upd_ne (ne_of_none z na)]; exact z⟩
  · rw [upd_ne (Ne.symm nL)]
    exact I.free
  · rw [upd_ne (nC x c e)]
    exact I.freeC x c e
  · obtain ⟨e, n, r⟩ := I.pin p hp
    exact ⟨e, by rw [upd_ne (nP p hp)]; exact n, r⟩
  · by_cases hb : b = a
    · subst hb
      rw [upd_same] at e
      cases e
      exact new
    · rw [upd_ne hb] at e
      exact (I.hok b u e).stay (fun _ _ _ q => q) (fun c q => by rw [upd_ne (ne_of_none q na)]; exact q) fun c xs q => by rw [upd_ne (ne_of_none q na)]; exact q
end
/-- the wish of «except c as n: y = n»: slot i is n's, slot j is y's -/
def wKeep (K : PySem.W.Frag) (c : Value) (i j n : Nat) (Wout : WX) (D : Ends) : WX := fun cls d σ H =>
  ∃ b, PySem.W.exmOne K cls c = some b ∧ (b = true → ∀ a, H a = none → σ.length = n → D.nx (((σ.set i (some (.ref a))).set j (some (.ref a))).set i none) (upd H a (ExA cls d a))) ∧ (b = false → Wout cls d σ H)
section
variable {X : Cx} {x n y : Str} {c : Value} {i j : Nat} {body : List Stmt} {np p1 p2 p3 pos pos' : Pos} {tb : WX → TS} {Wout : WX}
theorem ps_try_keep (hs : X.stack = X.env :: X.outer) (hf : X.env.frame = some X.env.locals) (hN : X.N.Nodup) (hi : X.N[i]? = some n) (hln : X.env.kindOf n = some .local) (hj : X.N[j]? = some y) (hly : X.env.kindOf y = some .local) (hex : X.ex = []) (hc : Names X x c) (tk : Takes X Wout)
    (hb : ∀ (W : WX) (pn : List (Addr × Obj)) (xe : Value → Shared → Prop), Takes (X.tr pn xe) W → PassesOwn (model X.prog X.w) X.A X.env xe → PSs (X.tr pn xe) body (tb W)) (hd1 : (n == ("__debug__" : Str)) = false := by decide) (hd2 : (n == ("__classdict__" : Str)) = false := by decide) :
    PS X (.Try body [.ExceptHandler (some (.Name x np)) (some n) [.Assign [.Name y p1] (.Name n p2) p3] pos'] [] [] pos) (fun D σ H => tb (wKeep X.K c i j X.N.length Wout D) D σ H) := by
  refine ⟨fun pins s σ H D I h => ?_⟩
  have ok := I.ok
  have hfr : X.A.frames = some (X.env :: X.outer) := by rw [ok.frames, hs]
  refine wpAny_Try_except ?_
  refine wpAny_mono ((hb (wKeep X.K c i j X.N.length Wout D) (X.pn ++ pins) (fun e t1 => wpAny (model X.prog X.w) X.A (noteFrame e X.env) (fun _ t2 => wpAny (model X.prog X.w) X.A (setFlight e none) (fun _ t3 =>
    wpAny (model X.prog X.w) X.A (handleBy e X.env [.ExceptHandler (some (.Name x np)) (some n) [.Assign [.Name y p1] (.Name n p2) p3] pos']) (SP X pins D) X.xe t3) X.xe t2) X.xe t1) (fun u s' xx => ?_) PassesOwn.looking).run [] s σ H D (I.toTry _) h) (fun fl t1 hsp => ?_) (fun _ _ he => he)
  · obtain ⟨a, B, sI, pins', σ1, H1, cls, d, rfl, J0, nb, up, sky, na, os, ag, b, hb1, hyes, hno⟩ := xx
    have J : Inv X pins σ1 H1 sI := J0.ofTry ok
    have sky' : Sky B (X.env :: X.outer) a (Zc cls d) X.env.locals s'.heap := by rw [← hs]; exact sky
    show wpAny (model X.prog X.w) X.A (noteFrame (.ref a) X.env) _ _ _
    refine Sky.land Zc.steady hfr hf sky' fun h3 fl3 up3 => ?_
    have J3 : Inv X pins σ1 H1 { s' with heap := h3 } := J.landed nb fl3.1 (up.trans up3) os ag
    obtain ⟨oe3, vs3, he3, hz3, hd3⟩ := fl3.there
    have nfr : a ∉ frs (X.env :: X.outer) := fun hm => by
      obtain ⟨_, o', e', hnf⟩ := fl3.2.2.1.mem hm
      rw [he3] at e'
      cases e'
      exact hnf _ hd3
    have nL : a ≠ X.env.locals := fun z => nfr (List.mem_filterMap.mpr ⟨X.env, List.mem_cons_self, by rw [hf, z]⟩)
    have nF : a ∉ X.fs := fun hm => by
      obtain ⟨e1, he1, q1⟩ := List.mem_filterMap.mp hm
      exact nfr (List.mem_filterMap.mpr ⟨e1, List.mem_cons_of_mem _ he1, q1⟩)
    -- the error was not there at the entry, and is no pin
    have Ba : B.get? a = none := fl3.2.1
    have sIa : sI.heap.get? a = none := by
      cases z : sI.heap.get? a with
      | none => rfl
      | some o =>
        have y := nb a o z (by rw [hs]; exact nfr)
        rw [Ba] at y
        cases y
    have s0a : X.s_0.heap.get? a = none := by
      cases z : X.s_0.heap.get? a with
      | none => rfl
      | some o =>
        obtain ⟨o', y⟩ := J.base.there a o z (by rw [hex]; exact fun w => nomatch w)
        rw [sIa] at y
        cases y
    have nPin : ∀ p ∈ X.pn ++ pins, p.1 ≠ a := fun p hp z => by
      have y := (J.pin p hp).1
      rw [z, sIa] at y
      cases y
    have S3 := J3.suite he3 hd3 na nL nF
    refine wpAny_handleBy_cons (codeAny_handlers_test ?_) (by intro q; cases q)
    have LT : PySem.W.Looks (model X.prog X.w) h3 (typeOf (.ref a)) cls := fun A Q E s k q => wpAny_typeOf_ref (k _ _ he3) (by rw [hz3.1]; exact q)
    have LM := PySem.W.exm_one (M := model X.prog X.w) (J3.kIn) LT hb1
    have test : ∀ {Q : Value → Shared → Prop} {E : Value → Shared → Prop}, Q c { s' with heap := h3 } → wpAny (model X.prog X.w) (X.A.mark (some (.ref a))) (eval (.Name x np) X.env) Q E { s' with heap := h3 } := fun {Q E} q => by
      obtain ⟨hg, hdbg, hm | ⟨hm, hv, hnn⟩⟩ := hc
      · exact ld_glob (X := X.suite a ((a, oe3) :: (X.pn ++ pins))) S3 hg hm q hdbg
      · exact ld_blt (X := X.suite a ((a, oe3) :: (X.pn ++ pins))) S3 hg hm hv q hnn hdbg
    refine test (LM.here ?_)
    cases b with
    | true =>
      refine codeAny_handlers_suite_as ?_
      refine HandSPX.lands_againZ fl3 fun h4 fl4 up4 => ?_
      have J4 : Inv X pins σ1 H1 { s' with heap := h4 } := J.landed nb fl4.1 ((up.trans up3).trans up4) os ag
      obtain ⟨oe4, vs4, he4, hz4, hd4⟩ := fl4.there
      have S4 := J4.suite he4 hd4 na nL nF
      refine store_ok (X := X.suite a ((a, oe4) :: (X.pn ++ pins))) (v := .ref a) S4 hN hi (.inl hln) rfl (fun s5 S5 => ?_) (.inr hln)
      have suite : PSs (X.suite a ((a, oe4) :: (X.pn ++ pins))) [.Assign [.Name y p1] (.Name n p2) p3] (tAsg (tVar i) (gName j)) :=
        pss_one (ps_asg (pe_var (i := i) hi (.inl hln) hd1 hd2) (pg_name (i := j) hN hj (.inl hly) (hf := .inr hly)))
      have hlen : i < σ1.length := by
        rw [J.len]
        exact (List.getElem?_eq_some_iff.mp hi).1
      refine wpAny_mono (suite.run [] s5 _ H1 { nx := fun σ' H' => σ' = (σ1.set i (some (.ref a))).set j (some (.ref a)) ∧ H' = H1, rt := fun _ _ => False } S5 ⟨.ref a, by rw [List.getElem?_set_self hlen], rfl, rfl⟩) (fun fl s6 hsp => ?_) (fun _ _ z => False.elim z)
      cases fl with
      | next =>
        obtain ⟨σ6, H6, S6, eσ, eH⟩ := hsp
        subst eσ
        subst eH
        refine gone_ok (X := X.suite a ((a, oe4) :: (X.pn ++ pins))) S6 hN hi hln fun s7 S7 => ?_
        have ha7 : s7.heap.get? a = some oe4 := (S7.pin (a, oe4) (List.mem_append_left _ List.mem_cons_self)).1
        have J7 := S7.unsuite ok
        have nC : ∀ (x : Str) (c : Addr), X.env.cells.lookup x = some c → c ≠ a := fun x c e z => by
          obtain ⟨v, o, ho, hdc⟩ := J7.cell x c e
          rw [z, ha7] at ho
          cases ho
          rw [hd4] at hdc
          cases hdc
        exact ⟨_, _, track J7 s0a na nL nC nPin (exA_ok ha7 hz4 hd4), hyes rfl a na J.len⟩
      | brk => obtain ⟨_, _, _, z⟩ := hsp; exact z.elim
      | cont => obtain ⟨_, _, _, z⟩ := hsp; exact z.elim
      | ret u => obtain ⟨_, _, _, _, _, z⟩ := hsp; exact z.elim
    | false =>
      show wpAny _ X.A (handleBy (.ref a) X.env []) _ _ _
      refine wpAny_handleBy_nil ?_
      obtain ⟨w1, w2, w3, oe, vs, T, oT, ts', he, hz, hdd, h1, hr⟩ := id fl3
      unfold PySem.passOn
      refine wpAny_bind (wpAny_field he hdd h1 ?_)
      rw [if_neg (show ¬ ((Value.ref T == Value.none) = true) from by simp)]
      have fin : wpAny (model X.prog X.w) X.A (setFlight (.ref a) X.env.frame) (fun _ s4 => wpAny (model X.prog X.w) X.A (throw (.ref a) : Sem Flow) (SP X pins D) X.xe s4) X.xe { s' with heap := h3 } := by
        rw [hf]
        refine HandSPX.setFlight_upZ fl3 fun h4 hh4 up4 => wpAny_throw (tk _ _ ?_)
        exact ⟨a, B, sI, pins, σ1, H1, cls, d, rfl, J, nb, (up.trans up3).trans up4, .inr (.inr (by rw [hs]; exact hh4)), na, os, ag, hno rfl⟩
      first
        | exact wpAny_bind (wpAny_pure (wpAny_bind fin))
        | exact wpAny_bind fin
  · cases fl with
    | next =>
      obtain ⟨σ', H', J', q⟩ := hsp
      exact wpAny_execs_nil ⟨σ', H', J'.ofTry ok, q⟩
    | brk =>
      obtain ⟨σ', H', J', q⟩ := hsp
      exact ⟨σ', H', J'.ofTry ok, q⟩
    | cont =>
      obtain ⟨σ', H', J', q⟩ := hsp
      exact ⟨σ', H', J'.ofTry ok, q⟩
    | ret u =>
      obtain ⟨v, σ', H', J', r, q⟩ := hsp
      exact ⟨v, σ', H', J'.ofTry ok, r, q⟩
end
/-! ### isinstance and fields of such an error -/
structure ExcK (K : PySem.W.Frag) (C : Addr) : Prop where
  cl : (PySem.W.clsIn K C).isSome = true
  ga : PySem.W.findIn K (.ref C) "__getattribute__" = some (some (.builtin "BaseException.__getattribute__"))
  gg : PySem.W.findIn K (.ref C) "__getattr__" = some none
  sb : PySem.W.subIn K (.ref C) (.type "BaseException") = some true
  ha : PySem.W.findIn K (.ref C) "__class__" = some (some (.builtin "object.__class__"))
  hn : PySem.W.specialIn K (.builtin "object.__class__") "__get__" = some (some (.builtin "getset_descriptor.__get__"))
  ht : PySem.W.takesIn K (.builtin "object.__class__") = some true
  hm : PySem.W.mroIn K C (.type "object") = some true
/-- isinstance(e, D) -/
def rIsA (K : PySem.W.Frag) : List V → Hp → VK → Prop := fun xs H Q => ∃ (a C d : Addr) (fs : List (Str × V)) (c : V) (cv : Value) (b : Bool), xs = [.ref a, c] ∧ ClsV c cv ∧ ExcK K C ∧ H a = some (ExA (.ref C) (some d) a) ∧ H d = some (.xd fs) ∧ PySem.W.kitOne K (.ref C) cv = some b ∧ Q (.bl b) H
section
variable {X : Cx} {pins : List (Addr × Obj)} {σ : L2.St} {H : Hp} {s : Shared}
theorem exA_at {a C d : Addr} {fs : List (Str × V)} (I : Inv X pins σ H s) (ha : H a = some (ExA (.ref C) (some d) a)) (hd : H d = some (.xd fs)) :
    ∃ (oe od : Obj) (mA : Str → Option Value), PySem.W.InstAt s.heap a oe C (some od) ∧ (∀ name, PySem.W.lookIn name od = some (mA name)) ∧ ∀ f, RelO (fs.lookup f) (mA f) := by
  obtain ⟨⟨oe, vs, ho, hz, hdat⟩, _, _⟩ := I.hok a _ ha
  obtain ⟨mA, hns, hr⟩ := (show ObjOk X.prog X.w H s.heap d (.xd fs) from I.hok d _ hd)
  obtain ⟨od, hod, hl⟩ := lookIn_ns hns
  exact ⟨oe, od, mA, ⟨ho, hz.1, by unfold PySem.W.notCls; rw [hdat] <;> rfl, by rw [hz.2]; exact hod⟩, hl, hr⟩
theorem call_isA : CallR X (.builtin "isinstance") (rIsA X.K) := by
  intro pins s σ H xs us Q I r h
  obtain ⟨a, C, d, fs, c, cv, b, rfl, k, T, ha, hd, e, q⟩ := h
  obtain ⟨u1, u2, rfl, r1, r2⟩ := vals2 r
  cases (show u1 = Value.ref a from r1)
  have e2 := k.eq r2
  subst e2
  obtain ⟨oe, od, mA, J, _, _⟩ := exA_at I ha hd
  exact PySem.W.kia_one (PySem.W.kitx_exc T.cl T.ga T.gg T.sb T.ha T.hn T.ht T.hm) I.kIn J e (fun z => nomatch z) fun t => ⟨.bl b, H, I.tok t, rfl, q⟩
/-- e.f -/
def tXa (K : PySem.W.Frag) (f : Str) (te : TE) : TE := fun σ H Q => te σ H fun x H1 => ∃ (a C d : Addr) (fs : List (Str × V)) (v : V), x = .ref a ∧ H1 a = some (ExA (.ref C) (some d) a) ∧ H1 d = some (.xd fs) ∧ XfC K C ∧ PySem.W.findIn K (.ref C) f = some none ∧ fs.lookup f = some v ∧ Q v H1
theorem pe_xa {e : Expr} {te : TE} {n : Str} {pos : Pos} (he : PE X e te) (hb : attributeBase e n X.env (eval e X.env) = eval e X.env := by rfl) : PE X (.Attribute e n pos) (tXa X.K n te) := by
  refine ⟨fun pins s σ H Q I h => ?_⟩
  refine attr_of hb (thn (he.run pins s σ H _ I h) fun u s1 hh => ?_)
  obtain ⟨x, H1, I1, rx, a, C, d, fs, v, ex, ha, hd, T, hno, l, q⟩ := hh
  subst ex
  obtain rfl : u = Value.ref a := rx
  obtain ⟨oe, od, mA, J, hl, hr⟩ := exA_at I1 ha hd
  obtain ⟨u, hu, ru⟩ := RelO.some_of (v := v) (o := mA n) (by rw [← l]; exact hr n)
  exact HandSPX.exc_get I1.kIn J T.ga T.gg T.exC (PySem.W.findObj_own T.hdC hno rfl (by rw [hl, hu])) (handed_of ru) ⟨v, H1, I1.tok _, ru, q⟩
end
end My
/-! An own error class E(Base(ValueError)) whose __init__ says super().__init__(f) and self.f = f. -/
namespace Sup
open PySem PySem.W PySem.Calls PyProof.Rows PySem.HandSPX
def a1 (f : Str) (p1 p2 : Pos) : Arguments :=
  { posonlyargs := [], args := [{ arg := "self", annotation := none, pos := p1 }, { arg := f, annotation := none, pos := p2 }], vararg := none, kwonlyargs := [], kw_defaults := [], kwarg := none, defaults := [] }
def b1 (f : Str) (q1 q2 q3 q4 q5 q6 r1 r2 r3 r4 : Pos) : List Stmt :=
  [.Expr (.Call (.Attribute (.Call (.Name "super" q1) [] [] q2) "__init__" q3) [.Name f q4] [] q5) q6, .Assign [.Attribute (.Name "self" r1) f r2] (.Name f r3) r4]
def s1 (f : Str) : Scope :=
  { kind := .function, names := [(PySem.Str.ofString "self", .local), (f, .local), (PySem.Str.ofString "__class__", .free), (PySem.Str.ofString "super", .globalImplicit)], isGenerator := false, isCoroutine := false, more := [] }
/-- the field's name is no other name of the text -/
structure Nm (f : Str) : Prop where
  n1 : (f == ("self" : Str)) = false
  n2 : (("__class__" : Str) == f) = false
  n3 : (("super" : Str) == f) = false
  n4 : (f == ("__debug__" : Str)) = false
  bd : ∀ (qual : Str) (body : List Stmt) (doc pm : Value) (an : Option Addr) (cdv ct : Value) (cc : Addr) (p1 p2 : Pos) (a b : Value),
    bindArgs (ksFn "__init__" qual (a1 f p1 p2) body (s1 f) .none .none doc pm an cdv ct cc) ⟨[a, b], []⟩ = pure [(("self" : Str), a), (f, b)]
/-- what the top has written of the class x, at C, and of its __init__, at fI -/
structure Err1 (prog : Program) (K : Frag) (mg : Str → Option Value) (x f : Str) (C fI : Addr) : Prop where
  gC : mg x = some (.ref C)
  ox : L2.OexC K C
  rd : L2.XfC K C
  nf : findIn K (.ref C) f = some none
  nm : Nm f
  iC : findIn K (.ref C) "__init__" = some (some (.ref fI))
  tI : typeIn K (.ref fI) = some (.type "function")
  fn : ∃ (qual : Str) (oc : Value) (od : Option Addr) (doc pm : Value) (an : Option Addr) (cda : Addr) (ct : Value) (cc : Addr) (osl : Array (Option Value)) (p1 p2 q1 q2 q3 q4 q5 q6 r1 r2 r3 r4 : Pos),
    K.lookup fI = some ⟨oc, od, .func (ksFn "__init__" qual (a1 f p1 p2) (b1 f q1 q2 q3 q4 q5 q6 r1 r2 r3 r4) (s1 f) .none .none doc pm an (.ref cda) ct cc), osl⟩ ∧ codeIn K (.ref cda) qual = true ∧
    (∃ cl cld csl, K.lookup cc = some ⟨cl, cld, .cell (some (.ref C)), csl⟩) ∧ ∃ ccl cdd vs ccs file tf, K.lookup cda = some ⟨ccl, cdd, .fields vs, ccs⟩ ∧ vs[2]? = some (.str file tf) ∧ ((prog.main.file : Str) == file) = true ∧ (q3.endLine == q5.line) = true
  su : ks_superIn K C C "__init__" = some (some (.builtin "ValueError.__init__"))
  sV : subIn K (.ref C) (.type "ValueError") = some true
  sC : mroIn K C (.ref C) = some true
  gS : mg "super" = none
  oq : nsIn K cStatics "thirdparty.any" = some none
  top : (prog.main.scope.names.lookup ("super" : Str)).isSome = false
/-- what __init__ leaves of a fresh exception at x -/
structure End1 (h h' : Heap) (f : Str) (x C dx t1 : Addr) (v : Value) : Prop where
  keep : ∀ b o, b ≠ x → h.get? b = some o → h'.get? b = some o
  obj : h'.get? x = some { cls := .ref C, dict := some dx, data := .fields #[.ref t1, .none, .none, .none, .bool false, .none] }
  dbig : h.objs.size ≤ dx
  dne : dx ≠ x
  ns : h'.Ns1 dx (fun y => if y = f then some v else none)
theorem lk2 {f : Str} (N : Nm f) : (s1 f).names.lookup f = some .local := by
  simp only [s1, List.lookup, N.n1, beq_self_eq_true]
theorem lk3 {f : Str} (N : Nm f) : (s1 f).names.lookup ("__class__" : Str) = some .free := by
  have e : (("__class__" : Str) == ("self" : Str)) = false := by decide +kernel
  have e2 : (("__class__" : Str) == ("__class__" : Str)) = true := by decide +kernel
  simp only [s1, List.lookup, N.n2, e, e2]
theorem lk4 {f : Str} (N : Nm f) : (s1 f).names.lookup ("super" : Str) = some .globalImplicit := by
  have e : (("super" : Str) == ("self" : Str)) = false := by decide +kernel
  have e2 : (("super" : Str) == ("__class__" : Str)) = false := by decide +kernel
  have e3 : (("super" : Str) == ("super" : Str)) = true := by decide +kernel
  simp only [s1, List.lookup, N.n3, e, e2, e3]
theorem meth_eq {o : Expr} {name f : Str} {q3 q4 q5 : Pos} {env : Env} (hp : (q3.endLine == q5.line) = true) :
    eval (.Call (.Attribute o name q3) [.Name f q4] [] q5) env = (do
      let ov ← attributeBase o name env (eval o env)
      standAt q3.atName
      let (g, first) ← holding [ov] (getMethod ov name (do return (← importBound o env).getD true))
      callWith q5 g first (backTo q5 (starEach [.Name f q4] env)) []) := by
  rw [arm_eval_Call]
  have hf : methodCallForm ([Expr.Name f q4].length + ([] : List Keyword).length) (backTo q5 (starEach [.Name f q4] env)) (backToKw q5 (keywordEach [] env)) = true := rfl
  have e : ∀ ov, methodCall o name q3 q5 env ov ([Expr.Name f q4].length + ([] : List Keyword).length) (backTo q5 (starEach [.Name f q4] env)) (backToKw q5 (keywordEach [] env)) = (do
      let (g, first) ← holding [ov] (getMethod ov name (do return (← importBound o env).getD true))
      callWith q5 g first (backTo q5 (starEach [.Name f q4] env)) []) := fun ov => by
    unfold methodCall
    rw [hf]
    unfold calleeOf methodCallPos
    simp only [hp, Bool.not_true, Bool.false_or, if_true]
    rfl
  simp only [e]
section
variable {prog : Program} {w : World} {A : Around} {E : Value → Shared → Prop} {R : Result → Shared → Prop} {s : Shared} {K : Frag} {mg : Str → Option Value} {x f : Str} {C fI : Addr}
/-- the bound ValueError.__init__ called -/
theorem call_mw {h : Heap} {g : Array GenState} {d : Drawn} {t : Nat} {os : OsState} {u e t0 : Addr} {rest : List Value} {Q : Value → Shared → Prop} {nm q : Str} {N : Addr} {bs bm : List Value} {hdct : Bool} {sn : List Str} {sub : List Value} {ab : Bool} {col : Option Bool} {dd : Option Addr} {k0 k1 k2 k3 k5 : Option Value}
    (hC : h.get? C = some (excClassObj nm q C N bs bm hdct sn sub ab col dd k0 k1 k2 k3 k5 "ValueError.__new__")) (he : h.get? e = some (excO C t0)) (hu : h.get? u = some (kxs_mw "ValueError.__init__" e)) (hz : rest.length ≤ sizeLine)
    (hq : ∀ h' t1, (∀ b o, b ≠ e → h.get? b = some o → h'.get? b = some o) → h'.get? e = some (excO C t1) → Q .none ⟨h', g, d, t, os⟩) :
    wpAny (model prog w) A (call (.ref u) rest) Q E ⟨h, g, d, t, os⟩ := by
  refine wpAny_call (codeAny_of_tree ?_)
  show wpAny _ A.in1 (callAny (.ref u) ⟨rest, []⟩) _ _ _
  simp only [callAny]
  refine wpAny_bind (wpAny_load hu ?_)
  simp only [kxs_mw, show (Value.type "method-wrapper" == Value.type "method" || Value.type "method-wrapper" == Value.type "builtin_function_or_method" || Value.type "method-wrapper" == Value.type "method-wrapper") = true by decide, if_true]
  refine KFB.if_so (by decide) ?_
  refine wpAny_bind (check_bound_init F.excBase_ValueError.toExcCallFacts hC he rfl ?_)
  refine wpAny_bind (wpAny_pure (wpAny_pure ?_))
  refine ⟨plainId_quiet F.excBase_ValueError.init.plain _, codeAny_builtin F.excBase_ValueError.initEntry ?_⟩
  exact exc_init_tree (cls := .ref C) (t0 := t0) (dv := none) (c2 := .none) (c3 := .none) (b4 := .bool false) he hz fun h' k e' _ => hq h' _ k e'
theorem init1 (T : Err1 prog K mg x f C fI) {e t0 : Addr} {v : Value} (X : K.In s.heap) (hlim : s.heap.NoLimit) (hg : s.heap.Ns mainGlobals mg) (hb : ∃ mb, s.heap.Ns builtinsNs mb ∧ ∀ x : Str, x ≠ "__name__" → mb x = bootBuiltins x)
    (he : s.heap.get? e = some (excO C t0)) (hnx : K.lookup e = none) (hroom : A.depth < recursionLimit)
    (hq : ∀ h' tk dx t1, End1 s.heap h' f e C dx t1 v → R (.ok (.ret .none)) { s with heap := h', toks := tk }) :
    codeAny (model prog w) A (.call (.ref fI) ⟨[.ref e, v], []⟩) R s := by
  obtain ⟨qual, oc, od, doc, pm, an, cda, ct, cc, osl, p1, p2, q1, q2, q3, q4, q5, q6, r1, r2, r3, r4, ho, hcd, ⟨cl, cld, csl, hcell⟩, ccl, cdd, vs, ccs, file, tf, hcode, hvs, hfile, hqq⟩ := T.fn
  obtain ⟨nm, q, N, bs, bm, sn, sub, ab, col, dd, k0, k1, k2, k3, k5, hC, hbm⟩ := T.ox.cls
  obtain ⟨mb, hb1, hb2⟩ := hb
  have hcl : clsIn K C = some { name := nm, bases := bs, mro := .ref C :: bm, ns := N, qualname := q, hasDict := true, slotNames := sn, subclasses := sub, abstract := ab, collection := col, hasDel := false } := by unfold clsIn; rw [hC] <;> rfl
  have hloc : ∀ y ∈ [(("self" : Str), Value.ref e), (f, v)], (s1 f).names.lookup y.1 = some .local := fun y hy => by
    rcases List.mem_cons.mp hy with z | z
    · rw [z]; rfl
    · rw [List.mem_singleton.mp z]; exact lk2 T.nm
  have hsu : alongIn K "__init__" ((((Value.ref C :: bm) : List Value).dropWhile (· != .ref C)).drop 1) = some (some (.builtin "ValueError.__init__")) := by
    have z := T.su
    unfold ks_superIn at z
    rw [hcl] at z
    exact z
  refine ks_codeAny_call_defAt (fd := ksFn "__init__" qual (a1 f p1 p2) (b1 f q1 q2 q3 q4 q5 q6 r1 r2 r3 r4) (s1 f) .none .none doc pm an (.ref cda) ct cc) (binds := [("self", .ref e), (f, v)]) hroom (X _ _ ho) rfl hlim (codeRec_of X hcd) rfl (BindsTo.of_eq (T.nm.bd _ _ _ _ _ _ _ _ _ _ _ _))
    (by intro y hy; simp only [s1, List.mem_cons, List.mem_nil_iff, or_false] at hy; rcases hy with z | z | z | z <;> rw [z] <;> exact (fun w => nomatch w)) hloc (fun h1 hns kp => ?_)
  have X1 : K.In h1 := X.keeps kp
  have he1 := kp _ _ he
  have hC1 := X1 _ _ hC
  have hx0 : e ≠ C := fun z => by
    have y := X _ _ hC
    rw [← z, he] at y
    cases y
  have mself : ([(("self" : Str), Value.ref e), (f, v)].reverse.lookup ("self" : Str)) = some (.ref e) := by
    have e1 : (("self" : Str) == f) = false := by
      have z := T.nm.n1
      rw [Bool.eq_false_iff] at z ⊢
      intro y
      exact z (by rw [beq_iff_eq] at y ⊢; exact y.symm)
    simp only [List.reverse_cons, List.reverse_nil, List.nil_append, List.cons_append, List.lookup, e1, beq_self_eq_true]
  have mf : ([(("self" : Str), Value.ref e), (f, v)].reverse.lookup f) = some v := by
    simp only [List.reverse_cons, List.reverse_nil, List.nil_append, List.cons_append, List.lookup, beq_self_eq_true]
  show _root_.PySem.wpAt _ _ _ (execs (b1 f q1 q2 q3 q4 q5 q6 r1 r2 r3 r4) _) _ _ _
  unfold b1
  refine ks_wpAt_execs_cons (ks_wpAt_Expr_any (ks_wpAt_MethodCall (ks_wpAt_super_base (lk4 T.nm) (lk3 T.nm) (by decide +kernel) rfl (X1 _ _ ho) rfl rfl rfl (X1 _ _ hcode) rfl hvs hfile T.top ?_) (meth_eq hqq)))
  refine ks_loadName_global rfl (lk4 T.nm) (loadGlobal_builtin (hg.keeps kp) T.gS (hb1.keeps kp) ((hb2 _ (by decide +kernel)).trans (by decide +kernel : bootBuiltins "super" = some (.type "super"))) ⟨rfl, ?_⟩)
  refine wpAny_loadName_free rfl (lk3 T.nm) rfl ⟨_, X1 _ _ hcell, rfl⟩ ?_
  refine wpAny_loadName_local rfl rfl hns mself ?_
  refine ks_wpAny_isType_cls hC1 rfl ⟨rfl, ?_⟩
  refine ks_wpAny_call_super hC1 rfl he1 rfl (fun c z => nomatch z) (looks_mroIn X1 T.sC) (fun h2 hso k2 => ?_)
  have X2 : K.In h2 := X1.keeps k2
  have he2 := k2 _ _ he1
  have I2 : InstAt h2 e (excO C t0) C none := ⟨he2, rfl, rfl, trivial⟩
  refine kxs_getMethod kxs_ValueError hso (looks_opaque X2 T.oq) (l₀ := .ref C :: bm) (fun A Q E s k q => wpAny_bind ((looks_clsIn X2 hcl) A _ E s k (wpAny_pure q))) rfl X2 hsu (I2.type.andThen (looks_subIn X2 T.sV)) hx0 (by decide +kernel) ?_
  refine kxs_callWith (i := "ValueError.__init__") (x := e) rfl ?_
  have hns2 := hns.keeps k2
  refine evalArgs_plain (Calls.spliced_cons (ldc rfl (lk2 T.nm) (hns2.keeps fun b o z => Heap.get?_push_of_some _ z) mf (Calls.spliced_nil ⟨Heap.get?_push_size _ rfl, ?_⟩) T.nm.n4))
  have k3 : ∀ b o, h2.get? b = some o → (h2.push (kxs_mw "ValueError.__init__" e)).get? b = some o := fun b o z => Heap.get?_push_of_some _ z
  show wpAny _ _ (call (.ref h2.objs.size) [v]) _ _ _
  refine call_mw (X2.keeps k3 _ _ hC) (k3 _ _ he2) (Heap.get?_push_size _ rfl) (by rw [sizeLine_eq]; exact (by decide : 1 ≤ 16777216)) fun h4 t1 k4 he4 => ?_
  have kall : ∀ b o, b ≠ e → s.heap.get? b = some o → h4.get? b = some o := fun b o hb z => k4 b o hb (k3 b o (k2 b o (kp b o z)))
  have X4 : K.In h4 := fun a o z => kall a o (fun y => by rw [y, hnx] at z; cases z) (X a o z)
  have hL : s.heap.objs.size ≠ e := Nat.ne_of_gt (Heap.lt_size he)
  have hns4 : h4.Ns s.heap.objs.size (fun y => [(("self" : Str), Value.ref e), (f, v)].reverse.lookup y) := by
    obtain ⟨oL, es, ep, hoL, r⟩ := hns2
    exact ⟨oL, es, ep, k4 _ _ hL (k3 _ _ hoL), r⟩
  show _root_.PySem.wpAt _ _ _ (execs [.Assign [.Attribute (.Name "self" r1) f r2] (.Name f r3) r4] _) _ _ _
  refine wpAt_of_wpAny (wpAny_execs_cons (plainObj_wpAny_Assign_Attribute (ldc rfl (lk2 T.nm) hns4 mf (ldc rfl rfl hns4 mself ?_) T.nm.n4)))
  refine set_plain X4 (ox := excO C t1) (od := none) ⟨he4, rfl, rfl, trivial⟩ T.ox.sa ?_
  refine exc_osa X4 he4 hcl (show refsVE (.ref C :: bm) = true from hbm) rfl T.nf (fun h5 tk5 dx k5 dn dne hx5 hn5 => ?_)
  have z1 : s.heap.objs.size ≤ h1.objs.size := Nat.le_of_lt hns.lt
  refine wpAny_execs_nil (hq h5 tk5 dx t1 ⟨fun b o hb z => k5 b o hb (kall b o hb z), hx5, ?_, dne, hn5⟩)
  have z2 := hns4.lt
  exact Nat.le_trans (Nat.le_of_lt z2) dn
/-- a made error -/
structure Made1 (h h' : Heap) (f : Str) (e C d : Addr) (v : Value) : Prop where
  keep : ∀ b o, h.get? b = some o → h'.get? b = some o
  new : h.objs.size ≤ e
  obj : ∃ oe vs, h'.get? e = some oe ∧ oe.cls = .ref C ∧ oe.dict = some d ∧ oe.data = .fields vs ∧ vs[1]? = some .none
  dbig : h.objs.size ≤ d
  dne : d ≠ e
  ns : h'.Ns1 d (fun y => if y = f then some v else none)
theorem made1 (T : Err1 prog K mg x f C fI) {v : Value} (X : K.In s.heap) (hlim : s.heap.NoLimit) (hg : s.heap.Ns mainGlobals mg) (hb : ∃ mb, s.heap.Ns builtinsNs mb ∧ ∀ x : Str, x ≠ "__name__" → mb x = bootBuiltins x) (hroom : A.depth + 1 < recursionLimit)
    (hq : ∀ h' tk e d, Made1 s.heap h' f e C d v → R (.ok (.ret (.ref e))) { s with heap := h', toks := tk }) :
    codeAny (model prog w) A (.call (.ref C) ⟨[v], []⟩) R s := by
  obtain ⟨nm, q, N, bs, bm, sn, sub, ab, col, dd, k0, k1, k2, k3, k5, hC, hbm⟩ := T.ox.cls
  obtain ⟨hp, g, dr, tk, os⟩ := s
  have kp : ∀ b o, hp.get? b = some o → ((hp.push (kdv_tup [v])).push (excO C hp.objs.size)).get? b = some o := fun b o z => Heap.get?_push_of_some _ (Heap.get?_push_of_some _ z)
  have hget : ((hp.push (kdv_tup [v])).push (excO C hp.objs.size)).get? (hp.objs.size + 1) = some (excO C hp.objs.size) := by heap_get
  have hnx : K.lookup (hp.objs.size + 1) = none := by
    cases z : K.lookup (hp.objs.size + 1) with
    | none => rfl
    | some o => exact absurd (Nat.lt_of_succ_lt (Heap.lt_size (X _ _ z))) (Nat.lt_irrefl _)
  refine call_own F.excBase_ValueError (fun Y => refsVE_contains Y bm hbm) (X _ _ hC) (looks_findIn X T.iC) (fun self => bind_fn X self T.tI) (by rw [sizeLine_eq]; exact (by decide : 1 ≤ 16777216)) ?_
  obtain ⟨mb, hb1, hb2⟩ := hb
  refine init1 (s := ⟨(hp.push (kdv_tup [v])).push (excO C hp.objs.size), g, dr, tk, os⟩) T (X.keeps kp) (hlim.keeps kp) (hg.keeps kp) ⟨mb, hb1.keeps kp, hb2⟩ hget hnx ?_ fun h' tk' dx t1 ⟨k', hx, dn, dne, hns⟩ => ?_
  · show A.depth + 1 < recursionLimit
    exact hroom
  · have old : ∀ b o, hp.get? b = some o → h'.get? b = some o := fun b o z => k' b o (Nat.ne_of_lt (Nat.lt_succ_of_lt (Heap.lt_size z))) (kp b o z)
    have z : hp.objs.size + 1 + 1 ≤ dx := by
      have y := dn
      first
        | (rw [Heap.size_push, Heap.size_push] at y; exact y)
        | exact y
    exact ⟨rfl, hq h' tk' (hp.objs.size + 1) dx ⟨old, Nat.le_succ _, ⟨_, _, hx, rfl, rfl, rfl, rfl⟩, Nat.le_trans (Nat.le_trans (Nat.le_succ _) (Nat.le_succ _)) z, dne, hns⟩⟩
end
end Sup
namespace L2
open PySem PySem.Spec PyProof.Rows
theorem relO_one {v : V} {v' : Value} {f : Str} (r : RelV v v') (g : Str) : RelO (List.lookup g [(f, v)]) (if g = f then some v' else none) := by
  by_cases hw : g = f
  · rw [if_pos hw, hw]
    have z : List.lookup f [(f, v)] = some v := by simp [List.lookup]
    rw [z]
    exact r
  · rw [if_neg hw]
    have y : (g == f) = false := by simpa using hw
    have z : List.lookup g [(f, v)] = none := by simp [List.lookup, y]
    rw [z]
    trivial
section
variable {X : Cx} {C fI : Addr} {x f : Str}
/-- E(e) -/
def tMk1 (C : Addr) (f : Str) (ta : TA) : St → Hp → XK → Prop := fun σ H Q => ta σ H fun vs H1 => ∃ v, vs = [v] ∧ ∀ d, H1 d = none → Q (.ref C) (some d) (upd H1 d (.xd [(f, v)]))
theorem pmk_1 {a : Expr} {ta : TA} {p pos : Pos} {k : Nat} (T : Sup.Err1 X.prog X.K X.mg x f C fI) (hr : Room k X.A) (ha : PA X [a] ta) (hg : Gl X x := by rfl) (hdb : (x == ("__debug__" : Str)) = false := by decide)
    (hs : starEach (a :: []) X.env = (false, eval a X.env) :: starEach [] X.env := by rfl) (hpl : (backTo pos (starEach [] X.env)).any (·.1) = false := by rfl) :
    PMk X (.Call (.Name x p) [a] [] pos) (tMk1 C f ta) := by
  intro pins s σ H Q I h
  refine wpAny_Call_Name_kw (ld_glob I hg T.gC ?_ hdb)
  refine PySem.W.callWith_K (h₀ := X.base) I.ok.mod.kin T.ox.kC (thn (ha.run pos pins s σ H _ I h) fun us s1 hh => ?_) hs hpl
  obtain ⟨vs, H1, I1, r1, v, ev, q1⟩ := hh
  subst ev
  refine ⟨I1.kIn, ?_⟩
  cases r1 with
  | cons rv rn =>
    rename_i v' us'
    cases rn
    show wpAny _ _ (call (.ref C) [v']) _ _ _
    have hlim := I1.nolimit
    obtain ⟨mb, hb1, hb2⟩ := I1.mod.blt
    have bk1 := I1.bk
    have gl1 := I1.mod.glob
    obtain ⟨hp, g, dr, tk, os⟩ := s1
    refine wpAny_call (Sup.made1 T I1.kIn hlim (gl1.keeps bk1) ⟨mb, hb1.keeps bk1, hb2⟩ (by have := hr.dp; omega) fun h' tk' e d M => ?_)
    show MkP X pins σ Q (.ref e) ⟨h', g, dr, tk', os⟩
    obtain ⟨oe, fv, hoe, hc, hd, hdat, h1⟩ := M.obj
    have hns := M.ns
    obtain ⟨G', g1, g2⟩ := restrict h' fun b => decide (b ≠ e)
    have gk : ∀ b, b ≠ e → G'.get? b = h'.get? b := fun b hb => g1 b (decide_eq_true hb)
    have ge : G'.get? e = none := g2 e (by simp)
    have old : ∀ b o, hp.get? b = some o → G'.get? b = some o := fun b o z => (gk b (Nat.ne_of_lt (Nat.lt_of_lt_of_le (Heap.lt_size z) M.new))).trans (M.keep b o z)
    have ob : ObjOk X.prog X.w (upd H1 d (.xd [(f, v)])) G' d (.xd [(f, v)]) :=
      ⟨_, hns.at (fun o z => (gk d M.dne).trans z), fun y => relO_one rv y⟩
    have J : Inv X pins σ (upd H1 d (.xd [(f, v)])) ⟨G', g, dr, tk', os⟩ := I1.laid (t' := tk') old M.dbig ob
    refine ⟨e, oe, fv, ⟨G', g, dr, tk', os⟩, _, .ref C, some d, rfl, J, fun b o z => ?_, ge, hoe, ⟨hc, hd⟩, hdat, h1, ?_, rfl, I1.bare, raises_own T.ox.exC T.ox.tyC, q1 d (I1.hok.fresh M.dbig)⟩
    · by_cases hb : b = e
      · have z' : G'.get? b = some o := z
        rw [hb, ge] at z'; cases z'
      · exact (gk b hb).symm.trans z
    · rw [upd_ne (Ne.symm M.dne)]
      exact I1.hok.fresh M.new
/-- raise E(e) -/
def tRaise1 (C : Addr) (f : Str) (W : WX) (ta : TA) : TS := fun _ σ H => tMk1 C f ta σ H fun cls d H' => W cls d σ H'
theorem ps_raise1 {a : Expr} {ta : TA} {W : WX} {p pos pos2 : Pos} {k : Nat} (hc : X.calm = true) (T : Sup.Err1 X.prog X.K X.mg x f C fI) (hr : Room k X.A) (tk : Takes X W) (ha : PA X [a] ta) (hg : Gl X x := by rfl) (hdb : (x == ("__debug__" : Str)) = false := by decide)
    (hs : starEach (a :: []) X.env = (false, eval a X.env) :: starEach [] X.env := by rfl) (hpl : (backTo pos (starEach [] X.env)).any (·.1) = false := by rfl) :
    PS X (.Raise (some (.Call (.Name x p) [a] [] pos)) none pos2) (tRaise1 C f W ta) := ps_raise hc tk (pmk_1 T hr ha hg hdb hs hpl)
end
end L2
/-! Defs by name, the pen. -/
namespace My
open PySem PySem.Spec PyProof.Rows L2
/-- a def of the module that keeps its promise -/
structure DefAt (P : Program) (w : World) (K : PySem.W.Frag) (mg : Str → Option Value) (base : Heap) (CX : CXT) (k : Nat) (x : Str) (ps : List Str) (sp : Sp) : Prop where
  ex : ∃ f fd, FnOk P w K mg base CX k f fd ps sp ∧ mg x = some (.ref f) ∧ PySem.W.keepIn K (.ref f) = true ∧ L2.Binds K fd ps []
structure DefG (P : Program) (w : World) (K : PySem.W.Frag) (mg : Str → Option Value) (base : Heap) (CX : CXT) (k : Nat) (x : Str) (ps : List Str) (sp : Sp) : Prop where
  ex : ∃ f fd, FnG P w K mg base CX k f fd ps sp ∧ mg x = some (.ref f) ∧ PySem.W.keepIn K (.ref f) = true ∧ L2.Binds K fd ps []
section
variable {X : Cx} {CX : CXT} {k : Nat} {ps : List Str} {sp : Sp} {E : XK} {x : Str} {e : Expr} {es : List Expr} {t : TA} {p pos : Pos}
theorem pe_d (D : DefAt X.prog X.w X.K X.mg X.base CX k x ps sp) (hr : Room k X.A) (hg : Gl X x) (hx : Passes CX X E) (ha : PA X (e :: es) t) (hdb : (x == ("__debug__" : Str)) = false := by decide)
    (hs : starEach (e :: es) X.env = (false, eval e X.env) :: starEach es X.env := by rfl) (hpl : (backTo pos (starEach es X.env)).any (·.1) = false := by rfl) : PE X (.Call (.Name x p) (e :: es) [] pos) (tCall sp [] E t) := by
  obtain ⟨f, fd, F, m, hk, b⟩ := D.ex
  exact pe_call F hr hg m hk b .nil hx ha hdb hs hpl
theorem pe_dG (D : DefG X.prog X.w X.K X.mg X.base CX k x ps sp) (hgd : X.A.guards = some []) (hr : Room k X.A) (hg : Gl X x) (hx : Passes CX X E) (ha : PA X (e :: es) t) (hdb : (x == ("__debug__" : Str)) = false := by decide)
    (hs : starEach (e :: es) X.env = (false, eval e X.env) :: starEach es X.env := by rfl) (hpl : (backTo pos (starEach es X.env)).any (·.1) = false := by rfl) : PE X (.Call (.Name x p) (e :: es) [] pos) (tCall sp [] E t) := by
  obtain ⟨f, fd, F, m, hk, b⟩ := D.ex
  exact pe_callG F hgd hr hg m hk b hx ha hdb hs hpl
end
/-- a class of the module that is made by its __init__, some defaults filled up -/
structure MakeAt (P : Program) (w : World) (K : PySem.W.Frag) (mg : Str → Option Value) (base : Heap) (CX : CXT) (k : Nat) (x : Str) (C : Addr) (ps : List Str) (sp : Sp) (dvs : List V) : Prop where
  ex : ∃ f fd ds, Mk K C f ∧ FnOk P w K mg base CX k f fd ps sp ∧ mg x = some (.ref C) ∧ L2.Binds K fd ps ds ∧ Vals dvs ds
structure MethAt (P : Program) (w : World) (K : PySem.W.Frag) (mg : Str → Option Value) (base : Heap) (CX : CXT) (k : Nat) (C : Addr) (m : Str) (ps : List Str) (sp : Sp) : Prop where
  ex : ∃ f fd, Meth K C m f ∧ FnOk P w K mg base CX k f fd ps sp ∧ L2.Binds K fd ps []
/-- .. called with keywords alone: their names ks, gV puts them in the parameters' order -/
structure MethK (P : Program) (w : World) (K : PySem.W.Frag) (mg : Str → Option Value) (base : Heap) (CX : CXT) (k : Nat) (C : Addr) (m : Str) (ps ks : List Str) (sp : Sp) (gV : List V → List V → List V) : Prop where
  ex : ∃ f fd g, Meth K C m f ∧ FnOk P w K mg base CX k f fd ps sp ∧ KBn K fd ps 1 ks g gV
structure CallAt (P : Program) (w : World) (K : PySem.W.Frag) (mg : Str → Option Value) (base : Heap) (CX : CXT) (k : Nat) (C : Addr) (ps : List Str) (sp : Sp) : Prop where
  ex : ∃ f fd, StX.CallO K C f ∧ FnOk P w K mg base CX k f fd ps sp ∧ L2.Binds K fd ps []
section
variable {X : Cx} {CX : CXT} {k : Nat} {C : Addr} {ps ks : List Str} {sp : Sp} {E : XK} {x m : Str} {e o fe : Expr} {es : List Expr} {kws : List Keyword} {t tk : TA} {ta tf : TE} {p pos apos : Pos} {dvs : List V} {gV : List V → List V → List V}
theorem pe_mk (M : MakeAt X.prog X.w X.K X.mg X.base CX k x C ps sp dvs) (hr : Room (k + 1) X.A) (hg : Gl X x) (hx : Passes CX X E) (ha : PA X (e :: es) t) (hdb : (x == ("__debug__" : Str)) = false := by decide)
    (hs : starEach (e :: es) X.env = (false, eval e X.env) :: starEach es X.env := by rfl) (hpl : (backTo pos (starEach es X.env)).any (·.1) = false := by rfl) : PE X (.Call (.Name x p) (e :: es) [] pos) (tMake C sp dvs E t) := by
  obtain ⟨f, fd, ds, mk, F, hm, b, d⟩ := M.ex
  exact pe_make mk F hr hg hm b d hx ha hdb hs hpl
theorem pe_mt {pl : Sem Bool} (c : Cls X.K C) (M : MethAt X.prog X.w X.K X.mg X.base CX k C m ps sp) (hr : Room k X.A) (hx : Passes CX X E) (he : PE X o ta) (ha : PA X (e :: es) t)
    (hst : starEach (e :: es) X.env = (false, eval e X.env) :: starEach es X.env := by rfl) (hpl : (backTo pos (starEach es X.env)).any (·.1) = false := by rfl)
    (ht : eval (.Call (.Attribute o m apos) (e :: es) [] pos) X.env = (do
      let ov ← eval o X.env
      standAt apos.atName
      let (f, first) ← holding [ov] (getMethod ov m pl)
      callWith pos f first (backTo pos (starEach (e :: es) X.env)) (backToKw pos (keywordEach [] X.env))) := by rfl) :
    PE X (.Call (.Attribute o m apos) (e :: es) [] pos) (tMeth C m sp [] E ta t) := by
  obtain ⟨f, fd, hm, F, b⟩ := M.ex
  exact pe_meth he c hm F hr b .nil hx ha hst hpl ht
theorem pe_mt0 {pl : Sem Bool} (c : Cls X.K C) (M : MethAt X.prog X.w X.K X.mg X.base CX k C m ps sp) (hr : Room k X.A) (hx : Passes CX X E) (he : PE X o ta)
    (ht : eval (.Call (.Attribute o m apos) [] [] pos) X.env = (do
      let ov ← eval o X.env
      standAt apos.atName
      let (f, first) ← holding [ov] (getMethod ov m pl)
      callWith pos f first (backTo pos (starEach [] X.env)) (backToKw pos (keywordEach [] X.env))) := by rfl) :
    PE X (.Call (.Attribute o m apos) [] [] pos) (tMeth C m sp [] E ta tNil) := by
  obtain ⟨f, fd, hm, F, b⟩ := M.ex
  exact pe_meth0 he c hm F hr b .nil hx ht
/-- o.m(k = v, ..) -/
def tMethK (C : Addr) (m : Str) (j : Nat) (sp : Sp) (gV : List V → List V → List V) (E : XK) (ta : TE) (tk : TA) : TE := fun σ H Q => ta σ H fun x H1 => ∃ a dx fs, x = .ref a ∧ H1 a = some (.ins C dx fs) ∧ fs.lookup m = none ∧
  tk σ H1 fun zs H2 => zs.length = j ∧ sp (gV [.ref a] zs) H2 Q E
theorem pe_mtK {pl : Sem Bool} (c : Cls X.K C) (M : MethK X.prog X.w X.K X.mg X.base CX k C m ps ks sp gV) (hr : Room k X.A) (hx : Passes CX X E) (he : PE X o ta) (hkw : PK X kws tk)
    (hall : (backToKw pos (keywordEach kws X.env)).all (·.1.isSome) = true := by rfl) (hks : (backToKw pos (keywordEach kws X.env)).filterMap (·.1) = ks := by rfl)
    (hpl : ((backTo pos (starEach [] X.env)).any (·.1) || (backToKw pos (keywordEach kws X.env)).any (·.1.isNone)) = false := by rfl)
    (ht : eval (.Call (.Attribute o m apos) [] kws pos) X.env = (do
      let ov ← eval o X.env
      standAt apos.atName
      let (f, first) ← holding [ov] (getMethod ov m pl)
      callWith pos f first (backTo pos (starEach [] X.env)) (backToKw pos (keywordEach kws X.env))) := by rfl) :
    PE X (.Call (.Attribute o m apos) [] kws pos) (tMethK C m ks.length sp gV E ta tk) := by
  obtain ⟨f, fd, g, hm, F, b⟩ := M.ex
  refine ⟨fun pins s σ H Q I h => ?_⟩
  refine PySem.W.methodCall_KW (pl := pl) (thn (he.run pins s σ H _ I h) fun u s1 ⟨x, H1, I1, rx, a, dx, fs, ex, ea, l, q⟩ => ?_) ht
  subst ex
  obtain rfl : u = Value.ref a := rx
  refine getmeth_ok I1 ea c hm l ?_
  refine PySem.W.callWith_KW0 (first := [.ref a]) (h₀ := X.base) I.ok.mod.kin hm.kp hall (thn (hkw.run pos pins s1 σ H1 _ I1 q) fun ws s2 ⟨zs, H2, I2, rz, l2, q2⟩ => ⟨I2.kIn, ?_⟩) hpl
  rw [hks]
  exact run_fnN (us := [.ref a]) (vs := [.ref a]) F hr b hx I2 (.cons rfl .nil) rz rfl l2 q2
theorem pe_cl (M : CallAt X.prog X.w X.K X.mg X.base CX k C ps sp) (hr : Room k X.A) (hx : Passes CX X E) (hf : PE X fe tf) (ha : PA X (e :: es) t)
    (ht : eval (.Call fe (e :: es) [] pos) X.env = (do callWith pos (← eval fe X.env) [] (backTo pos (starEach (e :: es) X.env)) (backToKw pos (keywordEach [] X.env))) := by rfl)
    (hs : starEach (e :: es) X.env = (false, eval e X.env) :: starEach es X.env := by rfl) (hpl : (backTo pos (starEach es X.env)).any (·.1) = false := by rfl) : PE X (.Call fe (e :: es) [] pos) (StX.tCallO X C sp E tf t) := by
  obtain ⟨f, fd, c, F, b⟩ := M.ex
  refine StX.pe_callO hf c (fun A outer s H us vs Q E hr e0 r hsp => ?_) hr hx ha ht hs hpl
  have hl : (us ++ []).length = ps.length := by rw [List.append_nil, ← r.length]; exact F.len _ _ _ _ hsp
  have hb := b s us (e0.mod.kin.keeps fun b o e => (e0.bs b o e).1) hl
  rw [List.append_nil] at hb
  exact F.run A outer s H ⟨us, []⟩ us vs Q E hr e0 hb r hsp
end
/-- an own comparison -/
structure CmpAt (P : Program) (w : World) (K : PySem.W.Frag) (mg : Str → Option Value) (base : Heap) (CX : CXT) (k : Nat) (C : Addr) (m : Str) (ps : List Str) (sp : Sp) : Prop where
  ex : ∃ f fd, PySem.W.findIn K (.ref C) m = some (some (.ref f)) ∧ PySem.W.isFn K (.ref f) = true ∧ FnOk P w K mg base CX k f fd ps sp ∧ L2.Binds K fd ps []
def rCmpO (K : PySem.W.Frag) (C : Addr) (sp : Sp) (E : XK) : R2 := fun x y H Q => ∃ a dx fs t, x = .ref a ∧ H a = some (.ins C dx fs) ∧ TyX K H y t ∧ PySem.W.notFirst K C t = true ∧ sp [.ref a, y] H Q E
theorem op_cmpO {X : Cx} {CX : CXT} {k : Nat} {C : Addr} {m : Str} {ps : List Str} {sp : Sp} {E : XK} {op : CmpOp} (M : CmpAt X.prog X.w X.K X.mg X.base CX k C m ps sp) (hr : Room k X.A) (hx : Passes CX X E) (hop : (cmpInfo op).2.1 = m := by rfl)
    (hco : ∀ v u, compareOp op v u = richCompare op v u := by intro _ _; rfl) : OpR X (compareOp op) (rCmpO X.K C sp E) := by
  intro pins s σ H x y v u Q I rx ry h
  obtain ⟨f, fd, hs, hf, F, hb⟩ := M.ex
  obtain ⟨a, dx, fs, t, rfl, ha, ty, hn, hsp⟩ := h
  obtain rfl : v = Value.ref a := rx
  obtain ⟨mA, J, _⟩ := ins_get I.hok ha
  obtain ⟨od, J, _⟩ := J.look
  obtain ⟨m', hF⟩ := I.fr
  obtain ⟨Pz, Z, pz, _⟩ := kit_of I ry ty
  rw [hco]
  refine PySem.W.cmp_K (op := op) (tb := t) hr.units0 hF I.ok.mod.kin J (Z.ty _ _ I.kIn pz) hn (by rw [hop]; exact hs) hf ?_
  have hl := F.len _ _ _ _ hsp
  have r2 : Vals [V.ref a, y] [Value.ref a, u] := .cons rfl (.cons ry .nil)
  refine wpAny_call (codeAny_mono (F.run X.A X.stack s H ⟨[.ref a, u], []⟩ [.ref a, u] [.ref a, y] _ E hr I.env0 (by
    have := hb s [.ref a, u] I.kIn (by simpa using hl)
    simpa using this) r2 hsp) fun r s' hq => ?_)
  cases r with
  | error e => exact hx pins σ H s e s' I hq
  | ok fl =>
    cases fl with
    | ret z =>
      have q := I.after hq
      obtain ⟨zv, H', I', rz, q'⟩ := id q
      cases z with
      | notImplemented => cases zv <;> first | (cases rz; done) | (obtain ⟨_, rz⟩ := rz; cases rz)
      | _ => exact q
    | next => exact False.elim hq
    | brk => exact False.elim hq
    | cont => exact False.elim hq
/-! ### the pen: a list of the cells, an index, what is left of a great cell -/
def PenAt (H : Hp) (pn : Addr) (n : Nat) : Prop := ∃ (cl : Addr) (ns : List Int) (at_ rest : Int), H pn = some (.lst [.ref cl, .int at_, .int rest]) ∧ H cl = some (.lst (ns.map V.int)) ∧ ns.length ≤ 63 ∧ 0 ≤ at_ ∧ at_ ≤ n
/-- all but pn stays -/
def But (pn : Addr) (H H' : Hp) : Prop := ∀ b o, H b = some o → b ≠ pn → H' b = some o
theorem But.refl (pn : Addr) (H : Hp) : But pn H H := fun _ _ h _ => h
theorem But.trans {pn : Addr} {H H1 H2 : Hp} (a : But pn H H1) (b : But pn H1 H2) : But pn H H2 := fun c o h n => b c o (a c o h n) n
theorem But.new {pn p : Addr} {H : Hp} {o : HO} (h : H p = none) : But pn H (upd H p o) := fun b u e _ => by rw [upd_ne (ne_of_none e h)]; exact e
theorem But.put {pn : Addr} {H : Hp} {o : HO} : But pn H (upd H pn o) := fun b u e n => by rw [upd_ne n]; exact e
theorem pen_new {H : Hp} {pn p : Addr} {n : Nat} {o : HO} (h : PenAt H pn n) (hp : H p = none) : PenAt (upd H p o) pn n := by
  obtain ⟨cl, ns, a, r, h1, h2, h3⟩ := h
  exact ⟨cl, ns, a, r, by rw [upd_ne (ne_of_none h1 hp)]; exact h1, by rw [upd_ne (ne_of_none h2 hp)]; exact h2, h3⟩
theorem PenAt.le {H : Hp} {pn : Addr} {n m : Nat} (h : PenAt H pn n) (le : n ≤ m) : PenAt H pn m := by
  obtain ⟨cl, ns, a, r, h1, h2, h3, h4, h5⟩ := h
  exact ⟨cl, ns, a, r, h1, h2, h3, h4, by omega⟩
def spDraw : Sp := fun vs H Q _ => ∃ (pn : Addr) (m : Int) (n : Nat), vs = [.ref pn, .int m] ∧ 0 < m ∧ m.natAbs.log2 < 9000 ∧ PenAt H pn n ∧ n < 100000 ∧
  ∀ (d : Int) (H' : Hp), 0 ≤ d → d < m → PenAt H' pn (n + 1) → But pn H H' → Q (.int d) H'
/-- pick(pen, some): one of some -/
def spPick : Sp := fun vs H Q _ => ∃ (pn l : Addr) (n : Nat) (xs : List V), vs = [.ref pn, .ref l] ∧ H l = some (.lst xs) ∧ l ≠ pn ∧ 0 < xs.length ∧ xs.length ≤ 1000 ∧ PenAt H pn n ∧ n < 100000 ∧
  ∀ (v : V) (H' : Hp), v ∈ xs → PenAt H' pn (n + 1) → But pn H H' → Q v H'
def spPen (K : PySem.W.Frag) : Sp := fun vs H Q _ => ∃ (a : Addr) (ns : List Int), vs = [.ref a] ∧ SqL K H a (ns.map V.int) ∧
  ∀ (pn : Addr) (H' : Hp), H pn = none → PenAt H' pn 0 → Same H H' → Q (.ref pn) H'
/-! ### lists of ints as data -/
theorem dp_ints {K : PySem.W.Frag} {H : Hp} : ∀ ns : List Int, DpAll K H (ns.map V.int) (ns.map PyData.int)
  | [] => .nil
  | n :: ns => .cons (.int n) (dp_ints ns)
theorem lay_ints : ∀ ns : List Int, PyData.canLayAll0 (ns.map PyData.int) = true
  | [] => rfl
  | n :: ns => by
    show (true && PyData.canLayAll0 (ns.map PyData.int)) = true
    rw [lay_ints ns]
    rfl
theorem dep_ints : ∀ ns : List Int, PyData.depthAll (ns.map PyData.int) = 0
  | [] => rfl
  | n :: ns => by
    show max 0 (PyData.depthAll (ns.map PyData.int)) = 0
    rw [dep_ints ns]
    rfl
theorem shaped_ints (ns : List Int) : SeqAt.shaped (.list (ns.map PyData.int)) = true := by
  show (PyData.canLayAll0 (ns.map PyData.int) && decide (PyData.depthAll (ns.map PyData.int) + 1 ≤ 64)) = true
  rw [lay_ints, dep_ints]
  rfl
theorem pow_lt {i : Int} {b : Nat} (h0 : 0 ≤ i) (h : i < 2 ^ b) : i.natAbs < 2 ^ b := by
  have e : ((2 ^ b : Nat) : Int) = (2 : Int) ^ b := by simp
  omega
theorem mix_lt {x a c d e : Int} (x0 : 0 ≤ x) (x1 : x < 2147483648) (a0 : 0 ≤ a) (a1 : a < 100000) (c0 : 0 ≤ c) (c1 : c ≤ 1000) (d0 : 0 ≤ d) (d1 : d ≤ 100000) (e0 : 0 ≤ e) (e1 : e ≤ 100000) : (x * (2 * a + c) + d * a * a + e).natAbs < 2 ^ 64 := by
  have h1 : x * (2 * a + c) ≤ 2147483648 * 201000 := Int.mul_le_mul (by omega) (by omega) (by omega) (by decide)
  have h2 : 0 ≤ x * (2 * a + c) := Int.mul_nonneg x0 (by omega)
  have h3 : d * a ≤ 100000 * 100000 := Int.mul_le_mul d1 (by omega) a0 (by decide)
  have h4 : 0 ≤ d * a := Int.mul_nonneg d0 a0
  have h5 : d * a * a ≤ (100000 * 100000) * 100000 := Int.mul_le_mul h3 (by omega) a0 (by decide)
  have h6 : 0 ≤ d * a * a := Int.mul_nonneg h4 a0
  generalize x * (2 * a + c) = y at *
  generalize d * a * a = z at *
  refine pow_lt (by omega) (by omega)
theorem cut_ints (ns : List Int) (k : Nat) : cutV (ns.map V.int) none (some (k : Int)) = (ns.take k).map V.int := by
  unfold cutV
  rw [HT.sIx_none, HT.sIx_nat, List.drop_zero, Nat.sub_zero, List.map_take, List.length_map]
  by_cases h : k ≤ ns.length
  · rw [Nat.min_eq_left h]
  · rw [Nat.min_eq_right (by omega), List.take_of_length_le (by rw [List.length_map]; exact Nat.le_refl _), List.take_of_length_le (by rw [List.length_map]; omega)]
/-- names that are still the built-in ones -/
structure BI (mg : Str → Option Value) : Prop where
  z_len : mg "len" = none
  z_abs : mg "abs" = none
  z_int : mg "int" = none
  z_bool : mg "bool" = none
  z_list : mg "list" = none
  z_repr : mg "repr" = none
  z_isinstance : mg "isinstance" = none
  z_range : mg "range" = none
end My
/-! The end of a law whose def shows containers: a def that keeps its promise where nothing is being shown. -/
namespace My
open PySem PySem.Spec PyProof.Rows L2
/-- the heap h at the law's start as the walk sees it: the script's list at a, the tables of code objects -/
structure Begin (P : Program) (w : World) (K : PySem.W.Frag) (cs : List (Addr × Addr)) (a : Addr) (ns : List Int) (H : Hp) (h : Heap) : Prop where
  tbl : ∀ p ∈ cs, H p.2 = some (.tbl #[])
  kind : ∀ b, H b = none ∨ b ∈ cs.map (·.2) ∨ ∃ o xs, H b = some (.frz o (.lst xs))
  seq : SqL K H a (ns.map V.int)
  ok : HOk P w H h
  only : ∀ b, H b ≠ none → b = a ∨ b ∈ cs.map (·.2)
  out : H a ≠ none → K.lookup a = none
/-- what is known of a table and its code object -/
structure TabF (K : PySem.W.Frag) (h : Heap) (p : Addr × Addr) : Prop where
  get : h.get? p.2 = some { cls := .none, data := .fields #[] }
  out : K.lookup p.2 = none
  hd : PySem.W.CodeHd h p.1 p.2
def Goal (l : Program) (w : World) (fa a : Addr) (s₁ : Shared) : Prop := codeAny (model l w) callerA (.call (.ref fa) ⟨[.ref a], []⟩) (fun r s' => r = .ok (.ret (.bool true)) ∧ OldK s₁.heap s'.heap ∧ s'.os = s₁.os ∧ AllBare s'.gens) s₁
theorem tab_get {K : PySem.W.Frag} {h : Heap} {cs : List (Addr × Addr)} (t : ∀ p ∈ cs, TabF K h p) {b : Addr} (hb : b ∈ cs.map (·.2)) : h.get? b = some { cls := .none, data := .fields #[] } := by
  obtain ⟨p, hp, rfl⟩ := List.mem_map.mp hb
  exact (t p hp).get
section
variable {P : Program} {w : World} {K : PySem.W.Frag} {mg mb : Str → Option Value} {k : Nat} {fa a : Addr} {cs : List (Addr × Addr)} {fd : FuncData} {x : Str} {sp : Sp} {s₁ : Shared} {vs : List Value} {ns : List Int}
theorem from_begin {H : Hp} (B : Begin P w K cs a ns H s₁.heap) (hK : K.In s₁.heap) (gN : s₁.heap.Ns mainGlobals mg) (bN : s₁.heap.Ns builtinsNs mb) (bB : ∀ x : Str, x ≠ "__name__" → mb x = bootBuiltins x) (lim : s₁.heap.NoLimit) (gens : s₁.gens = #[])
    (ts : ∀ p ∈ cs, TabF K s₁.heap p) (mB : ∃ (bm : Addr) (ob : Obj), mg "__builtins__" = some (.ref bm) ∧ bm ≠ builtinsNs ∧ s₁.heap.get? bm = some ob ∧ ob.cls = .type "module" ∧ ob.dict = some builtinsNs ∧ ob.data = .plain)
    (la : s₁.heap.get? a = some { cls := .type "list", data := .seq vs.toArray }) (hr : Room k callerA)
    (F : ∀ base : Heap, K.In base → base.Ns mainGlobals mg → (∀ p ∈ cs, LamX.TabB base mg p.1 p.2) → FnG P w K mg base CX0 k fa fd [x] sp) (bd : ∀ (s : Shared) (u : Value), BindsTo s fd ⟨[u], []⟩ [(x, u)])
    (go : sp [.ref a] H (fun v _ => v = .bl true) fun _ _ _ => False) : Goal P w fa a s₁ := by
  have away : ∀ {b : Addr} {o : Obj}, s₁.heap.get? b = some o → (∀ ys n, o.data ≠ .seq ys n) → o.data ≠ .fields #[] → H b = none := fun {b o} e n1 n2 => by
    by_cases q : H b = none
    · exact q
    · exfalso
      rcases B.only b q with rfl | hb
      · rw [la] at e
        injection e with e
        subst e
        exact n1 _ _ rfl
      · rw [tab_get ts hb] at e
        injection e with e
        subst e
        exact n2 rfl
  have seen : ∀ {b : Addr} {o : Obj}, s₁.heap.get? b = some o → H b = none → (hidT s₁.heap H).get? b = some o := fun e n => hidT_get e n
  have nsOf : ∀ {b : Addr} {m : Str → Option Value}, s₁.heap.Ns b m → (hidT s₁.heap H).Ns b m := fun {b m} ⟨o, es, ep, e, d, r⟩ =>
    ⟨o, es, ep, seen e (away e (fun ys n z => by rw [d] at z; cases z) (fun z => by rw [d] at z; cases z)), d, r⟩
  have inK : K.In (hidT s₁.heap H) := fun b o e => by
    refine seen (hK b o e) ?_
    by_cases q : H b = none
    · exact q
    · exfalso
      rcases B.only b q with rfl | hb
      · rw [B.out q] at e
        cases e
      · obtain ⟨p, hp, rfl⟩ := List.mem_map.mp hb
        rw [(ts p hp).out] at e
        cases e
  have modK : L2.Mod K mg (hidT s₁.heap H) := ⟨inK, nsOf gN, ⟨mb, nsOf bN, bB⟩, let ⟨mc, h1, h2⟩ := lim; ⟨mc, nsOf h1, h2⟩⟩
  have tabs : ∀ p ∈ cs, LamX.TabB (hidT s₁.heap H) mg p.1 p.2 := fun p hp => by
    have tp := ts p hp
    refine ⟨?_, ?_, fun z => ?_⟩
    · obtain ⟨o, us, file, tf, flags, tg, inF, text, tt, e1, r1, r2, r3, rs⟩ := tp.hd
      exact ⟨o, us, file, tf, flags, tg, inF, text, tt, seen e1 (away e1 (fun ys n z => by rw [r2] at z; cases z) (fun z => by rw [r2] at z; cases z; simp at r3)), r1, r2, r3, rs⟩
    · obtain ⟨bm, ob, m1, m2, m3, m4, m5, m6⟩ := mB
      refine ⟨bm, ob, m1, m2, fun z => ?_, fun z => ?_, seen m3 (away m3 (fun ys n z => by rw [m6] at z; cases z) (fun z => by rw [m6] at z; cases z)), m4, m5, m6⟩
      · obtain ⟨o, es, ep, e, hd, _⟩ := gN
        rw [z, e] at m3
        cases m3
        rw [hd] at m6
        cases m6
      · rw [z, tp.get] at m3
        cases m3
        cases m6
    · obtain ⟨o, es, ep, e, hd, _⟩ := gN
      rw [z, tp.get] at e
      cases e
      cases hd
  have env0 : Env0 P w K mg (hidT s₁.heap H) callerA [] s₁ H := ⟨rfl, modK, fun b o e => of_hidT e, Nat.le_of_eq (hidT_size _ _), trivial, fun b hb => absurd (show b ∈ ([] : List Addr) from hb) (by simp), B.ok, .of_eq gens⟩
  unfold Goal
  refine codeAny_mono ((F _ inK (nsOf gN) tabs).run callerA [] s₁ H ⟨[.ref a], []⟩ [.ref a] [.ref a] _ _ rfl hr env0 (bd s₁ (.ref a)) (.cons rfl .nil) go) fun r s' done => ?_
  match r, done with
  | .error e, z => exact False.elim z
  | .ok .next, z => exact False.elim z
  | .ok .brk, z => exact False.elim z
  | .ok .cont, z => exact False.elim z
  | .ok (.ret u), ⟨v, H', os, bare, un, ok', r', q⟩ =>
    have q2 : v = .bl true := q
    subst q2
    have q3 : u = Value.bool true := r'
    subst q3
    have stays : ∀ b o, b ∉ cs.map (·.2) → s₁.heap.get? b = some o → s'.heap.get? b = some o := fun b o nb e => by
      rcases B.kind b with z | z | ⟨ob, xs, z⟩
      · exact un.keep b o e z (by intro z; exact absurd (show b ∈ ([] : List Addr) from z) (by simp)) (by simp)
      · exact absurd z nb
      · obtain ⟨e1, _⟩ := B.ok b _ z
        obtain ⟨e2, _⟩ := ok' b _ (un.frzs b ob _ z)
        rw [e] at e1
        cases e1
        exact e2
    have more : ∀ p ∈ cs, ∃ ys : Array Value, s'.heap.get? p.2 = some { cls := .none, data := .fields ys } := fun p hp => by
      obtain ⟨ys, z⟩ := un.tbls p.2 #[] (B.tbl p hp)
      exact ⟨_, ok' p.2 _ z⟩
    refine ⟨rfl, ⟨fun b o e => ?_, fun b o e => ?_⟩, os, bare⟩
    · by_cases hb : b ∈ cs.map (·.2)
      · obtain ⟨p, hp, rfl⟩ := List.mem_map.mp hb
        obtain ⟨ys, hm⟩ := more p hp
        rw [(ts p hp).get] at e
        cases e
        exact .inr (.inl ⟨((ts p hp).hd.tab (ts p hp).get).isCodeTable, rfl, #[], ys, rfl, by rw [Array.empty_append]; exact hm⟩)
      · exact .inl (stays b o hb e)
    · by_cases hb : b ∈ cs.map (·.2)
      · obtain ⟨p, hp, rfl⟩ := List.mem_map.mp hb
        obtain ⟨ys, hm⟩ := more p hp
        exact ⟨_, hm⟩
      · exact ⟨o, stays b o hb e⟩
/-- such a beginning is to be had -/
theorem begins (hK : K.In s₁.heap) (ts : ∀ p ∈ cs, TabF K s₁.heap p) (la : s₁.heap.get? a = some { cls := .type "list", data := .seq vs.toArray }) (hi : IntsAre vs ns) (hl : ns.length ≤ sizeLine) : ∃ H, Begin P w K cs a ns H s₁.heap := by
  have nt : a ∉ cs.map (·.2) := fun z => by
    have q := tab_get ts z
    rw [la] at q
    injection q with q
    injection q with _ _ q _
    cases q
  have rv := vals_ints hi
  let O : Option HO := if (K.lookup a).isSome = true then none else some (.frz { cls := .type "list", data := .seq vs.toArray } (.lst (ns.map V.int)))
  have atT : ∀ b, b ∈ cs.map (·.2) → (if b ∈ cs.map (·.2) then some (HO.tbl #[]) else if b = a then O else none) = some (HO.tbl #[]) := fun b h => if_pos h
  have atA : (if a ∈ cs.map (·.2) then some (HO.tbl #[]) else if a = a then O else none) = O := (if_neg nt).trans (if_pos rfl)
  have atN : ∀ b, b ∉ cs.map (·.2) → b ≠ a → (if b ∈ cs.map (·.2) then some (HO.tbl #[]) else if b = a then O else none) = none := fun b h1 h2 => (if_neg h1).trans (if_neg h2)
  refine ⟨fun b => if b ∈ cs.map (·.2) then some (.tbl #[]) else if b = a then O else none, fun p hp => atT _ (List.mem_map.mpr ⟨p, hp, rfl⟩), fun b => ?_, ?_, fun b u z => ?_, fun b z => ?_, fun z => ?_⟩
  · by_cases h1 : b ∈ cs.map (·.2)
    · exact .inr (.inl h1)
    · by_cases h2 : b = a
      · subst h2
        by_cases h3 : (K.lookup b).isSome = true
        · exact .inl (atA.trans (if_pos h3))
        · exact .inr (.inr ⟨_, _, atA.trans (if_neg h3)⟩)
      · exact .inl (atN b h1 h2)
  · cases h3 : K.lookup a with
    | none =>
      refine .inl (.inr ⟨_, atA.trans (if_neg ?_)⟩)
      rw [h3]
      exact Bool.noConfusion
    | some o =>
      have e := hK a o h3
      rw [la] at e
      cases e
      exact .inr ⟨_, vs.toArray, _, h3, rfl, rfl, rfl, by rw [List.size_toArray, hi.length]; exact hl, by simpa using rv⟩
  · by_cases h1 : b ∈ cs.map (·.2)
    · have z' := (atT b h1).symm.trans z
      cases z'
      exact tab_get ts h1
    · by_cases h2 : b = a
      · subst h2
        have z' := atA.symm.trans z
        by_cases h3 : (K.lookup b).isSome = true
        · have z2 := (if_pos h3).symm.trans z'
          cases z2
        · have z2 := (if_neg h3).symm.trans z'
          cases z2
          exact ⟨la, by rw [List.length_map]; exact hl, vs, _, rv, la⟩
      · have z' := (atN b h1 h2).symm.trans z
        cases z'
  · by_cases h1 : b ∈ cs.map (·.2)
    · exact .inr h1
    · by_cases h2 : b = a
      · exact .inl h2
      · exact absurd (atN b h1 h2) z
  · cases h3 : K.lookup a with
    | none => rfl
    | some o => exact absurd (atA.trans (if_pos (by rw [h3]; rfl))) z
end
/-- what is known of the law's promise at the head's heap h; TF: what the top says of the tables -/
def LawG (l : PySem.W.OpenLaw) (w : World) (K : PySem.W.Frag) (k n : Nat) (x : Str) (mg : Str → Option Value) (fa : Addr) (h : Heap) : Prop :=
  ∃ (fd : FuncData) (cs : List (Addr × Addr)) (sp : Sp), (∀ p ∈ cs, TabF K h p) ∧ (∀ (s : Shared) (u : Value), BindsTo s fd ⟨[u], []⟩ [(x, u)]) ∧
    (∀ (H : Hp) (a : Addr) (ns : List Int), ns.length ≤ n → (∀ z ∈ ns, Builtin.Int.intBits z ≤ 1048576) → (∀ p ∈ cs, H p.2 = some (.tbl #[])) → SqL K H a (ns.map V.int) → sp [.ref a] H (fun v _ => v = .bl true) fun _ _ _ => False) ∧
    ∀ base : Heap, K.In base → base.Ns mainGlobals mg → (∀ p ∈ cs, LamX.TabB base mg p.1 p.2) → FnG l.prog w K mg base CX0 k fa fd [x] sp
theorem walk_G {l : PySem.W.OpenLaw} {n k : Nat} {q : Program} {loose : List Str} {XP : (Str → Option Value) → Heap → Prop} {YP : World → Heap → Prop} {d : DefRec} {K : Params → PySem.W.Frag} {x : Str}
    (hn : l.most = some n) (hn2 : n ≤ sizeLine) (hdf : d.params.defaults = []) (hr : Room k callerA) (hY : ∀ (w : World) (h : Heap), YP w h → (K w.params).In h)
    (F : ∀ (w : World) (mg : Str → Option Value) (fa : Addr) (h : Heap), YP w h → (K w.params).In h → h.Ns mainGlobals mg → mg d.name = some (.ref fa) →
      (∀ (y : Str) (c T : Addr), ((recsOf q).any fun e => e.name == y) = true → PySem.W.tabIn (K w.params) y = some (c, T) → (K w.params).lookup T = none → TabF (K w.params) h (c, T)) → LawG l w (K w.params) k n x mg fa h) :
    PySem.W.WalkO q loose XP YP l.row.toRowW d [] (fun f vs => PySem.call f vs) := by
  refine Att.attach_callB hn hdf fun w s₀ s₁ mg mb fa o pm cd doc a vs ns G Y ho hd hcd hmg hobj hints hlen hbits hg => ?_
  have KX := hY w _ Y
  obtain ⟨fd, cs, sp, ts, hb, hsp, hF⟩ := F w mg fa _ Y KX G.T.g hmg fun y c T hrec hT hN => by
    obtain ⟨e, he⟩ := Option.isSome_iff_exists.mp (show ((recsOf q).find? fun e => e.name == y).isSome = true by rw [List.find?_isSome]; obtain ⟨e, h1, h2⟩ := List.any_eq_true.mp hrec; exact ⟨e, h1, h2⟩)
    obtain ⟨h1, h2⟩ := PySem.W.tab_of G.T KX he hT
    exact ⟨h2, hN, h1⟩
  obtain ⟨H, B⟩ := begins (P := l.prog) (w := w) KX ts hobj hints (Nat.le_trans hlen hn2)
  exact from_begin B KX G.T.g G.T.b G.T.builtins G.T.nolimit hg ts G.T.bmain hobj hr hF hb (hsp H a ns hlen hbits B.tbl B.seq)
end My
/-! What the top has written, by name. -/
namespace My
open PySem PySem.Spec PyProof.Rows L2
/-- the module has the def -/
structure Has (K : PySem.W.Frag) (mg : Str → Option Value) (x : Str) (st : Stmt) : Prop where
  ex : ∃ f fd, mg x = some (.ref f) ∧ Fun K x x st f fd
/-- a def that makes functions, its code object at c -/
structure HasC (K : PySem.W.Frag) (mg : Str → Option Value) (x : Str) (st : Stmt) (c : Addr) : Prop where
  ex : ∃ (f : Addr) (oc : Value) (od : Option Addr) (kV doc pm : Value) (an : Option Addr) (ct : Value) (osl : Array (Option Value)), mg x = some (.ref f) ∧
    K.lookup f = some ⟨oc, od, .func (PySem.W.fnOf x x (defArgs st) (defBody st) (defScope st) .none kV doc pm an (.ref c) ct), osl⟩ ∧ PySem.W.codeIn K (.ref c) x = true ∧ PySem.W.keepIn K (.ref f) = true
/-- the class has the method -/
structure HasM (K : PySem.W.Frag) (C : Addr) (m qual : Str) (st : Stmt) : Prop where
  ex : ∃ f fd, PySem.W.findIn K (.ref C) m = some (some (.ref f)) ∧ PySem.W.isFn K (.ref f) = true ∧ Fun K m qual st f fd
/-- the class has the method, with defaults -/
structure HasD (K : PySem.W.Frag) (C : Addr) (m qual : Str) (st : Stmt) (dvs : List V) (kws : List (Str × V)) : Prop where
  ex : ∃ f fd, PySem.W.findIn K (.ref C) m = some (some (.ref f)) ∧ PySem.W.isFn K (.ref f) = true ∧ FunD K m qual (defArgs st) (defBody st) (defScope st) dvs kws f fd
section
variable {P : Program} {w : World} {K : PySem.W.Frag} {mg : Str → Option Value} {base : Heap} {CX : CXT} {k : Nat} {x m qual : Str} {st : Stmt} {ps ks : List Str} {sp : Sp} {C c : Addr}
def BindW (x qual : Str) (st : Stmt) (ps : List Str) : Prop := ∀ (kV doc pm : Value) (an : Option Addr) (cdv ct : Value) (us : List Value), us.length = ps.length → bindArgs (PySem.W.fnOf x qual (defArgs st) (defBody st) (defScope st) .none kV doc pm an cdv ct) ⟨us, []⟩ = pure (ps.zip us)
theorem def_at (A : Has K mg x st) (ok : ∀ f fd, Fun K x x st f fd → FnOk P w K mg base CX k f fd ps sp) (b : BindW x x st ps) : DefAt P w K mg base CX k x ps sp := by
  obtain ⟨f, fd, h1, F⟩ := A.ex
  exact ⟨f, fd, ok f fd F, h1, F.kp, F.binds b⟩
theorem def_atG (A : Has K mg x st) (ok : ∀ f fd, Fun K x x st f fd → FnG P w K mg base CX k f fd ps sp) (b : BindW x x st ps) : DefG P w K mg base CX k x ps sp := by
  obtain ⟨f, fd, h1, F⟩ := A.ex
  exact ⟨f, fd, ok f fd F, h1, F.kp, F.binds b⟩
theorem meth_at (A : HasM K C m qual st) (ok : ∀ f fd, Fun K m qual st f fd → FnOk P w K mg base CX k f fd ps sp) (b : BindW m qual st ps) : MethAt P w K mg base CX k C m ps sp := by
  obtain ⟨f, fd, h1, h2, F⟩ := A.ex
  exact ⟨f, fd, ⟨h1, h2, F.kp⟩, ok f fd F, F.binds b⟩
theorem call_at (A : HasM K C "__call__" qual st) (ok : ∀ f fd, Fun K "__call__" qual st f fd → FnOk P w K mg base CX k f fd ps sp) (b : BindW "__call__" qual st ps) : CallAt P w K mg base CX k C ps sp := by
  obtain ⟨f, fd, h1, h2, F⟩ := A.ex
  obtain ⟨oc, od, kV, doc, pm, an, cdv, ct, osl, e, lk, _⟩ := F.ex
  refine ⟨f, fd, ⟨h1, h2, ?_⟩, ok f fd F, F.binds b⟩
  unfold PySem.W.fnIn
  rw [lk]
theorem cmp_at (A : HasM K C m qual st) (ok : ∀ f fd, Fun K m qual st f fd → FnOk P w K mg base CX k f fd ps sp) (b : BindW m qual st ps) : CmpAt P w K mg base CX k C m ps sp := by
  obtain ⟨f, fd, h1, h2, F⟩ := A.ex
  exact ⟨f, fd, h1, h2, ok f fd F, F.binds b⟩
/-- called with keywords alone -/
theorem methK_at {gV : List V → List V → List V} {g : List Value → List Value → List Value} (A : HasM K C m qual st) (ok : ∀ f fd, Fun K m qual st f fd → FnOk P w K mg base CX k f fd ps sp)
    (b : ∀ (kV doc pm : Value) (an : Option Addr) (cdv ct : Value) (us ws : List Value), us.length = 1 → ws.length = ks.length → bindArgs (PySem.W.fnOf m qual (defArgs st) (defBody st) (defScope st) .none kV doc pm an cdv ct) ⟨us, ks.zip ws⟩ = pure (ps.zip (g us ws)))
    (r : ∀ {vs : List V} {us : List Value} {zs : List V} {ws : List Value}, Vals vs us → Vals zs ws → Vals (gV vs zs) (g us ws)) : MethK P w K mg base CX k C m ps ks sp gV := by
  obtain ⟨f, fd, h1, h2, F⟩ := A.ex
  obtain ⟨oc, od, kV, doc, pm, an, cdv, ct, osl, rfl, lk, hcd⟩ := id F.ex
  exact ⟨f, _, g, ⟨h1, h2, F.kp⟩, ok f _ F, ⟨fun s us ws _ l1 l2 => .of_eq (b kV doc pm an cdv ct us ws l1 l2), r⟩⟩
/-- the class is made with all its arguments -/
theorem make_all {dvs : List V} (A : HasD K C "__init__" qual st dvs []) (hx : mg x = some (.ref C)) (mk : PySem.W.makesIn K C = true) (kp : PySem.W.keepIn K (.ref C) = true) (ok : ∀ f fd, FunD K "__init__" qual (defArgs st) (defBody st) (defScope st) dvs [] f fd → FnOk P w K mg base CX k f fd ps sp) (hd : dvs ≠ [])
    (b : ∀ (T : Addr) (kV doc pm : Value) (an : Option Addr) (cdv ct : Value) (us its : List Value), us.length = ps.length → its.length = dvs.length →
      ∃ k, bindArgs (PySem.W.fnOf "__init__" qual (defArgs st) (defBody st) (defScope st) (.ref T) kV doc pm an cdv ct) ⟨us, []⟩ = seqItems? (.ref T) >>= k ∧ k (some its.toArray) = pure (ps.zip (us ++ its.drop dvs.length))) : MakeAt P w K mg base CX k x C ps sp [] := by
  obtain ⟨f, fd, h1, h2, F⟩ := A.ex
  obtain ⟨ds, r, bs⟩ := F.binds1 ps.length dvs.length hd (by omega) b
  rw [List.drop_length] at r
  exact ⟨f, fd, ds, ⟨mk, h1, h2, kp⟩, ok f fd F, hx, bs, r⟩
end
end My
/-! Ints beside instances: the int's own slots decline. -/
namespace My
open PySem PySem.Spec PyProof.Rows
def Plain (h : Heap) (l : Addr) : Prop := ∃ (c : Value) (d : Option Addr) (sl : Array (Option Value)), h.get? l = some { cls := c, dict := d, data := .plain, slots := sl }
def Declines (B : Builtin) (a : Int) (t : Tok) (l : Addr) : Prop := Meets (B ⟨[.int a t, .ref l], []⟩) fun _ R s => Plain s.heap l ∧ R (.ok (.ret Value.notImplemented)) s
theorem dec_add (a : Int) (t : Tok) (l : Addr) : Declines Builtin.«int.__add__» a t l :=
  .of_wp fun prog w A R s h => by obtain ⟨hp, g, d, tk, os⟩ := s; obtain ⟨⟨c, dd, sl, hl⟩, h⟩ := h; wp_walk; exact ⟨_, rfl, h⟩
theorem dec_sub (a : Int) (t : Tok) (l : Addr) : Declines Builtin.«int.__sub__» a t l :=
  .of_wp fun prog w A R s h => by obtain ⟨hp, g, d, tk, os⟩ := s; obtain ⟨⟨c, dd, sl, hl⟩, h⟩ := h; wp_walk; exact ⟨_, rfl, h⟩
theorem dec_mul (a : Int) (t : Tok) (l : Addr) : Declines Builtin.«int.__mul__» a t l :=
  .of_wp fun prog w A R s h => by obtain ⟨hp, g, d, tk, os⟩ := s; obtain ⟨⟨c, dd, sl, hl⟩, h⟩ := h; wp_walk; exact ⟨_, rfl, h⟩
theorem dec_floordiv (a : Int) (t : Tok) (l : Addr) : Declines Builtin.«int.__floordiv__» a t l :=
  .of_wp fun prog w A R s h => by obtain ⟨hp, g, d, tk, os⟩ := s; obtain ⟨⟨c, dd, sl, hl⟩, h⟩ := h; wp_walk; exact ⟨_, rfl, h⟩
theorem dec_mod (a : Int) (t : Tok) (l : Addr) : Declines Builtin.«int.__mod__» a t l :=
  .of_wp fun prog w A R s h => by obtain ⟨hp, g, d, tk, os⟩ := s; obtain ⟨⟨c, dd, sl, hl⟩, h⟩ := h; wp_walk; exact ⟨_, rfl, h⟩
theorem dec_lt (a : Int) (t : Tok) (l : Addr) : Declines Builtin.«int.__lt__» a t l :=
  .of_wp fun prog w A R s h => by obtain ⟨hp, g, d, tk, os⟩ := s; obtain ⟨⟨c, dd, sl, hl⟩, h⟩ := h; wp_walk; exact ⟨_, rfl, h⟩
theorem dec_le (a : Int) (t : Tok) (l : Addr) : Declines Builtin.«int.__le__» a t l :=
  .of_wp fun prog w A R s h => by obtain ⟨hp, g, d, tk, os⟩ := s; obtain ⟨⟨c, dd, sl, hl⟩, h⟩ := h; wp_walk; exact ⟨_, rfl, h⟩
theorem dec_gt (a : Int) (t : Tok) (l : Addr) : Declines Builtin.«int.__gt__» a t l :=
  .of_wp fun prog w A R s h => by obtain ⟨hp, g, d, tk, os⟩ := s; obtain ⟨⟨c, dd, sl, hl⟩, h⟩ := h; wp_walk; exact ⟨_, rfl, h⟩
theorem dec_ge (a : Int) (t : Tok) (l : Addr) : Declines Builtin.«int.__ge__» a t l :=
  .of_wp fun prog w A R s h => by obtain ⟨hp, g, d, tk, os⟩ := s; obtain ⟨⟨c, dd, sl, hl⟩, h⟩ := h; wp_walk; exact ⟨_, rfl, h⟩
theorem dec_eq (a : Int) (t : Tok) (l : Addr) : Declines Builtin.«int.__eq__» a t l :=
  .of_wp fun prog w A R s h => by obtain ⟨hp, g, d, tk, os⟩ := s; obtain ⟨⟨c, dd, sl, hl⟩, h⟩ := h; wp_walk; exact ⟨_, rfl, h⟩
end My
/-! Own operators: an instance beside an instance, beside an int, an int beside it, in place, the sign. -/
namespace My
open PySem PySem.Spec PySem.Calls PyProof.Rows L2
section
open PySem.W
variable {prog : Program} {w : World} {A : Around} {E : Value → Shared → Prop} {s : Shared} {K : Frag} {x C L f f0 : Addr} {h₀ : Heap} {m : Str → Option Value} {ox : Obj} {od : Option Obj}
/-- what is known of the int's slot -/
structure IntSlot (K : Frag) (nm : String) (id : String) (B : Builtin) : Prop where
  slot : Slot "int" (PySem.dunder nm) id
  entry : entryFor table id = some B
  args : ∀ a b : Value, argsOk id ⟨[a, b], []⟩
  dec : ∀ a t l, Declines B a t l
theorem int_plain (i : Int) (t : Tok) (s : Shared) : s.TypeIs (.int i t) "int" := by
  first | exact .int | exact trivial | rfl | exact ⟨_, rfl⟩
theorem int_call {i : Int} {t : Tok} {nm id : String} {B : Builtin} {Q : Value → Shared → Prop} (S : IntSlot K nm id B) (hp : Plain s.heap x) (h : Q .notImplemented s) : wpAny (model prog w) A (call (.builtin id) [.int i t, .ref x]) Q E s :=
  call_meets S.slot (int_plain i t s) S.entry (S.args _ _) (S.dec i t x) ⟨hp, h⟩
/-- an int beside an instance: the reflected method -/
theorem binR_K {op : Operator} {i : Int} {t : Tok} {id : String} {B : Builtin} {fo ro : Option Value} {Q : Value → Shared → Prop} (S : IntSlot K op.info.2 id B) (F : Fr h₀ L s.heap m) (X₀ : K.In h₀) (I : InstAt s.heap x ox C od) (hp : Plain s.heap x) (hc : selfFirst K C = true)
    (hs : findIn K (.ref C) (PySem.dunder op.info.2) = some (some (.ref f0))) (hr : findIn K (.ref C) (dunderR op.info.2) = some (some (.ref f))) (hf : isFn K (.ref f) = true)
    (h1 : findIn K (.type "int") (PySem.dunder op.info.2) = some fo) (h2 : findIn K (.type "int") (dunderR op.info.2) = some ro) (hl : ((fo.isSome && !isSeqSlot fo) || (ro.isSome && !isSeqSlot ro)) = true) (hsub : subIn K (.ref C) (.type "int") = some false)
    (h : wpAny (model prog w) A (call (.ref f) [.ref x, .int i t]) (PySem.W.CmpBack Q) E s) : wpAny (model prog w) A (binaryOp op (.int i t) (.ref x)) Q E s := by
  have X := X₀.keeps F.keep
  obtain ⟨cd, rest, hcd, hm⟩ := ksp_first hc
  have two := ksp_try X I hr hf h
  rcases hi : op.info with ⟨sym, nm'⟩
  rw [hi] at hs hr h1 h2 S two
  dsimp only at hs hr h1 h2 S two
  have one : wpAny (model prog w) A (tryMethod (.int i t) (PySem.dunder nm') (.ref x)) (fun r s' => r = none ∧ s' = s) E s := wpAny_tryMethod_declines (int_plain i t s) S.slot (int_call S hp ⟨rfl, rfl, rfl⟩)
  obtain ⟨hh, g, d, tt, os⟩ := s
  have L1 : Looks (model prog w) hh (typeOf (.ref x)) (.ref C) := I.type
  have L2 : Looks (model prog w) hh (typeOf (.int i t)) (.type "int") := Looks.of_pure rfl
  have L3 : Looks (model prog w) hh (fillsNumberSlot (.ref C) nm') true := fills_K X hcd hm hs
  have L4 : Looks (model prog w) hh (fillsNumberSlot (.type "int") nm') true := hl ▸ ksp_fillsT X h1 h2
  have L5 : Looks (model prog w) hh (isSubtype (.ref C) (.type "int")) false := looks_subIn X hsub
  have L7 : Looks (model prog w) hh (numberSlotInPython (.type "int") nm') false := Looks.of_pure rfl
  have hne : (Value.type "int" == Value.ref C) = false := Bool.eq_false_iff.mpr fun q => by cases beq_iff_eq.mp q
  simp only [binaryOp, hi]
  refine wpAny_holding (wpAny_bind ?_)
  unfold binaryOp1
  refine wpAny_bind (L2.at (wpAny_bind (L1.at (wpAny_bind (L4.at ?_)))))
  simp only [hne, Bool.false_eq_true, if_false]
  ksp_lk
  refine wpAny_mono one (fun r s' hr' => ?_) fun _ _ e => e
  obtain ⟨rfl, rfl⟩ := hr'
  ksp_lk
  refine wpAny_mono two (fun r s' hr' => ?_) fun _ _ e => e
  obtain ⟨v, rfl, hq⟩ := hr'
  ksp_lk
  exact hq
/-- an int compared with an instance: the reflected method -/
theorem cmpR_K {op : CmpOp} {i : Int} {t : Tok} {id : String} {B : Builtin} {Q : Value → Shared → Prop} (hu : A.units < cLine) (sl : Slot "int" (cmpInfo op).2.1 id) (en : entryFor table id = some B) (ar : ∀ a b : Value, argsOk id ⟨[a, b], []⟩) (de : ∀ a t l, Declines B a t l)
    (F : Fr h₀ L s.heap m) (X₀ : K.In h₀) (I : InstAt s.heap x ox C od) (hp : Plain s.heap x) (hs : findIn K (.ref C) (cmpInfo op).2.2 = some (some (.ref f))) (hf : isFn K (.ref f) = true) (hsub : subIn K (.ref C) (.type "int") = some false)
    (h : wpAny (model prog w) A (call (.ref f) [.ref x, .int i t]) (PySem.W.CmpBack Q) E s) (h1 : oneThing? op (.int i t) (.ref x) = none) : wpAny (model prog w) A (richCompare op (.int i t) (.ref x)) Q E s := by
  have X := X₀.keeps F.keep
  have two : wpAny (model prog w) A (tryCompare (.ref x) (cmpInfo op).2.2 (.int i t)) (fun r s' => ∃ v, r = some v ∧ Q v s') E s := by
    unfold tryCompare
    refine wpAny_bind (ifBound_K X I hs hf (wpAny_mono h (fun v s' hv => ?_) fun _ _ e => e))
    cases v <;> first | exact hv.elim | exact wpAny_pure ⟨_, rfl, hv⟩
  have one : wpAny (model prog w) A (tryCompare (.int i t) (cmpInfo op).2.1 (.ref x)) (fun r s' => r = none ∧ s' = s) E s :=
    wpAny_tryCompare_declines (int_plain i t s) sl (call_meets sl (int_plain i t s) en (ar _ _) (de i t x) ⟨hp, rfl, rfl, rfl⟩)
  have hne : (Value.type "int" != Value.ref C) = true := by
    have : (Value.type "int" == Value.ref C) = false := Bool.eq_false_iff.mpr fun q => by cases beq_iff_eq.mp q
    simp [bne, this]
  unfold richCompare
  simp only [h1]
  refine wpAny_holding (wpAny_bind (wpAny_cRoomFor hu ?_))
  refine wpAny_bind ((Looks.of_pure (show typeOf (.int i t) = pure (.type "int") from rfl)).here (wpAny_bind (I.type.here ?_)))
  simp only [hne, if_true]
  refine wpAny_bind ((looks_subIn X hsub).here ?_)
  simp only [Bool.false_eq_true, if_false, Bool.not_false, if_true]
  refine wpAny_bind (wpAny_mono one (fun r s' z => ?_) fun _ _ e => e)
  obtain ⟨rfl, rfl⟩ := z
  refine wpAny_bind (wpAny_mono two (fun r s' z => ?_) fun _ _ e => e)
  obtain ⟨v, rfl, hq⟩ := z
  exact wpAny_pure hq
end
/-! ### a method run somewhere below the body -/
structure Und (X : Cx) (n : Nat) (A : Around) : Prop where
  room : Room n A
  fr : A.frames = X.A.frames
theorem Und.here {X : Cx} {n : Nat} (hr : Room n X.A) : Und X n X.A := ⟨hr, rfl⟩
theorem Und.in1 {X : Cx} {n : Nat} {A : Around} (u : Und X (n + 1) A) : Und X n A.in1 := ⟨u.room.in1, u.fr⟩
section
variable {X : Cx} {pins : List (Addr × Obj)} {σ : L2.St} {H : Hp} {s : Shared} {CX : CXT} {k : Nat} {ps : List Str} {sp : Sp} {E : XK} {C : Addr} {m : Str}
theorem run_at {f : Addr} {fd : FuncData} {A : Around} {vs : List V} {us : List Value} {Q : VK} (F : FnOk X.prog X.w X.K X.mg X.base CX k f fd ps sp) (hb : L2.Binds X.K fd ps []) (hx : Passes CX X E) (u : Und X k A) (I : Inv X pins σ H s) (r : Vals vs us) (hsp : sp vs H Q E) :
    wpAny (model X.prog X.w) A (call (.ref f) us) (EP X pins σ Q) X.xe s := by
  have e0 : Env0 X.prog X.w X.K X.mg X.base A X.stack s H := by
    have e := I.env0
    exact ⟨by rw [u.fr]; exact e.frames, e.mod, e.bs, e.bsz, e.funs, e.frf, e.hok, e.bare⟩
  have hl : (us ++ []).length = ps.length := by rw [List.append_nil, ← r.length]; exact F.len _ _ _ _ hsp
  have bd := hb s us I.kIn hl
  rw [List.append_nil] at bd
  refine wpAny_call (codeAny_mono (F.run A X.stack s H ⟨us, []⟩ us vs _ E u.room e0 bd r hsp) fun r s' hq => ?_)
  match r, hq with
  | .error e, hq => exact hx pins σ H s e s' I hq
  | .ok (.ret z), hq => exact I.after hq
  | .ok .next, hq => exact False.elim hq
  | .ok .brk, hq => exact False.elim hq
  | .ok .cont, hq => exact False.elim hq
theorem ep_back {Q : VK} {v : Value} {s' : Shared} (h : EP X pins σ Q v s') : PySem.W.CmpBack (EP X pins σ Q) v s' := by
  cases v with
  | notImplemented =>
    obtain ⟨zv, H', I', rz, q'⟩ := h
    cases zv <;> first | (cases rz; done) | (obtain ⟨_, rz⟩ := rz; cases rz)
  | _ => exact h
theorem ins_plain {a dx : Addr} {fs : List (Str × V)} (I : Inv X pins σ H s) (ha : H a = some (.ins C dx fs)) : ∃ (ox od : Obj), PySem.W.InstAt s.heap a ox C (some od) ∧ Plain s.heap a := by
  obtain ⟨mA, J, _⟩ := ins_get I.hok ha
  have g : Plain s.heap a := ⟨_, _, _, J.1⟩
  obtain ⟨od, J, _⟩ := J.look
  exact ⟨_, od, J, g⟩
/-- a two-place method of C beside an instance of C or an int -/
structure BinF (K : PySem.W.Frag) (C : Addr) (nm : String) : Prop where
  sf : PySem.W.selfFirst K C = true
  rc : ∃ rc, PySem.W.findIn K (.ref C) (dunderR nm) = some rc ∧ (rc = none ∨ ∃ g : Addr, rc = some (.ref g))
  i1 : ∃ fo, PySem.W.findIn K (.type "int") (PySem.dunder nm) = some fo
  i2 : ∃ ro, PySem.W.findIn K (.type "int") (dunderR nm) = some ro
  su : PySem.W.subIn K (.type "int") (.ref C) = some false
def OrInt (H : Hp) (C : Addr) (y : V) : Prop := (∃ b dy gs, y = .ref b ∧ H b = some (.ins C dy gs)) ∨ ∃ j, y = .int j
def rBinO (C : Addr) (sp : Sp) (E : XK) : R2 := fun x y H Q => ∃ a dx fs, x = .ref a ∧ H a = some (.ins C dx fs) ∧ OrInt H C y ∧ sp [x, y] H Q E
theorem op_binO {op : Operator} (M : CmpAt X.prog X.w X.K X.mg X.base CX k C m ps sp) (B : BinF X.K C op.info.2) (hr : Room k X.A) (hx : Passes CX X E) (hm : PySem.dunder op.info.2 = m := by rfl) : OpR X (binaryOp op) (rBinO C sp E) := by
  intro pins s σ H x y v u Q I rx ry h
  obtain ⟨f, fd, hs, hf, F, hb⟩ := M.ex
  obtain ⟨a, dx, fs, rfl, ha, oi, hsp⟩ := h
  obtain rfl : v = Value.ref a := rx
  obtain ⟨ox, od, J, _⟩ := ins_plain I ha
  obtain ⟨m', hF⟩ := I.fr
  subst hm
  have go : wpAny (model X.prog X.w) X.A (call (.ref f) [.ref a, u]) (PySem.W.CmpBack (EP X pins σ Q)) X.xe s := wpAny_mono (run_at (vs := [.ref a, y]) F hb hx (Und.here hr) I (.cons rfl (.cons ry .nil)) hsp) (fun _ _ z => ep_back z) fun _ _ z => z
  rcases oi with ⟨b, dy, gs, rfl, hb'⟩ | ⟨j, rfl⟩
  · obtain rfl : u = Value.ref b := ry
    obtain ⟨oy, od', J', _⟩ := ins_plain I hb'
    exact PySem.W.binop_K hF I.ok.mod.kin J J'.type B.sf hs hf go
  · obtain ⟨t, rfl⟩ := ry
    obtain ⟨rc, r1, r2⟩ := B.rc
    obtain ⟨fo, i1⟩ := B.i1
    obtain ⟨ro, i2⟩ := B.i2
    exact PySem.W.ksp_binT hF I.ok.mod.kin J rfl B.sf hs hf r1 r2 i1 i2 B.su go
/-- an int beside an instance: the reflected method -/
structure RefF (K : PySem.W.Frag) (C : Addr) (nm : String) : Prop where
  sf : PySem.W.selfFirst K C = true
  f0 : ∃ f : Addr, PySem.W.findIn K (.ref C) (PySem.dunder nm) = some (some (.ref f))
  ii : ∃ fo ro, PySem.W.findIn K (.type "int") (PySem.dunder nm) = some fo ∧ PySem.W.findIn K (.type "int") (dunderR nm) = some ro ∧ ((fo.isSome && !isSeqSlot fo) || (ro.isSome && !isSeqSlot ro)) = true
  su : PySem.W.subIn K (.ref C) (.type "int") = some false
def rBinR (C : Addr) (sp : Sp) (E : XK) : R2 := fun x y H Q => ∃ i b dy gs, x = .int i ∧ y = .ref b ∧ H b = some (.ins C dy gs) ∧ sp [y, x] H Q E
theorem op_binR {op : Operator} {id : String} {Bu : Builtin} (M : CmpAt X.prog X.w X.K X.mg X.base CX k C m ps sp) (S : IntSlot X.K op.info.2 id Bu) (B : RefF X.K C op.info.2) (hr : Room k X.A) (hx : Passes CX X E) (hm : dunderR op.info.2 = m := by rfl) : OpR X (binaryOp op) (rBinR C sp E) := by
  intro pins s σ H x y v u Q I rx ry h
  obtain ⟨f, fd, hs, hf, F, hb⟩ := M.ex
  obtain ⟨i, b, dy, gs, rfl, rfl, hb', hsp⟩ := h
  obtain rfl : u = Value.ref b := ry
  obtain ⟨t, rfl⟩ := rx
  obtain ⟨ox, od, J, pl⟩ := ins_plain I hb'
  obtain ⟨m', hF⟩ := I.fr
  subst hm
  obtain ⟨f0, h0⟩ := B.f0
  obtain ⟨fo, ro, i1, i2, i3⟩ := B.ii
  exact binR_K S hF I.ok.mod.kin J pl B.sf h0 hs hf i1 i2 i3 B.su (wpAny_mono (run_at (vs := [.ref b, .int i]) F hb hx (Und.here hr) I (.cons rfl (.cons ⟨t, rfl⟩ .nil)) hsp) (fun _ _ z => ep_back z) fun _ _ z => z)
theorem is_add {K : PySem.W.Frag} : IntSlot K (Operator.info .Add).2 "int.__add__" Builtin.«int.__add__» := ⟨PySem.F.slot_int_add, PySem.F.entry_int_add, PySem.F.args_int_add_2, dec_add⟩
theorem is_sub {K : PySem.W.Frag} : IntSlot K (Operator.info .Sub).2 "int.__sub__" Builtin.«int.__sub__» := ⟨PySem.F.slot_int_sub, PySem.F.entry_int_sub, PySem.F.args_int_sub_2, dec_sub⟩
theorem is_mul {K : PySem.W.Frag} : IntSlot K (Operator.info .Mult).2 "int.__mul__" Builtin.«int.__mul__» := ⟨PySem.F.slot_int_mul, PySem.F.entry_int_mul, PySem.F.args_int_mul_2, dec_mul⟩
/-- an int compared with an instance -/
def rCmpR (C : Addr) (sp : Sp) (E : XK) : R2 := fun x y H Q => ∃ i b dy gs, x = .int i ∧ y = .ref b ∧ H b = some (.ins C dy gs) ∧ sp [y, x] H Q E
theorem op_cmpRv {op : CmpOp} {id : String} {Bu : Builtin} (M : CmpAt X.prog X.w X.K X.mg X.base CX k C m ps sp) (su : PySem.W.subIn X.K (.ref C) (.type "int") = some false) (hr : Room k X.A) (hx : Passes CX X E) (hm : (cmpInfo op).2.2 = m) (hco : ∀ v u, compareOp op v u = richCompare op v u)
    (h1 : ∀ i t b, oneThing? op (.int i t) (.ref b) = none) (sl : Slot "int" (cmpInfo op).2.1 id) (en : entryFor table id = some Bu) (ar : ∀ a b : Value, argsOk id ⟨[a, b], []⟩) (de : ∀ a t l, Declines Bu a t l) : OpR X (compareOp op) (rCmpR C sp E) := by
  intro pins s σ H x y v u Q I rx ry h
  obtain ⟨f, fd, hs, hf, F, hb⟩ := M.ex
  obtain ⟨i, b, dy, gs, rfl, rfl, hb', hsp⟩ := h
  obtain rfl : u = Value.ref b := ry
  obtain ⟨t, rfl⟩ := rx
  obtain ⟨ox, od, J, pl⟩ := ins_plain I hb'
  obtain ⟨m', hF⟩ := I.fr
  subst hm
  rw [hco]
  exact cmpR_K hr.units0 sl en ar de hF I.ok.mod.kin J pl hs hf su (wpAny_mono (run_at (vs := [.ref b, .int i]) F hb hx (Und.here hr) I (.cons rfl (.cons ⟨t, rfl⟩ .nil)) hsp) (fun _ _ z => ep_back z) fun _ _ z => z) (h1 i t b)
theorem op_ltR (M : CmpAt X.prog X.w X.K X.mg X.base CX k C "__gt__" ps sp) (su : PySem.W.subIn X.K (.ref C) (.type "int") = some false) (hr : Room k X.A) (hx : Passes CX X E) : OpR X (compareOp .Lt) (rCmpR C sp E) := op_cmpRv M su hr hx rfl (fun _ _ => rfl) (fun _ _ _ => rfl) PySem.F.slot_int_lt PySem.F.entry_int_lt PySem.F.args_int_lt_2 dec_lt
theorem op_leR (M : CmpAt X.prog X.w X.K X.mg X.base CX k C "__ge__" ps sp) (su : PySem.W.subIn X.K (.ref C) (.type "int") = some false) (hr : Room k X.A) (hx : Passes CX X E) : OpR X (compareOp .LtE) (rCmpR C sp E) := op_cmpRv M su hr hx rfl (fun _ _ => rfl) (fun _ _ _ => rfl) PySem.F.slot_int_le PySem.F.entry_int_le PySem.F.args_int_le_2 dec_le
theorem op_gtR (M : CmpAt X.prog X.w X.K X.mg X.base CX k C "__lt__" ps sp) (su : PySem.W.subIn X.K (.ref C) (.type "int") = some false) (hr : Room k X.A) (hx : Passes CX X E) : OpR X (compareOp .Gt) (rCmpR C sp E) := op_cmpRv M su hr hx rfl (fun _ _ => rfl) (fun _ _ _ => rfl) PySem.F.slot_int_gt PySem.F.entry_int_gt PySem.F.args_int_gt_2 dec_gt
theorem op_geR (M : CmpAt X.prog X.w X.K X.mg X.base CX k C "__le__" ps sp) (su : PySem.W.subIn X.K (.ref C) (.type "int") = some false) (hr : Room k X.A) (hx : Passes CX X E) : OpR X (compareOp .GtE) (rCmpR C sp E) := op_cmpRv M su hr hx rfl (fun _ _ => rfl) (fun _ _ _ => rfl) PySem.F.slot_int_ge PySem.F.entry_int_ge PySem.F.args_int_ge_2 dec_ge
/-- - of an instance -/
def rNegO (C : Addr) (sp : Sp) (E : XK) : V → Hp → VK → Prop := fun x H Q => ∃ a dx fs, x = .ref a ∧ H a = some (.ins C dx fs) ∧ sp [x] H Q E
theorem un_negO (M : CmpAt X.prog X.w X.K X.mg X.base CX k C "__neg__" ps sp) (hr : Room k X.A) (hx : Passes CX X E) : UnR X (unaryOp .USub) (rNegO C sp E) := by
  intro pins s σ H x v Q I rx h
  obtain ⟨f, fd, hs, hf, F, hb⟩ := M.ex
  obtain ⟨a, dx, fs, rfl, ha, hsp⟩ := h
  obtain rfl : v = Value.ref a := rx
  obtain ⟨ox, od, J, _⟩ := ins_plain I ha
  obtain ⟨m', hF⟩ := I.fr
  exact PySem.W.ksp_neg hF I.ok.mod.kin J hs hf (run_at (vs := [.ref a]) F hb hx (Und.here hr) I (.cons rfl .nil) hsp)
/-- str(x) of an instance with its own __str__ -/
def rStrO (C : Addr) (sp : Sp) (E : XK) : List V → Hp → VK → Prop := fun xs H Q => ∃ a dx fs, xs = [.ref a] ∧ H a = some (.ins C dx fs) ∧ sp [.ref a] H (fun v H' => ∃ x, v = .str x ∧ Q v H') E
theorem call_strO (M : CmpAt X.prog X.w X.K X.mg X.base CX k C "__str__" ps sp) (hr : Room (k + 2) X.A) (hx : Passes CX X E) : CallR X (.type "str") (rStrO C sp E) := by
  intro pins s σ H xs us Q I r h
  obtain ⟨f, fd, hs, hf, F, hb⟩ := M.ex
  obtain ⟨a, dx, fs, rfl, ha, hsp⟩ := h
  obtain ⟨u, rfl, r1⟩ := vals1 r
  obtain rfl : u = Value.ref a := r1
  obtain ⟨ox, od, J, _⟩ := ins_plain I ha
  have U : Und X k X.A.in1.in1 := (Und.here hr).in1.in1
  refine PySem.W.kso_call U.room.units0 (I.kIn) J hs hf (wpAny_mono (run_at (vs := [.ref a]) F hb hx U I (.cons rfl .nil) hsp) (fun v s' z => ?_) fun _ _ z => z)
  obtain ⟨z, H', I', rz, x, rfl, q⟩ := z
  obtain ⟨t, rfl⟩ := rz
  exact ⟨.str x, H', I', ⟨t, rfl⟩, q⟩
end
end My
/-! != by an own ==. -/
namespace My
open PySem PySem.Spec PySem.Calls PyProof.Rows L2
theorem slot_one : Slot "object" "__ne__" "object.__ne__" :=
  .of (owner := "object") (n := "__ne__") (by rw [typeLookup_type, builtinLookup_eq_fast]; kernel_rfl) (by decide +kernel) (by decide +kernel) (by decide +kernel) (.inl (by decide +kernel)) (by rw [isSubtype_type]; kernel_rfl)
section
open PySem.W
variable {prog : Program} {w : World} {A : Around} {E : Value → Shared → Prop} {s : Shared} {K : Frag} {x C L f : Addr} {h₀ : Heap} {m : Str → Option Value} {ox : Obj} {od : Option Obj} {b tb : Value}
/-- what an own == hands back, turned about -/
def NotBack (Q : Value → Shared → Prop) (v : Value) (s' : Shared) : Prop := ∃ c, v = .bool c ∧ Q (.bool (!c)) s'
theorem one_call {Q : Value → Shared → Prop} (hu : A.in1.units < cLine) (X : K.In s.heap) (I : InstAt s.heap x ox C od) (hm : mroIn K C (.type "object") = some true) (hs : findIn K (.ref C) "__eq__" = some (some (.ref f))) (hf : isFn K (.ref f) = true)
    (h : wpAny (model prog w) A.in1 (call (.ref f) [.ref x, b]) (NotBack Q) E s) : wpAny (model prog w) A (call (.builtin "object.__ne__") [.ref x, b]) Q E s := by
  refine wpAny_call (codeAny_call_builtin slot_one.plain PySem.F.cmpEntry_ne (check_slot (i := "object.__ne__") (owner := "object") (n := "__ne__") PySem.F.cmpKind_ne PySem.F.cmpSplit_ne (I.type.andThen (looks_mroIn X hm)) (PySem.F.cmpArgs_ne _ _) ?_))
  unfold Builtin.«object.__ne__»
  refine wpAny_bind (m := slotArgs "__ne__" 1 _) (wpAny_pure ?_)
  refine wpAny_bind (m := cRoomFor _ _) (wpAny_cRoomFor hu ?_)
  refine wpAny_bind (m := callSpecialIfBound? (.ref x) (Str.ofString "__eq__") _) (ifBound_K X I hs hf (wpAny_mono h (fun r s' hq => ?_) fun _ _ y => y))
  obtain ⟨c, rfl, hq⟩ := hq
  refine wpAny_bind (m := truthy (.bool c)) (wpAny_truthy_bool ?_)
  exact wpAny_pure hq
theorem ne_K {Q : Value → Shared → Prop} (hu : A.units < cLine) (hu1 : A.in1.units < cLine) (F : Fr h₀ L s.heap m) (X₀ : K.In h₀) (I : InstAt s.heap x ox C od) (hb : Looks (model prog w) s.heap (typeOf b) tb) (hn : notFirst K C tb = true)
    (hm : mroIn K C (.type "object") = some true) (h1 : findIn K (.ref C) "__ne__" = some (some (.builtin "object.__ne__"))) (hs : findIn K (.ref C) "__eq__" = some (some (.ref f))) (hf : isFn K (.ref f) = true)
    (h : wpAny (model prog w) A.in1 (call (.ref f) [.ref x, b]) (NotBack Q) E s) : wpAny (model prog w) A (richCompare .NotEq (.ref x) b) Q E s := by
  have X := X₀.keeps F.keep
  have one : wpAny (model prog w) A (tryCompare (.ref x) "__ne__" b) (fun r s' => ∃ v, r = some v ∧ Q v s') E s := by
    unfold tryCompare
    refine wpAny_bind ?_
    simp only [callSpecialIfBound?, bindSpecialIfBound?]
    refine wpAny_holding (wpAny_bind (wpAny_bind (wpAny_bind (I.type.here ((looks_findIn X h1).here ?_)))))
    refine wpAny_bind (wpAny_askSetting (wpAny_ite ?_))
    have fin : wpAny (model prog w) A (call (.builtin "object.__ne__") ([.ref x] ++ [b]) >>= fun v => pure (some v)) (fun r s' => wpAny (model prog w) A (match r with | some .notImplemented | none => pure none | some v => pure (some v)) (fun r s' => ∃ v, r = some v ∧ Q v s') E s') E s := by
      refine wpAny_bind (one_call hu1 X I hm hs hf (wpAny_mono h (fun v s' z => ?_) fun _ _ z => z))
      obtain ⟨c, rfl, hq⟩ := z
      exact ⟨c, rfl, wpAny_pure (wpAny_pure ⟨_, rfl, hq⟩)⟩
    split
    · exact wpAny_bind ((Looks.of_pure (slot_one.bind (.ref x))).here (wpAny_pure (by exact fin)))
    · exact wpAny_tryCatch (wpAny_bind ((Looks.of_pure (slot_one.bind (.ref x))).here (wpAny_pure (by exact fin))))
  unfold richCompare
  simp only [oneThing_ref]
  refine wpAny_holding (wpAny_bind (wpAny_cRoomFor hu ?_))
  refine wpAny_bind (I.type.here (wpAny_bind (hb.here ?_)))
  split
  · rename_i q
    have e : subIn K tb (.ref C) = some false := by
      rcases Bool.or_eq_true_iff.mp hn with e | e
      · rw [beq_iff_eq.mp e] at q; simp at q
      · exact beq_iff_eq.mp e
    refine wpAny_bind ((looks_subIn X e).here ?_)
    simp only [Bool.false_eq_true, if_false]
    refine wpAny_bind (wpAny_mono one (fun r s' z => ?_) fun _ _ e => e)
    obtain ⟨v, rfl, hq⟩ := z
    exact wpAny_pure hq
  · refine wpAny_bind (wpAny_pure ?_)
    simp only [Bool.false_eq_true, if_false]
    refine wpAny_bind (wpAny_mono one (fun r s' z => ?_) fun _ _ e => e)
    obtain ⟨v, rfl, hq⟩ := z
    exact wpAny_pure hq
end
section
variable {X : Cx} {CX : CXT} {k : Nat} {ps : List Str} {sp : Sp} {E : XK} {C : Addr}
def rNeO (K : PySem.W.Frag) (C : Addr) (sp : Sp) (E : XK) : R2 := fun x y H Q => ∃ a dx fs t, x = .ref a ∧ H a = some (.ins C dx fs) ∧ TyX K H y t ∧ PySem.W.notFirst K C t = true ∧ sp [.ref a, y] H (fun v H' => ∃ b, v = .bl b ∧ Q (.bl (!b)) H') E
theorem op_neO (M : CmpAt X.prog X.w X.K X.mg X.base CX k C "__eq__" ps sp) (hm : PySem.W.mroIn X.K C (.type "object") = some true) (h1 : PySem.W.findIn X.K (.ref C) "__ne__" = some (some (.builtin "object.__ne__"))) (hr : Room (k + 1) X.A) (hx : Passes CX X E) : OpR X (compareOp .NotEq) (rNeO X.K C sp E) := by
  intro pins s σ H x y v u Q I rx ry h
  obtain ⟨f, fd, hs, hf, F, hb⟩ := M.ex
  obtain ⟨a, dx, fs, t, rfl, ha, ty, hn, hsp⟩ := h
  obtain rfl : v = Value.ref a := rx
  obtain ⟨ox, od, J, _⟩ := ins_plain I ha
  obtain ⟨m', hF⟩ := I.fr
  obtain ⟨Pz, Z, pz, _⟩ := kit_of I ry ty
  have U : Und X k X.A.in1 := (Und.here hr).in1
  refine ne_K hr.units0 U.room.units0 hF I.ok.mod.kin J (Z.ty _ _ I.kIn pz) hn hm h1 hs hf (wpAny_mono (run_at (vs := [.ref a, y]) F hb hx U I (.cons rfl (.cons ry .nil)) hsp) (fun v s' z => ?_) fun _ _ z => z)
  obtain ⟨z, H', I', rz, b, rfl, q⟩ := z
  obtain rfl : v = Value.bool b := rz
  exact ⟨b, rfl, .bl (!b), H', I', rfl, q⟩
end
end My
/-! Static methods by the class's name; ints divided by ints of any sign; lists beside the empty one. -/
namespace My
open PySem PySem.Spec PySem.Calls PyProof.Rows L2
/-- C.m is a staticmethod with the def at f -/
structure Stat (K : PySem.W.Frag) (C : Addr) (m : Str) (f : Addr) : Prop where
  ga : PySem.W.specialIn K (.ref C) "__getattribute__" = some (some (.builtin "type.__getattribute__"))
  rc : ∃ (mc : Value) (p : Addr) (rest : List Value), PySem.W.readsIn K C mc = true ∧ PySem.W.findCls K (.ref C) mc m = some (.get (.builtin "staticmethod.__get__") (.ref p) .none (.ref C)) ∧ PySem.W.recIn K p "staticmethod" = some (.ref f :: rest)
  kp : PySem.W.keepIn K (.ref f) = true
structure StatAt (P : Program) (w : World) (K : PySem.W.Frag) (mg : Str → Option Value) (base : Heap) (CX : CXT) (k : Nat) (C : Addr) (m : Str) (ps : List Str) (sp : Sp) : Prop where
  ex : ∃ f fd, Stat K C m f ∧ FnOk P w K mg base CX k f fd ps sp ∧ L2.Binds K fd ps []
structure StatK (P : Program) (w : World) (K : PySem.W.Frag) (mg : Str → Option Value) (base : Heap) (CX : CXT) (k : Nat) (C : Addr) (m : Str) (ps ks : List Str) (sp : Sp) (gV : List V → List V → List V) : Prop where
  ex : ∃ f fd g, Stat K C m f ∧ FnOk P w K mg base CX k f fd ps sp ∧ KBn K fd ps 0 ks g gV
section
variable {X : Cx} {CX : CXT} {k : Nat} {C : Addr} {ps ks : List Str} {sp : Sp} {E : XK} {m : Str} {e o : Expr} {es : List Expr} {kws : List Keyword} {t tk : TA} {ta : TE} {pos apos : Pos} {gV : List V → List V → List V}
theorem getstat_ok {pins : List (Addr × Obj)} {σ : L2.St} {H : Hp} {s : Shared} {f : Addr} {pl : Sem Bool} {A : Around} {Er : Value → Shared → Prop} {Q : Value × List Value → Shared → Prop} (I : Inv X pins σ H s) (c : Stat X.K C m f) (h : ∀ s', Inv X pins σ H s' → Q (.ref f, []) s') : wpAny (model X.prog X.w) A (getMethod (.ref C) m pl) Q Er s := by
  obtain ⟨mc, p, rest, h1, h2, h3⟩ := c.rc
  refine PySem.W.method_cls I.kIn c.ga (PySem.W.cls_bind I.kIn h1 h2 ?_)
  exact wpAny_call (PySem.W.sm_get (s := { s with toks := s.toks + 1 }) I.kIn h3 (PySem.W.handed_on rfl (h _ (I.tok _))))
def tStat (C : Addr) (sp : Sp) (E : XK) (ta : TE) (t : TA) : TE := fun σ H Q => ta σ H fun x H1 => x = .ref C ∧ t σ H1 fun vs H2 => sp vs H2 Q E
theorem pe_st {pl : Sem Bool} (M : StatAt X.prog X.w X.K X.mg X.base CX k C m ps sp) (hr : Room k X.A) (hx : Passes CX X E) (he : PE X o ta) (ha : PA X (e :: es) t)
    (hst : starEach (e :: es) X.env = (false, eval e X.env) :: starEach es X.env := by rfl) (hpl : (backTo pos (starEach es X.env)).any (·.1) = false := by rfl)
    (ht : eval (.Call (.Attribute o m apos) (e :: es) [] pos) X.env = (do
      let ov ← eval o X.env
      standAt apos.atName
      let (f, first) ← holding [ov] (getMethod ov m pl)
      callWith pos f first (backTo pos (starEach (e :: es) X.env)) (backToKw pos (keywordEach [] X.env))) := by rfl) :
    PE X (.Call (.Attribute o m apos) (e :: es) [] pos) (tStat C sp E ta t) := by
  obtain ⟨f, fd, c, F, b⟩ := M.ex
  refine ⟨fun pins s σ H Q I h => ?_⟩
  refine PySem.W.methodCall_KW (pl := pl) (thn (he.run pins s σ H _ I h) fun u s1 ⟨x, H1, I1, rx, ex, q⟩ => ?_) ht
  subst ex
  obtain rfl : u = Value.ref C := rx
  refine getstat_ok I1 c fun s1 I1 => ?_
  refine PySem.W.callWith_K (first := []) (h₀ := X.base) I.ok.mod.kin c.kp (thn (ha.run pos pins s1 σ H1 _ I1 q) fun us s2 ⟨vs, H2, I2, r, q2⟩ => ⟨I2.kIn, ?_⟩) hst hpl
  exact run_fn (us := us) (vs := vs) F hr b .nil hx I2 r (by rw [List.append_nil]; exact q2)
def tStatK (C : Addr) (j : Nat) (sp : Sp) (gV : List V → List V → List V) (E : XK) (ta : TE) (tk : TA) : TE := fun σ H Q => ta σ H fun x H1 => x = .ref C ∧ tk σ H1 fun zs H2 => zs.length = j ∧ sp (gV [] zs) H2 Q E
theorem pe_stK {pl : Sem Bool} (M : StatK X.prog X.w X.K X.mg X.base CX k C m ps ks sp gV) (hr : Room k X.A) (hx : Passes CX X E) (he : PE X o ta) (hkw : PK X kws tk)
    (hall : (backToKw pos (keywordEach kws X.env)).all (·.1.isSome) = true := by rfl) (hks : (backToKw pos (keywordEach kws X.env)).filterMap (·.1) = ks := by rfl)
    (hpl : ((backTo pos (starEach [] X.env)).any (·.1) || (backToKw pos (keywordEach kws X.env)).any (·.1.isNone)) = false := by rfl)
    (ht : eval (.Call (.Attribute o m apos) [] kws pos) X.env = (do
      let ov ← eval o X.env
      standAt apos.atName
      let (f, first) ← holding [ov] (getMethod ov m pl)
      callWith pos f first (backTo pos (starEach [] X.env)) (backToKw pos (keywordEach kws X.env))) := by rfl) :
    PE X (.Call (.Attribute o m apos) [] kws pos) (tStatK C ks.length sp gV E ta tk) := by
  obtain ⟨f, fd, g, c, F, b⟩ := M.ex
  refine ⟨fun pins s σ H Q I h => ?_⟩
  refine PySem.W.methodCall_KW (pl := pl) (thn (he.run pins s σ H _ I h) fun u s1 ⟨x, H1, I1, rx, ex, q⟩ => ?_) ht
  subst ex
  obtain rfl : u = Value.ref C := rx
  refine getstat_ok I1 c fun s1 I1 => ?_
  refine PySem.W.callWith_KW0 (first := []) (h₀ := X.base) I.ok.mod.kin c.kp hall (thn (hkw.run pos pins s1 σ H1 _ I1 q) fun ws s2 ⟨zs, H2, I2, rz, l2, q2⟩ => ⟨I2.kIn, ?_⟩) hpl
  rw [hks]
  exact run_fnN (us := []) (vs := []) F hr b hx I2 .nil rz rfl l2 q2
/-! ### // and % by any int but 0 -/
def CDivX (_ j : Int) : Prop := j ≠ 0 ∧ j.natAbs.log2 < 9000
theorem op_fdivX : OpR X (binaryOp .FloorDiv) (rI CDivX fun i j => .int (i.fdiv j)) := opI fun _ _ _ _ _ _ _ hc q => floordiv_int hc.1 q (.inl (PyProof.noPylong_of_log2 hc.2))
/-! ### lists of unlike lengths -/
def rEqL : R2 := fun x y H Q => ∃ l b xs ys, x = .ref l ∧ y = .ref b ∧ H l = some (.lst xs) ∧ H b = some (.lst ys) ∧ xs.length ≠ ys.length ∧ Q (.bl false) H
theorem op_eqL (hu : X.A.units < cLine) : OpR X (compareOp .Eq) rEqL := by
  intro pins s σ H x y v u Q I rx ry h
  obtain ⟨l, b, xs, ys, rfl, rfl, h1, h2, hn, q⟩ := h
  obtain rfl : v = Value.ref l := rx
  obtain rfl : u = Value.ref b := ry
  obtain ⟨z, its, n, r, hl, e⟩ := I.lstM h1
  obtain ⟨z2, its2, n2, r2, hl2, e2⟩ := I.lstM h2
  have hs : (its.toArray.size != its2.toArray.size) = true := by
    have a1 := r.length
    have a2 := r2.length
    simp only [List.size_toArray, bne_iff_ne, ne_eq]
    omega
  show wpAny (model X.prog X.w) X.A (richCompare .Eq (.ref l) (.ref b)) _ _ s
  refine wpAny_richCompare_same_room (op := .Eq) ⟨_, e, rfl⟩ ⟨_, e2, rfl⟩ PySem.F.slot_list_eq (call_meets PySem.F.slot_list_eq ⟨_, e, rfl⟩ PySem.F.entry_list_eq (PySem.F.args_list_eq_2 _ _) (AutoSeq1.list___eq___list_list_0 l its.toArray n b its2.toArray n2 hs) ⟨e, e2, ?_⟩) hu
  exact ⟨(fun x => nomatch x), .bl false, H, I, rfl, q⟩
end
end My
/-! The order of two pairs of ints; two promises of one def. -/
namespace My
open PySem PySem.Spec PySem.Calls PyProof.Rows L2
def ordP (r : Int → Int → Bool) (z : Bool) (a b c d : Int) : Bool := if a = c then (if b = d then z else r b d) else r a c
def rOrd (K : PySem.W.Frag) (r : Int → Int → Bool) (z : Bool) : R2 := fun x y H Q => ∃ (l m : Addr) (a b c d : Int), x = .ref l ∧ y = .ref m ∧ SqT K H l [.int a, .int b] ∧ SqT K H m [.int c, .int d] ∧ Q (.bl (ordP r z a b c d)) H
theorem int_here {s : Shared} {A : Around} (a c : Int) (t u : Tok) : SeqAt.EqAt A s (.int a t) (.int c u) (decide (a = c)) := by
  have e : (a == c) = decide (a = c) := by
    by_cases q : a = c
    · rw [decide_eq_true q]; exact beq_iff_eq.mpr q
    · rw [decide_eq_false q]; exact beq_eq_false_iff_ne.mpr q
  rw [← e]
  exact SeqAt.EqAt.int_int _ _ _ _
theorem op_ordV {X : Cx} {op : CmpOp} {r : Int → Int → Bool} {z : Bool} (hco : ∀ v u, compareOp op v u = richCompare op v u)
    (tup : ∀ {A : Around} {s : Shared} {l b : Addr} {is js : Array Value} {e r : Nat → Bool}, s.heap.IsTuple l is → s.heap.IsTuple b js → A.units < cLine → is.size = 2 → js.size = 2 → (∀ j (h1 : j < is.size) (h2 : j < js.size), SeqAt.EqAt A.in1 s is[j] js[j] (e j)) →
      (∀ j (h1 : j < is.size) (h2 : j < js.size), e j = false → Ob.RcOp op A.in1 s is[j] js[j] (r j)) → Ob.RcOp op A s (.ref l) (.ref b) (Ob.lexAt e r z 0 2))
    (int : ∀ {A : Around} {s : Shared} (a b : Int) (t u : Tok), Ob.RcOp op A s (.int a t) (.int b u) (r a b)) (hu : X.A.units < cLine) : OpR X (compareOp op) (rOrd X.K r z) := by
  intro pins s σ H x y v u Q I rx ry h
  obtain ⟨l, m, a, b, c, d, rfl, rfl, hl, hm, q⟩ := h
  obtain rfl : v = Value.ref l := rx
  obtain rfl : u = Value.ref m := ry
  obtain ⟨is, r1, p1, _⟩ := I.tuple hl
  obtain ⟨js, r2, p2, _⟩ := I.tuple hm
  cases r1 with
  | cons ra r1 =>
    cases r1 with
    | cons rb r1 =>
      cases r1
      cases r2 with
      | cons rc r2 =>
        cases r2 with
        | cons rd r2 =>
          cases r2
          obtain ⟨ta, rfl⟩ := ra
          obtain ⟨tb, rfl⟩ := rb
          obtain ⟨tc, rfl⟩ := rc
          obtain ⟨td, rfl⟩ := rd
          have R := tup (A := X.A) (s := s) (e := fun j => if j = 0 then decide (a = c) else decide (b = d)) (r := fun j => if j = 0 then r a c else r b d) p1 p2 hu rfl rfl (fun j h1 h2 => by
            match j, h1 with
            | 0, _ => exact int_here a c ta tc
            | 1, _ => exact int_here b d tb td) (fun j h1 h2 _ => by
            match j, h1 with
            | 0, _ => exact int a c ta tc
            | 1, _ => exact int b d tb td)
          rw [hco]
          refine R X.prog X.w X.xe (EP X pins σ Q) ⟨.bl _, H, I, rfl, ?_⟩
          have e : Ob.lexAt (fun j => if j = 0 then decide (a = c) else decide (b = d)) (fun j => if j = 0 then r a c else r b d) z 0 2 = ordP r z a b c d := by
            unfold ordP
            simp only [Ob.lexAt_succ, Ob.lexAt_zero]
            by_cases h1 : a = c
            · by_cases h2 : b = d
              · simp [h1, h2]
              · simp [h1, h2]
            · simp [h1]
          rw [e]
          exact q
section
variable {X : Cx}
theorem op_ltP (hu : X.A.units < cLine) : OpR X (compareOp .Lt) (rOrd X.K (fun i j => decide (i < j)) false) := op_ordV (fun _ _ => rfl) (fun {A s l b is js e r} h1 h2 h3 h4 h5 h6 h7 => by have z := Ob.RcOp.tuples_lt h1 h2 h3 h6 h7; rw [h4, h5] at z; exact z) (fun a b t u => Ob.RcOp.lt_int a b t u) hu
theorem op_leP (hu : X.A.units < cLine) : OpR X (compareOp .LtE) (rOrd X.K (fun i j => decide (i ≤ j)) true) := op_ordV (fun _ _ => rfl) (fun {A s l b is js e r} h1 h2 h3 h4 h5 h6 h7 => by have z := Ob.RcOp.tuples_le h1 h2 h3 h6 h7; rw [h4, h5] at z; exact z) (fun a b t u => Ob.RcOp.le_int a b t u) hu
theorem op_gtP (hu : X.A.units < cLine) : OpR X (compareOp .Gt) (rOrd X.K (fun i j => decide (j < i)) false) := op_ordV (fun _ _ => rfl) (fun {A s l b is js e r} h1 h2 h3 h4 h5 h6 h7 => by have z := Ob.RcOp.tuples_gt h1 h2 h3 h6 h7; rw [h4, h5] at z; exact z) (fun a b t u => Ob.RcOp.gt_int a b t u) hu
theorem op_geP (hu : X.A.units < cLine) : OpR X (compareOp .GtE) (rOrd X.K (fun i j => decide (j ≤ i)) true) := op_ordV (fun _ _ => rfl) (fun {A s l b is js e r} h1 h2 h3 h4 h5 h6 h7 => by have z := Ob.RcOp.tuples_ge h1 h2 h3 h6 h7; rw [h4, h5] at z; exact z) (fun a b t u => Ob.RcOp.ge_int a b t u) hu
end
/-! ### within a comprehension -/
theorem op_cmpB {X : Cx} {K : PySem.W.Frag} {CX : CXT} {k : Nat} {C : Addr} {m : Str} {ps : List Str} {sp : Sp} {E : XK} {op : CmpOp} (hK : X.K = K) (M : CmpAt X.prog X.w X.K X.mg X.base CX k C m ps sp) (hr : Room k X.A) (hx : Passes CX X E) (hop : (cmpInfo op).2.1 = m := by rfl)
    (hco : ∀ v u, compareOp op v u = richCompare op v u := by intro _ _; rfl) : OpR X (compareOp op) (rCmpO K C sp E) := by
  subst hK
  exact op_cmpO M hr hx hop hco
/-! ### a def that keeps two promises -/
def spOr (s1 s2 : Sp) : Sp := fun vs H Q E => s1 vs H Q E ∨ s2 vs H Q E
section
variable {P : Program} {w : World} {K : PySem.W.Frag} {mg : Str → Option Value} {base : Heap} {CX : CXT} {k : Nat} {f : Addr} {fd : FuncData} {ps : List Str} {s1 s2 : Sp}
theorem ok_or (h1 : FnOk P w K mg base CX k f fd ps s1) (h2 : FnOk P w K mg base CX k f fd ps s2) : FnOk P w K mg base CX k f fd ps (spOr s1 s2) :=
  ⟨fun vs H Q E h => h.elim (h1.len vs H Q E) (h2.len vs H Q E), fun A outer s H args us vs Q E hr e0 hb r h => h.elim (h1.run A outer s H args us vs Q E hr e0 hb r) (h2.run A outer s H args us vs Q E hr e0 hb r)⟩
theorem okG_or (h1 : FnG P w K mg base CX k f fd ps s1) (h2 : FnG P w K mg base CX k f fd ps s2) : FnG P w K mg base CX k f fd ps (spOr s1 s2) :=
  ⟨fun vs H Q E h => h.elim (h1.len vs H Q E) (h2.len vs H Q E), fun A outer s H args us vs Q E hg hr e0 hb r h => h.elim (h1.run A outer s H args us vs Q E hg hr e0 hb r) (h2.run A outer s H args us vs Q E hg hr e0 hb r)⟩
end
end My
/-! Signs in place; an instance called by keywords; what a comprehension may hold. -/
namespace My
open PySem PySem.Spec PySem.Calls PyProof.Rows L2
section
open PySem.W
variable {prog : Program} {w : World} {M : Model} {A : Around} {E : Value → Shared → Prop} {s : Shared} {K : Frag} {x C L f : Addr} {h₀ : Heap} {m : Str → Option Value} {ox : Obj} {od : Option Obj} {nm : String}
/-- beside one of its own class -/
theorem bin1_S {b : Value} {Q : Value → Shared → Prop} (X : K.In s.heap) (I : InstAt s.heap x ox C od) (hb : Looks (model prog w) s.heap (typeOf b) (.ref C)) (hc : selfFirst K C = true) (hs : findIn K (.ref C) (PySem.dunder nm) = some (some (.ref f))) (hf : isFn K (.ref f) = true)
    (h : wpAny (model prog w) A (call (.ref f) [.ref x, b]) (PySem.W.CmpBack Q) E s) : wpAny (model prog w) A (binaryOp1 nm (.ref x) b) (fun r s' => ∃ v, r = some v ∧ Q v s') E s := by
  obtain ⟨cd, rest, hcd, hm⟩ := ksp_first hc
  have one := ksp_try X I hs hf h
  obtain ⟨hh, g, d, tt, os⟩ := s
  have L1 : Looks (model prog w) hh (typeOf (.ref x)) (.ref C) := I.type
  have L2 : Looks (model prog w) hh (typeOf b) (.ref C) := hb
  have L3 : Looks (model prog w) hh (fillsNumberSlot (.ref C) nm) true := fills_K X hcd hm hs
  unfold binaryOp1
  refine wpAny_bind (L1.at (wpAny_bind (L2.at (wpAny_bind (L3.at ?_)))))
  simp only [beq_self_eq_true, if_true]
  ksp_lk
  refine wpAny_mono one (fun r s' hr' => ?_) fun _ _ e => e
  obtain ⟨v, rfl, hq⟩ := hr'
  ksp_lk
  exact ⟨v, rfl, hq⟩
/-- beside a value of a built-in type -/
theorem bin1_T {T : String} {b : Value} {fo ro rc : Option Value} {Q : Value → Shared → Prop} (X : K.In s.heap) (I : InstAt s.heap x ox C od) (hb : typeOf b = pure (.type T)) (hc : selfFirst K C = true)
    (hs : findIn K (.ref C) (PySem.dunder nm) = some (some (.ref f))) (hf : isFn K (.ref f) = true) (hr : findIn K (.ref C) (dunderR nm) = some rc) (hp : rc = none ∨ ∃ g : Addr, rc = some (.ref g))
    (h1 : findIn K (.type T) (PySem.dunder nm) = some fo) (h2 : findIn K (.type T) (dunderR nm) = some ro) (hsub : subIn K (.type T) (.ref C) = some false)
    (h : wpAny (model prog w) A (call (.ref f) [.ref x, b]) (PySem.W.CmpBack Q) E s) : wpAny (model prog w) A (binaryOp1 nm (.ref x) b) (fun r s' => ∃ v, r = some v ∧ Q v s') E s := by
  obtain ⟨cd, rest, hcd, hm⟩ := ksp_first hc
  have one := ksp_try X I hs hf h
  obtain ⟨hh, g, d, tt, os⟩ := s
  have L1 : Looks (model prog w) hh (typeOf (.ref x)) (.ref C) := I.type
  have L2 : Looks (model prog w) hh (typeOf b) (.type T) := Looks.of_pure hb
  have L3 : Looks (model prog w) hh (fillsNumberSlot (.ref C) nm) true := fills_K X hcd hm hs
  have L4 : Looks (model prog w) hh (fillsNumberSlot (.type T) nm) ((fo.isSome && !isSeqSlot fo) || (ro.isSome && !isSeqSlot ro)) := ksp_fillsT X h1 h2
  have L5 : Looks (model prog w) hh (isSubtype (.type T) (.ref C)) false := looks_subIn X hsub
  have L6 : Looks (model prog w) hh (numberSlotInPython (.ref C) nm) true := ksp_inPy X hs hr hp
  have L7 : Looks (model prog w) hh (numberSlotInPython (.type T) nm) false := Looks.of_pure rfl
  have L8 : Looks (model prog w) hh (typeLookup (.type T) (dunderR nm)) ro := looks_findIn X h2
  generalize ((fo.isSome && !isSeqSlot fo) || (ro.isSome && !isSeqSlot ro)) = right at L4
  have hne : (Value.ref C == Value.type T) = false := Bool.eq_false_iff.mpr fun q => by cases beq_iff_eq.mp q
  unfold binaryOp1
  refine wpAny_bind (L1.at (wpAny_bind (L2.at (wpAny_bind (L3.at ?_)))))
  simp only [hne, Bool.false_eq_true, if_false]
  cases right with
  | false =>
    ksp_lk
    refine wpAny_mono one (fun r s' hr' => ?_) fun _ _ e => e
    obtain ⟨v, rfl, hq⟩ := hr'
    ksp_lk
    exact ⟨v, rfl, hq⟩
  | true =>
    ksp_lk
    refine wpAny_mono one (fun r s' hr' => ?_) fun _ _ e => e
    obtain ⟨v, rfl, hq⟩ := hr'
    ksp_lk
    exact ⟨v, rfl, hq⟩
/-- the class has no slot in place -/
theorem noInplace {h : Heap} {cd : ClassData} {add : Bool} (X : K.In h) (hc : clsIn K C = some cd) (hm : cd.mro = [.ref C, .type "object"]) (h1 : findIn K (.ref C) (dunderI nm) = some none) (h2 : findIn K (.type "object") (dunderI nm) = some none) : Looks M h (fillsInplaceSlot (.ref C) nm add) false := by
  intro A Q E s k q
  have Lm : Looks M h (mroOf (.ref C)) cd.mro := (looks_clsIn X hc).andThen (f := fun cd => pure cd.mro) .now
  have Lm' := Lm.keeps k
  obtain ⟨hh, g, d, tt, os⟩ := s
  have X' : K.In hh := X.keeps k
  have L1 : Looks M hh (typeLookup (.ref C) (dunderI nm)) none := looks_findIn X' h1
  have L2 : Looks M hh (typeLookup (.type "object") (dunderI nm)) none := looks_findIn X' h2
  unfold fillsInplaceSlot
  refine wpAny_bind (Lm'.at ?_)
  rw [hm, List.anyM_cons]
  refine wpAny_bind ?_
  repeat lk
  exact q
theorem inpl_K {op : Operator} {b : Value} {Q : Value → Shared → Prop} {cd : ClassData} (X : K.In s.heap) (I : InstAt s.heap x ox C od) (hc : clsIn K C = some cd) (hm : cd.mro = [.ref C, .type "object"]) (h1 : findIn K (.ref C) (dunderI op.info.2) = some none) (h2 : findIn K (.type "object") (dunderI op.info.2) = some none)
    (h : wpAny (model prog w) A (binaryOp1 op.info.2 (.ref x) b) (fun r s' => ∃ v, r = some v ∧ Q v s') E s) : wpAny (model prog w) A (inplaceOp op (.ref x) b) Q E s := by
  have L2 : Looks (model prog w) s.heap (fillsInplaceSlot (.ref C) op.info.2 (op == .Add)) false := noInplace X hc hm h1 h2
  unfold inplaceOp
  refine wpAny_holding ?_
  dsimp only
  refine wpAny_bind (I.type.here (wpAny_bind (L2.here ?_)))
  simp only [Bool.false_eq_true, if_false]
  refine wpAny_bind (wpAny_mono h (fun r s' z => ?_) fun _ _ e => e)
  obtain ⟨v, rfl, hq⟩ := z
  exact wpAny_pure hq
end
/-- the class has no slot in place -/
structure InpF (K : PySem.W.Frag) (C : Addr) (nm : String) : Prop where
  mro : ∃ cd, PySem.W.clsIn K C = some cd ∧ cd.mro = [.ref C, .type "object"]
  no1 : PySem.W.findIn K (.ref C) (dunderI nm) = some none
  no2 : PySem.W.findIn K (.type "object") (dunderI nm) = some none
section
variable {X : Cx} {CX : CXT} {k : Nat} {ps ks : List Str} {sp : Sp} {E : XK} {C : Addr} {m : Str}
theorem iop_O {op : Operator} (M : CmpAt X.prog X.w X.K X.mg X.base CX k C m ps sp) (B : BinF X.K C op.info.2) (N : InpF X.K C op.info.2) (hr : Room k X.A) (hx : Passes CX X E) (hm : PySem.dunder op.info.2 = m := by rfl) : OpR X (inplaceOp op) (rBinO C sp E) := by
  intro pins s σ H x y v u Q I rx ry h
  obtain ⟨f, fd, hs, hf, F, hb⟩ := M.ex
  obtain ⟨a, dx, fs, rfl, ha, oi, hsp⟩ := h
  obtain rfl : v = Value.ref a := rx
  obtain ⟨ox, od, J, _⟩ := ins_plain I ha
  obtain ⟨cd, c1, c2⟩ := N.mro
  subst hm
  have go : wpAny (model X.prog X.w) X.A (call (.ref f) [.ref a, u]) (PySem.W.CmpBack (EP X pins σ Q)) X.xe s := wpAny_mono (run_at (vs := [.ref a, y]) F hb hx (Und.here hr) I (.cons rfl (.cons ry .nil)) hsp) (fun _ _ z => ep_back z) fun _ _ z => z
  refine inpl_K I.kIn J c1 c2 N.no1 N.no2 ?_
  rcases oi with ⟨b, dy, gs, rfl, hb'⟩ | ⟨j, rfl⟩
  · obtain rfl : u = Value.ref b := ry
    obtain ⟨oy, od', J', _⟩ := ins_plain I hb'
    exact bin1_S I.kIn J J'.type B.sf hs hf go
  · obtain ⟨t, rfl⟩ := ry
    obtain ⟨rc, r1, r2⟩ := B.rc
    obtain ⟨fo, i1⟩ := B.i1
    obtain ⟨ro, i2⟩ := B.i2
    exact bin1_T I.kIn J rfl B.sf hs hf r1 r2 i1 i2 B.su go
/-! ### an instance called -/
/-- f(e, ..), told without the context -/
def tCallI (C : Addr) (sp : Sp) (E : XK) (tf : TE) (t : TA) : TE := fun σ H Q => tf σ H fun y H1 => ∃ a, y = V.ref a ∧ t σ H1 fun vs H2 => (∃ dx fs, H2 a = some (.ins C dx fs)) ∧ sp (V.ref a :: vs) H2 Q E
theorem pe_clI {fe e : Expr} {es : List Expr} {tf : TE} {t : TA} {pos : Pos} (M : CallAt X.prog X.w X.K X.mg X.base CX k C ps sp) (hr : Room k X.A) (hx : Passes CX X E) (hf : PE X fe tf) (ha : PA X (e :: es) t)
    (ht : eval (.Call fe (e :: es) [] pos) X.env = (do callWith pos (← eval fe X.env) [] (backTo pos (starEach (e :: es) X.env)) (backToKw pos (keywordEach [] X.env))) := by rfl)
    (hs : starEach (e :: es) X.env = (false, eval e X.env) :: starEach es X.env := by rfl) (hpl : (backTo pos (starEach es X.env)).any (·.1) = false := by rfl) : PE X (.Call fe (e :: es) [] pos) (tCallI C sp E tf t) := by
  obtain ⟨f, fd, c, F, b⟩ := M.ex
  refine ⟨fun pins s σ H Q I h => ?_⟩
  refine Call_ (thn (hf.run pins s σ H _ I h) fun u s1 ⟨y, H1, I1, ry, a, ey, q⟩ => ?_) ht
  subst ey
  obtain rfl : u = Value.ref a := ry
  refine StX.callO_with (thn (ha.run pos pins s1 σ H1 _ I1 q) fun us s2 ⟨vs, H2, I2, r, ⟨dx, fs, hi⟩, q2⟩ => ?_) hs hpl
  obtain ⟨ox, od, J, hd⟩ := StX.insC_at (X := X) I2 (.inr ⟨dx, fs, hi⟩)
  refine ⟨⟨C, ox, od, J, hd⟩, ?_⟩
  have hl : (Value.ref a :: us ++ []).length = ps.length := by
    rw [List.append_nil, List.length_cons, ← r.length]
    exact F.len _ _ _ _ q2
  have bd := b s2 (.ref a :: us) I2.kIn hl
  rw [List.append_nil] at bd
  refine wpAny_call (PySem.W.kco_code I2.kIn J hd c.at_ c.fn c.fi (codeAny_mono (F.run X.A X.stack s2 H2 ⟨.ref a :: us, []⟩ (.ref a :: us) (.ref a :: vs) _ E hr I2.env0 bd (.cons rfl r) q2) fun r s' hq => ?_))
  match r, hq with
  | .error e, hq => exact hx pins σ H2 s2 e s' I2 hq
  | .ok (.ret z), hq => exact I2.after hq
  | .ok .next, hq => exact False.elim hq
  | .ok .brk, hq => exact False.elim hq
  | .ok .cont, hq => exact False.elim hq
structure CallK (P : Program) (w : World) (K : PySem.W.Frag) (mg : Str → Option Value) (base : Heap) (CX : CXT) (k : Nat) (C : Addr) (ps ks : List Str) (sp : Sp) (gV : List V → List V → List V) : Prop where
  ex : ∃ f fd g, StX.CallO K C f ∧ FnOk P w K mg base CX k f fd ps sp ∧ KBn K fd ps 1 ks g gV
def tCallK (C : Addr) (j : Nat) (sp : Sp) (gV : List V → List V → List V) (E : XK) (tf : TE) (tk : TA) : TE := fun σ H Q => tf σ H fun y H1 => ∃ a, y = V.ref a ∧ tk σ H1 fun zs H2 => zs.length = j ∧ (∃ dx fs, H2 a = some (.ins C dx fs)) ∧ sp (gV [.ref a] zs) H2 Q E
/-- the call's node where the callee is an instance, keywords alone -/
theorem callO_kw {M : Model} {A : Around} {Er : Value → Shared → Prop} {s : Shared} {a : Addr} {pos : Pos} {Q : Value → Shared → Prop} {args : List (Bool × Sem Value)} {kw : List (Option Str × Sem Value)} (hplain : (args.any (·.1) || kw.any (·.1.isNone)) = false)
    (h : wpAny M A (evalArgs (.ref a) true args kw) (fun z s₁ => (∃ C ox od, PySem.W.InstAt s₁.heap a ox C od ∧ ox.data = .plain) ∧ wpAny M A (call (.ref a) ([] ++ z.pos) z.kw) Q Er s₁) Er s) : wpAny M A (callWith pos (.ref a) [] args kw) Q Er s := by
  unfold callWith
  refine wpAny_bind (wpAny_holding (wpAny_mono h (fun z s₁ h₁ => wpAny_bind (wpAny_standAt ?_)) fun _ _ y => y))
  obtain ⟨⟨C, ox, od, J, hd⟩, h₁⟩ := h₁
  simp only [hplain]
  refine wpAny_bind ((PySem.W.kco_keeper (M := M) J hd).here ?_)
  refine wpAny_bind (wpAny_mono (wpAny_operateT h₁) (fun r s₂ hr => wpAny_bind (wpAny_holding (wpAny_point (wpAny_pure hr)))) fun _ _ y => y)
theorem pe_clK {fe : Expr} {kws : List Keyword} {tf : TE} {tk : TA} {pos : Pos} {gV : List V → List V → List V} (M : CallK X.prog X.w X.K X.mg X.base CX k C ps ks sp gV) (hr : Room k X.A) (hx : Passes CX X E) (hf : PE X fe tf) (hkw : PK X kws tk)
    (ht : eval (.Call fe [] kws pos) X.env = (do callWith pos (← eval fe X.env) [] (backTo pos (starEach [] X.env)) (backToKw pos (keywordEach kws X.env))) := by rfl)
    (hall : (backToKw pos (keywordEach kws X.env)).all (·.1.isSome) = true := by rfl) (hks : (backToKw pos (keywordEach kws X.env)).filterMap (·.1) = ks := by rfl)
    (hpl : ((backTo pos (starEach [] X.env)).any (·.1) || (backToKw pos (keywordEach kws X.env)).any (·.1.isNone)) = false := by rfl) : PE X (.Call fe [] kws pos) (tCallK C ks.length sp gV E tf tk) := by
  obtain ⟨f, fd, g, c, F, b⟩ := M.ex
  refine ⟨fun pins s σ H Q I h => ?_⟩
  rw [ht]
  refine wpAny_bind (thn (hf.run pins s σ H _ I h) fun u s1 ⟨y, H1, I1, ry, a, ey, q⟩ => ?_)
  subst ey
  obtain rfl : u = Value.ref a := ry
  refine callO_kw hpl (evalArgs_kw2_nil hall (thn (hkw.run pos pins s1 σ H1 _ I1 q) fun ws s2 ⟨zs, H2, I2, rz, l2, ⟨dx, fs, hi⟩, q2⟩ => ?_))
  obtain ⟨ox, od, J, hd⟩ := StX.insC_at (X := X) I2 (.inr ⟨dx, fs, hi⟩)
  refine ⟨⟨C, ox, od, J, hd⟩, ?_⟩
  rw [hks]
  have r2 := b.rel (vs := [V.ref a]) (us := [Value.ref a]) (.cons rfl .nil) rz
  refine wpAny_call (PySem.W.kco_code I2.kIn J hd c.at_ c.fn c.fi (codeAny_mono (F.run X.A X.stack s2 H2 ⟨[.ref a], ks.zip ws⟩ (g [.ref a] ws) (gV [.ref a] zs) _ E hr I2.env0 (b.to s2 [.ref a] ws I2.kIn rfl (rz.length.symm.trans l2)) r2 q2) fun r s' hq => ?_))
  match r, hq with
  | .error e, hq => exact hx pins σ H2 s2 e s' I2 hq
  | .ok (.ret z), hq => exact I2.after hq
  | .ok .next, hq => exact False.elim hq
  | .ok .brk, hq => exact False.elim hq
  | .ok .cont, hq => exact False.elim hq
/-- a class of the module made by keywords alone -/
structure MakeK (P : Program) (w : World) (K : PySem.W.Frag) (mg : Str → Option Value) (base : Heap) (CX : CXT) (k : Nat) (x : Str) (C : Addr) (ps ks : List Str) (sp : Sp) (gV : List V → List V → List V) : Prop where
  ex : ∃ f fd g, Mk K C f ∧ FnOk P w K mg base CX k f fd ps sp ∧ mg x = some (.ref C) ∧ KBn K fd ps 1 ks g gV
theorem pe_mkK {x : Str} {p pos : Pos} {kws : List Keyword} {tk : TA} {gV : List V → List V → List V} (M : MakeK X.prog X.w X.K X.mg X.base CX k x C ps ks sp gV) (hr : Room (k + 1) X.A) (hg : Gl X x) (hx : Passes CX X E) (hkw : PK X kws tk)
    (hall : (backToKw pos (keywordEach kws X.env)).all (·.1.isSome) = true := by rfl) (hks : (backToKw pos (keywordEach kws X.env)).filterMap (·.1) = ks := by rfl) (hdb : (x == ("__debug__" : Str)) = false := by decide)
    (hpl : ((backTo pos (starEach [] X.env)).any (·.1) || (backToKw pos (keywordEach kws X.env)).any (·.1.isNone)) = false := by rfl) : PE X (.Call (.Name x p) [] kws pos) (tMakeK C 0 ks.length sp gV E tNil tk) := by
  obtain ⟨f, fd, g, mk, F, hm, b⟩ := M.ex
  exact pe_makeK0 mk F hr hg hm b hx hkw hall hks hdb hpl
end
end My
/-! For the end: static methods, makers with defaults, calls by keywords. -/
namespace My
open PySem PySem.Spec PyProof.Rows L2
def gApp (vs zs : List V) : List V := vs ++ zs
def gSw (vs zs : List V) : List V := vs ++ zs.reverse
theorem nm_part : Sup.Nm "part" := ⟨by decide, by decide, by decide, by decide, fun _ _ _ _ _ _ _ _ _ _ _ _ => rfl⟩
theorem app_rel {vs : List V} {us : List Value} {zs : List V} {ws : List Value} (h1 : Vals vs us) (h2 : Vals zs ws) : Vals (gApp vs zs) (us ++ ws) := h1.append h2
/-- the class has the static method -/
structure HasS (K : PySem.W.Frag) (C : Addr) (m qual : Str) (st : Stmt) : Prop where
  ex : ∃ f fd, Stat K C m f ∧ Fun K m qual st f fd
section
variable {P : Program} {w : World} {K : PySem.W.Frag} {mg : Str → Option Value} {base : Heap} {CX : CXT} {k : Nat} {m qual : Str} {st : Stmt} {ps ks : List Str} {sp : Sp} {C : Addr}
theorem stat_at (A : HasS K C m qual st) (ok : ∀ f fd, Fun K m qual st f fd → FnOk P w K mg base CX k f fd ps sp) (b : BindW m qual st ps) : StatAt P w K mg base CX k C m ps sp := by
  obtain ⟨f, fd, h1, F⟩ := A.ex
  exact ⟨f, fd, h1, ok f fd F, F.binds b⟩
theorem statK_at {gV : List V → List V → List V} {g : List Value → List Value → List Value} (A : HasS K C m qual st) (ok : ∀ f fd, Fun K m qual st f fd → FnOk P w K mg base CX k f fd ps sp)
    (b : ∀ (kV doc pm : Value) (an : Option Addr) (cdv ct : Value) (us ws : List Value), us.length = 0 → ws.length = ks.length → bindArgs (PySem.W.fnOf m qual (defArgs st) (defBody st) (defScope st) .none kV doc pm an cdv ct) ⟨us, ks.zip ws⟩ = pure (ps.zip (g us ws)))
    (r : ∀ {vs : List V} {us : List Value} {zs : List V} {ws : List Value}, Vals vs us → Vals zs ws → Vals (gV vs zs) (g us ws)) : StatK P w K mg base CX k C m ps ks sp gV := by
  obtain ⟨f, fd, h1, F⟩ := A.ex
  obtain ⟨oc, od, kV, doc, pm, an, cdv, ct, osl, rfl, _⟩ := id F.ex
  exact ⟨f, _, g, h1, ok f _ F, ⟨fun s us ws _ l1 l2 => .of_eq (b kV doc pm an cdv ct us ws l1 l2), r⟩⟩
end
theorem sw_rel {vs : List V} {us : List Value} {zs : List V} {ws : List Value} (h1 : Vals vs us) (h2 : Vals zs ws) : Vals (gSw vs zs) (us ++ ws.reverse) := h1.append h2.reverse
theorem kinds7 {K : PySem.W.Frag} {C : Addr} (a0 : PySem.W.kitOne K (.type "int") (.ref C) = some false) (b0 : PySem.W.notFirst K C (.type "int") = true) (a1 : PySem.W.kitOne K (.type "tuple") (.ref C) = some false) (b1 : PySem.W.notFirst K C (.type "tuple") = true) (a2 : PySem.W.kitOne K (.type "NoneType") (.ref C) = some false) (b2 : PySem.W.notFirst K C (.type "NoneType") = true) (a3 : PySem.W.kitOne K (.type "str") (.ref C) = some false) (b3 : PySem.W.notFirst K C (.type "str") = true) (a4 : PySem.W.kitOne K (.type "list") (.ref C) = some false) (b4 : PySem.W.notFirst K C (.type "list") = true) (a5 : PySem.W.kitOne K (.type "bool") (.ref C) = some false) (b5 : PySem.W.notFirst K C (.type "bool") = true) (a6 : PySem.W.kitOne K (.type "dict") (.ref C) = some false) (b6 : PySem.W.notFirst K C (.type "dict") = true) : ∀ t ∈ ["int", "tuple", "NoneType", "str", "list", "bool", "dict"], PySem.W.kitOne K (.type t) (.ref C) = some false ∧ PySem.W.notFirst K C (.type t) = true := fun t ht => by
  simp only [List.mem_cons, List.mem_nil_iff, or_false] at ht
  rcases ht with rfl | rfl | rfl | rfl | rfl | rfl | rfl
  · exact ⟨a0, b0⟩
  · exact ⟨a1, b1⟩
  · exact ⟨a2, b2⟩
  · exact ⟨a3, b3⟩
  · exact ⟨a4, b4⟩
  · exact ⟨a5, b5⟩
  · exact ⟨a6, b6⟩
section
variable {P : Program} {w : World} {K : PySem.W.Frag} {mg : Str → Option Value} {base : Heap} {CX : CXT} {k : Nat} {x qual : Str} {st : Stmt} {ps ks : List Str} {sp : Sp} {C : Addr} {dvs : List V}
/-- the class is made with its defaults left out -/
theorem make_dfl {n : Nat} (A : HasD K C "__init__" qual st dvs []) (hx : mg x = some (.ref C)) (mk : PySem.W.makesIn K C = true) (kp : PySem.W.keepIn K (.ref C) = true) (ok : ∀ f fd, FunD K "__init__" qual (defArgs st) (defBody st) (defScope st) dvs [] f fd → FnOk P w K mg base CX k f fd ps sp) (hd : dvs ≠ []) (hn : n + (dvs.length - 0) = ps.length)
    (b : ∀ (T : Addr) (kV doc pm : Value) (an : Option Addr) (cdv ct : Value) (us its : List Value), us.length = n → its.length = dvs.length →
      ∃ k, bindArgs (PySem.W.fnOf "__init__" qual (defArgs st) (defBody st) (defScope st) (.ref T) kV doc pm an cdv ct) ⟨us, []⟩ = seqItems? (.ref T) >>= k ∧ k (some its.toArray) = pure (ps.zip (us ++ its.drop 0))) : MakeAt P w K mg base CX k x C ps sp dvs := by
  obtain ⟨f, fd, h1, h2, F⟩ := A.ex
  obtain ⟨ds, r, bs⟩ := F.binds1 n 0 hd hn b
  rw [List.drop_zero] at r
  exact ⟨f, fd, ds, ⟨mk, h1, h2, kp⟩, ok f fd F, hx, bs, r⟩
theorem make_sw (A : HasD K C "__init__" qual st dvs []) (hx : mg x = some (.ref C)) (mk : PySem.W.makesIn K C = true) (kp : PySem.W.keepIn K (.ref C) = true) (ok : ∀ f fd, FunD K "__init__" qual (defArgs st) (defBody st) (defScope st) dvs [] f fd → FnOk P w K mg base CX k f fd ps sp) (hd : dvs ≠ [])
    (b : ∀ (T : Addr) (kV doc pm : Value) (an : Option Addr) (cdv ct : Value) (us its ws : List Value), us.length = 1 → its.length = dvs.length → ws.length = ks.length →
      ∃ k, bindArgs (PySem.W.fnOf "__init__" qual (defArgs st) (defBody st) (defScope st) (.ref T) kV doc pm an cdv ct) ⟨us, ks.zip ws⟩ = seqItems? (.ref T) >>= k ∧ k (some its.toArray) = pure (ps.zip (us ++ ws.reverse))) : MakeK P w K mg base CX k x C ps ks sp gSw := by
  obtain ⟨f, fd, h1, h2, F⟩ := A.ex
  obtain ⟨its, kb⟩ := F.kbindsD (ps := ps) 1 ks (fun us _ ws => us ++ ws.reverse) hd (fun h1 _ h3 => h1.append h3.reverse) b
  exact ⟨f, fd, _, ⟨mk, h1, h2, kp⟩, ok f fd F, hx, kb⟩
theorem callK_at {g : List Value → List Value → List Value} (A : HasM K C "__call__" qual st) (ok : ∀ f fd, Fun K "__call__" qual st f fd → FnOk P w K mg base CX k f fd ps sp)
    (b : ∀ (kV doc pm : Value) (an : Option Addr) (cdv ct : Value) (us ws : List Value), us.length = 1 → ws.length = ks.length → bindArgs (PySem.W.fnOf "__call__" qual (defArgs st) (defBody st) (defScope st) .none kV doc pm an cdv ct) ⟨us, ks.zip ws⟩ = pure (ps.zip (us ++ ws))) : CallK P w K mg base CX k C ps ks sp gApp := by
  obtain ⟨f, fd, h1, h2, F⟩ := A.ex
  obtain ⟨oc, od, kV, doc, pm, an, cdv, ct, osl, rfl, lk, _⟩ := id F.ex
  refine ⟨f, _, _, ⟨h1, h2, ?_⟩, ok f _ F, ⟨fun s us ws _ l1 l2 => .of_eq (b kV doc pm an cdv ct us ws l1 l2), app_rel⟩⟩
  unfold PySem.W.fnIn
  rw [lk]
end
end My
/-! int == an instance; bool(x), abs(x) of an instance; // and % of an int by an instance. -/
namespace My
open PySem PySem.Spec PySem.Calls PyProof.Rows L2
theorem is_fdv {K : PySem.W.Frag} : IntSlot K (Operator.info .FloorDiv).2 "int.__floordiv__" Builtin.«int.__floordiv__» := ⟨PySem.F.slot_int_floordiv, PySem.F.entry_int_floordiv, PySem.F.args_int_floordiv_2, dec_floordiv⟩
theorem is_mod {K : PySem.W.Frag} : IntSlot K (Operator.info .Mod).2 "int.__mod__" Builtin.«int.__mod__» := ⟨PySem.F.slot_int_mod, PySem.F.entry_int_mod, PySem.F.args_int_mod_2, dec_mod⟩
section
open PySem.W
variable {prog : Program} {w : World} {A : Around} {E : Value → Shared → Prop} {s : Shared} {K : Frag} {x C L f : Addr} {h₀ : Heap} {m : Str → Option Value} {ox : Obj} {od : Option Obj}
theorem bool_call {Q : Value → Shared → Prop} (F : Fr h₀ L s.heap m) (X₀ : K.In h₀) (I : InstAt s.heap x ox C od) (hs : findIn K (.ref C) "__bool__" = some (some (.ref f))) (hf : isFn K (.ref f) = true)
    (h : wpAny (model prog w) A.in1.in1 (call (.ref f) [.ref x]) (PySem.W.BoolBack fun b s' => Q (.bool b) s') E s) : wpAny (model prog w) A (call (.type "bool") [.ref x]) Q E s := by
  refine callType_codes (T := "bool") (Bi := Builtin.«object.__init__») (Q₁ := fun r s' => ∃ b, r = .bool b ∧ Q r s') PySem.F.called_bool (PySem.F.typeCall_bool_1 _) PySem.F.entry_object_init ?_ ?_
  · refine codeAny_of_tree ?_
    show wpAny _ A.in1.in1 (do checkBuiltinCall "bool.__new__" ⟨[.type "bool", .ref x], []⟩; again (.builtin "bool.__new__" ⟨[.type "bool", .ref x], []⟩)) _ _ s
    refine wpAny_bind (wpAny_of_eq (PySem.F.newCall_bool_1 _) (wpAny_pure ⟨plainId_quiet (by decide +kernel) _, codeAny_builtin PySem.F.entry_bool_new ?_⟩))
    rw [Around.under_plainId (by decide +kernel) _]
    unfold Builtin.«bool.__new__»
    have f1 := PySem.F.conv_sub_bool
    have go : wpAny (model prog w) A.in1.in1 (truthy (.ref x)) (fun b s' => Q (.bool b) s') E s := truthy_K F X₀ I hs hf h
    refine wpAny_bind (m := isType (.type "bool")) (wpAny_pure ?_)
    refine wpAny_bind (m := isSubtype (.type "bool") (.type "bool")) (wpAny_of_eq f1 ?_)
    refine wpAny_bind (wpAny_pure ?_)
    refine wpAny_bind (m := truthy (.ref x)) (wpAny_mono go (fun b s' hq => ?_) fun _ _ y => y)
    exact wpAny_pure ⟨b, rfl, hq⟩
  · rintro obj s' ⟨b, rfl, hq⟩
    exact ⟨PySem.typeIs_bool _ _, PySem.F.args_object_init_2 _ _, object_init_meets PySem.F.called_bool.init.lookup PySem.F.called_bool.made (by decide) prog w A.in1 _ s' ⟨PySem.typeIs_bool _ _, rfl, hq⟩⟩
theorem abs_call {Q : Value → Shared → Prop} (X : K.In s.heap) (I : InstAt s.heap x ox C od) (hs : findIn K (.ref C) "__abs__" = some (some (.ref f))) (hf : isFn K (.ref f) = true)
    (h : wpAny (model prog w) A.in1 (call (.ref f) [.ref x]) Q E s) : wpAny (model prog w) A (call (.builtin "abs") [.ref x]) Q E s := by
  refine call_function_entry kind_abs plain_abs entry_abs (args_abs _) ?_
  unfold Builtin.«abs»
  refine wpAny_bind (m := oneArg "abs" _) (wpAny_pure ?_)
  refine wpAny_bind (m := callSpecial? (.ref x) (Str.ofString "__abs__")) (special_fn X I hs (beq_iff_eq.mp hf) (wpAny_mono h (fun r s' hr => ?_) fun _ _ y => y))
  exact wpAny_pure ⟨_, rfl, hr⟩
end
section
variable {X : Cx} {CX : CXT} {k : Nat} {C : Addr} {ps : List Str} {sp : Sp} {E : XK}
theorem op_eqR (M : CmpAt X.prog X.w X.K X.mg X.base CX k C "__eq__" ps sp) (su : PySem.W.subIn X.K (.ref C) (.type "int") = some false) (hr : Room k X.A) (hx : Passes CX X E) : OpR X (compareOp .Eq) (rCmpR C sp E) := op_cmpRv M su hr hx rfl (fun _ _ => rfl) (fun _ _ _ => rfl) PySem.F.slot_int_eq PySem.F.entry_int_eq PySem.F.args_int_eq_2 dec_eq
/-- bool(x) of an instance with its own __bool__ -/
def rBoolO (C : Addr) (sp : Sp) (E : XK) : List V → Hp → VK → Prop := fun xs H Q => ∃ a dx fs, xs = [.ref a] ∧ H a = some (.ins C dx fs) ∧ sp [.ref a] H (fun v H' => ∃ b, v = .bl b ∧ Q v H') E
theorem call_boolO (M : CmpAt X.prog X.w X.K X.mg X.base CX k C "__bool__" ps sp) (hr : Room (k + 2) X.A) (hx : Passes CX X E) : CallR X (.type "bool") (rBoolO C sp E) := by
  intro pins s σ H xs us Q I r h
  obtain ⟨f, fd, hs, hf, F, hb⟩ := M.ex
  obtain ⟨a, dx, fs, rfl, ha, hsp⟩ := h
  obtain ⟨u, rfl, r1⟩ := vals1 r
  obtain rfl : u = Value.ref a := r1
  obtain ⟨ox, od, J, _⟩ := ins_plain I ha
  obtain ⟨m', hF⟩ := I.fr
  have U : Und X k X.A.in1.in1 := (Und.here hr).in1.in1
  refine bool_call hF I.ok.mod.kin J hs hf (wpAny_mono (run_at (vs := [.ref a]) F hb hx U I (.cons rfl .nil) hsp) (fun v s' z => ?_) fun _ _ z => z)
  obtain ⟨z, H', I', rz, b, rfl, q⟩ := z
  cases (show v = Value.bool b from rz)
  exact ⟨.bl b, H', I', rfl, q⟩
/-- abs(x) of an instance with its own __abs__ -/
def rAbsO (C : Addr) (sp : Sp) (E : XK) : List V → Hp → VK → Prop := fun xs H Q => ∃ a dx fs, xs = [.ref a] ∧ H a = some (.ins C dx fs) ∧ sp [.ref a] H Q E
theorem call_absO (M : CmpAt X.prog X.w X.K X.mg X.base CX k C "__abs__" ps sp) (hr : Room (k + 1) X.A) (hx : Passes CX X E) : CallR X (.builtin "abs") (rAbsO C sp E) := by
  intro pins s σ H xs us Q I r h
  obtain ⟨f, fd, hs, hf, F, hb⟩ := M.ex
  obtain ⟨a, dx, fs, rfl, ha, hsp⟩ := h
  obtain ⟨u, rfl, r1⟩ := vals1 r
  obtain rfl : u = Value.ref a := r1
  obtain ⟨ox, od, J, _⟩ := ins_plain I ha
  have U : Und X k X.A.in1 := (Und.here hr).in1
  exact abs_call I.kIn J hs hf (run_at (vs := [.ref a]) F hb hx U I (.cons rfl .nil) hsp)
end
end My
/-! enumerate of a tuple; a class made by a star; a tuple turned about. -/
namespace My
open PySem PySem.Spec PySem.Calls PyProof.Rows L2
/-! ### enumerate(tuple) -/
theorem enum1_meets {v : Value} {o : Obj} {H : Heap → Prop} (B : Begins v o H) :
    Meets (Builtin.«enumerate.__new__» ⟨[.type "enumerate", v], []⟩) (fun _ R s => H s.heap ∧
      R (.ok (.ret (.ref (s.heap.push o).objs.size))) { s with heap := (s.heap.push o).push { cls := .type "enumerate", data := .fields #[.none, .bool false, .ref s.heap.objs.size, rawInt 0, .none, .none] } }) :=
  .of_wp fun prog w A R s h => by
    obtain ⟨hp, g, d, tk, os⟩ := s
    obtain ⟨h1, h⟩ := h
    have hsub := sub_enumerate
    have q1 : ∀ {A' : Around} {E : Value → Shared → Prop} {Q : Value → Shared → Prop}, Q (.ref hp.objs.size) ⟨hp.push o, g, d, tk, os⟩ → wpAny (model prog w) A' (pyIter v) Q E ⟨hp, g, d, tk, os⟩ :=
      fun q => B.iter prog w _ _ ⟨hp, g, d, tk, os⟩ _ h1 q
    wp_walk using q1
    refine wpAny_stack_any fun st => wpAny_pure ?_
    split
    · rename_i c _ _ _ _ _
      cases (c == Value.type "enumerate")
      · wp_walk using q1
        exact ⟨_, rfl, h⟩
      · wp_walk using q1
        exact ⟨_, rfl, h⟩
    · wp_walk using q1
      exact ⟨_, rfl, h⟩
section
variable {prog : Program} {w : World} {A : Around} {E : Value → Shared → Prop} {s : Shared}
theorem enum1_begins {v : Value} {o : Obj} {H : Heap → Prop} {Q : Value → Shared → Prop} (B : Begins v o H) (h1 : H s.heap)
    (h : ∀ h', IsEnum h' (s.heap.objs.size + 1) s.heap.objs.size 0 .none → h'.get? s.heap.objs.size = some o → h'.objs.size = s.heap.objs.size + 2 →
      (∀ b o, s.heap.get? b = some o → h'.get? b = some o) → Q (.ref (s.heap.objs.size + 1)) { s with heap := h' }) :
    wpAny (model prog w) A (call (.type "enumerate") [v]) Q E s := by
  refine callType_new F.called_enumerate (by decide) (F.typeCall_enumerate_1 _) (F.newCall_enumerate_1 _) (fun obj => F.args_object_init_2 obj _) F.entry_enumerate_new (enum1_meets B) ⟨h1, ?_⟩
  have hz : (s.heap.push o).objs.size = s.heap.objs.size + 1 := Heap.size_push ..
  show _ ∧ _
  rw [hz]
  have he : IsEnum ((s.heap.push o).push { cls := .type "enumerate", data := .fields #[.none, .bool false, .ref s.heap.objs.size, rawInt 0, .none, .none] }) (s.heap.objs.size + 1) s.heap.objs.size 0 .none := by
    have z := Heap.get?_push_size (s.heap.push o) (o := { cls := .type "enumerate", data := .fields #[.none, .bool false, .ref s.heap.objs.size, rawInt 0, .none, .none] }) rfl
    rw [hz] at z
    exact z
  exact ⟨⟨_, he, rfl⟩, h _ he (Heap.get?_push_of_some _ (Heap.get?_push_size _ B.free)) (by rw [Heap.size_push, hz]) fun b o x => Heap.get?_push_of_some _ (Heap.get?_push_of_some _ x)⟩
end
/-- the tuple at a, each item in a new pair -/
def IteT (K : PySem.W.Frag) (a : Addr) : It :=
  ⟨fun i H => ∃ (xs : List V) (x : V), SqT K H a xs ∧ xs[i]? = some x, fun i H v H' => ∃ T x, v = .ref T ∧ H T = none ∧ H' = upd H T (.tup [.int (i : Nat), x]) ∧ ∀ xs, SqT K H a xs → xs[i]? = some x, fun i H => ∃ xs : List V, SqT K H a xs ∧ xs.length = i⟩
theorem turn_enumT {P : Program} {w : World} {K : PySem.W.Frag} {elts : List Expr} {kk : Nat} {tpos : Pos} (a e it : Addr) :
    Turn P w K (.Tuple elts kk tpos) (IteT K a) [e, it] e (fun i h => (∃ old, IsEnum h e it ((i : Nat) : Int) old) ∧ h.IsTupleIter it a i ∧ e ≠ it) where
  mem := by simp
  obj := fun i h st b hb => by
    obtain ⟨⟨old, he⟩, ⟨o, ho, hc, hd⟩, _⟩ := st
    rcases (show b = e ∨ b = it by simpa using hb) with rfl | rfl
    · exact ⟨_, he, fun v q => nomatch q⟩
    · exact ⟨o, ho, fun v q => by rw [hd] at q; cases q⟩
  keep := fun i h h' st k => let ⟨⟨old, he⟩, hi, hne⟩ := st; ⟨⟨old, k e (by simp) _ he⟩, hi.at fun o q => k it (by simp) o q, hne⟩
  item := by
    intro X hP hw hK hc i pins s σ H E I hf st hg
    subst hP hw hK
    obtain ⟨⟨old, he⟩, hit, hne⟩ := st
    obtain ⟨xs, x, hq, hx⟩ := hg
    obtain ⟨its, rv, p, hz⟩ := I.tuple hq
    obtain ⟨u, hu, ru⟩ := rv.get hx
    have hel : e < s.heap.objs.size := Heap.lt_size he
    have hil : it < s.heap.objs.size := by obtain ⟨_, q, _⟩ := hit; exact Heap.lt_size q
    have hat : a ≠ it := fun z => by
      obtain ⟨o1, e1, c1, _⟩ := p
      obtain ⟨o2, e2, c2, _⟩ := hit
      rw [z, e2] at e1
      cases e1
      rw [c2] at c1
      exact absurd c1 (by decide)
    have hae : a ≠ e := fun z => by
      obtain ⟨o1, e1, c1, _⟩ := p
      rw [z, show s.heap.get? e = _ from he] at e1
      cases e1
      exact absurd (show Value.type "enumerate" = Value.type "tuple" from c1) (by decide)
    have D := Draws.tuple (prog := X.prog) (w := X.w) (A := X.A.in1) (I.ok.hd hc) it a hat its.toArray
    have hlt : i < its.toArray.size := by
      have := (List.getElem?_eq_some_iff.mp hu).1
      simpa using this
    refine wpAny_pyNext_enum_itemC (n := its.toArray.size) D he ⟨hit, p⟩ hlt hne (by simp; exact ⟨hne, Ne.symm hae⟩) fun x' h' tk hPx ho hst' hT hsz hk => ?_
    have ex : x' = u := by
      have h1 : its.toArray[i]? = some x' := hPx
      rw [List.getElem?_toArray, hu] at h1
      exact (Option.some.inj h1).symm
    subst ex
    refine ⟨_, rfl, wpAny_letOwnedTupleGo_enum (s := { s with heap := h', toks := tk + 1 }) ho fun h'' he' sb => ?_⟩
    have hT2 : h''.get? s.heap.objs.size = some { cls := .type "tuple", data := .seq #[.int i tk, x'] } := (sb.2 _ (Nat.ne_of_gt hel)).trans hT
    have new : ObjOk X.prog X.w (upd H s.heap.objs.size (.tup [.int (i : Nat), x])) h'' s.heap.objs.size (.tup [.int (i : Nat), x]) :=
      ⟨by show 2 ≤ sizeLine; decide, [.int i tk, x'], .cons ⟨_, rfl⟩ (.cons ru .nil), ⟨_, hT2, rfl, _, rfl⟩⟩
    have I1 : Inv X pins σ (upd H s.heap.objs.size (.tup [.int (i : Nat), x])) { s with heap := h'', toks := tk + 1 } :=
      I.turnedNew (ch := [e, it]) (fun b ob hb q => (sb.2 b (fun z => hb (by simp [z]))).trans (hk b ob (fun z => hb (by simp [z])) (fun z => hb (by simp [z])) q)) hf (Nat.le_refl _) new
    refine ⟨.ref s.heap.objs.size, _, I1, rfl, ⟨_, x, rfl, I.hok.fresh (Nat.le_refl _), rfl, fun ys hy => by rw [I.tuple_inj hy hq]; exact hx⟩, ⟨⟨x', ?_⟩, hst'.1.at fun o q => (sb.2 it (Ne.symm hne)).trans q, hne⟩, fun b hb => ?_⟩
    · have e1 : ((i + 1 : Nat) : Int) = (i : Int) + 1 := by omega
      rw [e1]
      exact he'
    · have hb' : b < s.heap.objs.size := by
        rcases (show b = e ∨ b = it by simpa using hb) with rfl | rfl
        · exact hel
        · exact hil
      rw [upd_ne (Nat.ne_of_lt hb')]
      exact (hf b hb).1
  done := by
    intro X hP hw hK hc i pins s σ H E I hf st hg
    subst hP hw hK
    obtain ⟨⟨old, he⟩, hit, hne⟩ := st
    obtain ⟨xs, hq, hx⟩ := hg
    obtain ⟨its, rv, p, hz⟩ := I.tuple hq
    obtain ⟨f0, f1, f2, f3, f4, f5⟩ := hf it (by simp)
    have hl := rv.length
    have hat : a ≠ it := fun z => by
      obtain ⟨o1, e1, c1, _⟩ := p
      obtain ⟨o2, e2, c2, _⟩ := hit
      rw [z, e2] at e1
      cases e1
      rw [c2] at c1
      exact absurd c1 (by decide)
    have D := Draws.tuple (prog := X.prog) (w := X.w) (A := X.A.in1) (I.ok.hd hc) it a hat its.toArray
    have ei : i = its.toArray.size := by
      rw [List.size_toArray]
      omega
    subst ei
    exact wpAny_pyNext_enum_endD D he ⟨hit, p⟩ fun h' eb => ⟨rfl, I.turned (t' := s.toks) (fun b o hb q => eb b o hb q) f0 f1 f3 f4 f5⟩
  self := fun A i s Q E st h => let ⟨⟨_, he⟩, _⟩ := st; wpAny_pyIter_enum he h
def iEnumT (K : PySem.W.Frag) (ta : TA) : TI := fun σ H R => ta σ H fun vs H1 => ∃ a xs, vs = [.ref a] ∧ SqT K H1 a xs ∧ R (IteT K a) H1
theorem pi_enumT {X : Cx} {e : Expr} {ta : TA} {p pos tpos : Pos} {elts : List Expr} {kk : Nat} (hg : Gl X "enumerate") (hm : X.mg "enumerate" = none) (ha : PA X [e] ta) (hs : starEach [e] X.env = [(false, eval e X.env)] := by rfl) :
    PI X (.Tuple elts kk tpos) (.Call (.Name "enumerate" p) [e] [] pos) (iEnumT X.K ta) := by
  refine ⟨fun pins s σ H R I h => ?_⟩
  refine Call_ (ld_blt I hg hm boot_enumerate (PyProof.Rows.callWith_type1 (thn (ha.run pos pins s σ H _ I h) fun us s1 ⟨vs, H1, I1, r1, q1⟩ => ?_) hs rfl))
  obtain ⟨a, xs, ex, hq, q⟩ := q1
  subst ex
  cases r1 with
  | cons r rr =>
    cases rr
    cases r
    obtain ⟨its, rv, p', hz⟩ := I1.tuple hq
    refine enum1_begins (begins_tuple a its.toArray) p' fun h' he hit hsz hk => wpAny_pyIter_enum he ?_
    have I2 : Inv X pins σ H1 { s1 with heap := h' } := I1.kept (t' := s1.toks) hk
    refine ⟨s1.heap.objs.size + 1, [s1.heap.objs.size + 1, s1.heap.objs.size], _, _, H1, rfl, I2, turn_enumT a (s1.heap.objs.size + 1) s1.heap.objs.size, ⟨⟨.none, he⟩, ⟨_, hit, rfl, rfl⟩, Nat.succ_ne_self _⟩, fun b hb => ?_, q⟩
    have hle : s1.heap.objs.size ≤ b := by
      rcases (show b = s1.heap.objs.size + 1 ∨ b = s1.heap.objs.size by simpa using hb) with rfl | rfl
      · exact Nat.le_add_right _ _
      · exact Nat.le_refl _
    exact I1.fpOk hle (I1.hok.fresh hle)
/-! ### t[::-1] of a tuple -/
section
variable {prog : Program} {w : World} {A : Around} {E : Value → Shared → Prop} {s : Shared}
theorem places_rev (n : Nat) : Builtin.Slice.slicePlaces ((n : Int) - 1) (-1) (-1) = n := by
  unfold Builtin.Slice.slicePlaces
  rw [if_neg (by decide)]
  split
  · have e : ((n : Int) - 1 - -1 - 1) / (- -1) + 1 = n := by
      rw [show (- -1 : Int) = 1 by decide, Int.ediv_one]
      omega
    rw [e]
    omega
  · omega
theorem pick_rev (xs : Array Value) : ((List.range xs.size).filterMap fun (k : Nat) => xs[((xs.size : Int) - 1 + (k : Int) * (-1)).toNat]?).toArray = xs.toList.reverse.toArray := by
  have h := PySem.W.krv_pick xs
  rw [← h]
  unfold slicePick
  rw [PySem.W.krv_bounds]
  show _ = ((sliceRange ((xs.size : Int) - 1) (-1) (-1)).filterMap (xs[·]?)).toArray
  rw [PySem.W.krv_sliceRange, List.filterMap_map]
  congr 1
  have go : ∀ l : List Nat, (∀ k ∈ l, k < xs.size) → l.filterMap (fun (k : Nat) => xs[((xs.size : Int) - 1 + (k : Int) * (-1)).toNat]?) = l.filterMap ((fun x => xs[x]?) ∘ fun k => xs.size - 1 - k) := by
    intro l
    induction l with
    | nil => intro _; rfl
    | cons k l ih =>
      intro h
      have hk := h k List.mem_cons_self
      have e : ((xs.size : Int) - 1 + (k : Int) * (-1)).toNat = xs.size - 1 - k := by omega
      rw [List.filterMap_cons, List.filterMap_cons, e, ih fun x hx => h x (List.mem_cons_of_mem _ hx)]
      rfl
  exact go _ fun k hk => List.mem_range.mp hk
theorem getItem_rev {t sl : Addr} {items : Array Value} {vl vu vs : Value} {Q : Value → Shared → Prop} (ht : IsTup s.heap t items) (hs : s.heap.IsSliceOf sl vl vu vs) (pl : IsPart vl none) (pu : IsPart vu none) (ps : IsPart vs (some (-1)))
    (h : Q (.ref s.heap.objs.size) { s with heap := s.heap.push { cls := .type "tuple", data := .seq items.toList.reverse.toArray } }) (hsz : items.size ≤ sizeLine) : wpAny (model prog w) A (getItem (.ref t) (.ref sl)) Q E s := by
  have hok : sizeOk (.seq items.toList.reverse.toArray) := by
    show items.toList.reverse.toArray.size ≤ sizeLine
    rw [List.size_toArray, List.length_reverse, Array.length_toList]
    exact hsz
  obtain ⟨os, hos, hcs, hds⟩ := id hs
  have hTs : s.TypeIs (.ref sl) "slice" := ⟨os, hos, hcs⟩
  unfold getItem
  try with_reducible refine wpAny_holding ?_
  first | refine wpAny_bind (wpAny_pure ?_) | skip
  refine wpAny_bind (wpAny_sequenceKey ht.typeIs (by decide) ?_)
  refine wpAny_bind (wpAny_callSpecial?_slot (name := Str.ofString "__getitem__") ht.typeIs PyProof.Rows.slot_tuple_getitem
    (wpAny_call_entry PyProof.Rows.slot_tuple_getitem ht.typeIs entry_tuple_getitem ?_ (args_tuple_getitem _ _)))
  show wpAny _ _ (Builtin.Tuple.tupleItemsOf (.ref t) >>= _) _ _ s
  refine wpAny_bind (tupleItemsOf_ ht ?_)
  refine wpAny_bind (wpAny_typeOf hTs ?_)
  rw [if_pos (by decide)]
  have app : ∀ {Q : Int × Int × Nat → Shared → Prop}, Q ((items.size : Int) - 1, -1, items.size) s → wpAny (model prog w) A.in1 (Builtin.Slice.sliceApplied (.ref sl) (pure (items.size : Int))) Q E s := fun {Q} q => by
    unfold Builtin.Slice.sliceApplied Builtin.Slice.sliceFields
    refine wpAny_bind (wpAny_bind (wpAny_field hos hds (x := vl) rfl (wpAny_bind (wpAny_field hos hds (x := vu) rfl (wpAny_bind (wpAny_field hos hds (x := vs) rfl (wpAny_pure ?_)))))))
    refine wpAny_bind (HT.slicePart_ ps ?_)
    show wpAny _ _ (if ((-1 : Int) == 0) = true then _ else _) _ _ s
    rw [if_neg (by decide)]
    refine wpAny_bind (HT.slicePart_ pl (wpAny_bind (HT.slicePart_ pu (wpAny_bind (wpAny_pure ?_)))))
    have e : Builtin.Slice.slicePlaces ((items.size : Int) - 1) (-1) (-1) = items.size := places_rev _
    show wpAny _ _ (pure (((items.size : Int) - 1), (-1 : Int), Builtin.Slice.slicePlaces ((items.size : Int) - 1) (-1) (-1))) _ _ s
    rw [e]
    exact wpAny_pure q
  refine wpAny_bind (app ?_)
  have hno : ¬ ((((items.size : Int) - 1) == 0 && (-1 : Int) == 1 && items.size == items.size) = true) := by
    intro q
    rw [Bool.and_eq_true, Bool.and_eq_true] at q
    exact absurd q.1.2 (by decide)
  show wpAny _ _ (if (((items.size : Int) - 1) == 0 && (-1 : Int) == 1 && items.size == items.size) = true then _ else _) _ _ s
  rw [if_neg hno, pick_rev]
  first
    | exact wpAny_bind (m := Builtin.Tuple.tupleExact _) (wpAny_newObj_type (wpAny_pure ⟨_, rfl, wpAny_pure h⟩) hok)
    | exact wpAny_bind (m := Builtin.Tuple.tupleExact _) (wpAny_newObj_type (wpAny_bind (wpAny_pure (wpAny_pure ⟨_, rfl, wpAny_pure h⟩))) hok)
    | exact wpAny_bind (wpAny_bind (m := Builtin.Tuple.tupleExact _) (wpAny_newObj_type (wpAny_pure (wpAny_pure ⟨_, rfl, wpAny_pure h⟩)) hok))
    | exact wpAny_bind (wpAny_bind (m := Builtin.Tuple.tupleExact _) (wpAny_newObj_type (wpAny_pure ⟨_, rfl, wpAny_pure h⟩) hok))
end
end My
/-! A class made by a star, classmethods, x[k] by an own __getitem__, bool of a tuple, a tuple turned about, enumerate in a for. -/
namespace My
open PySem PySem.Spec PySem.Calls PyProof.Rows L2
/-! ### t[::-1] -/
def tRevT (K : PySem.W.Frag) (te : TE) : TE := fun σ H Q => te σ H fun x H1 => ∃ a xs, x = .ref a ∧ SqT K H1 a xs ∧ ∀ p, H1 p = none → Q (.ref p) (upd H1 p (.tup xs.reverse))
theorem pe_revT {X : Cx} {e : Expr} {te : TE} {k : Nat} {p1 p2 p3 pos : Pos} (he : PE X e te) : PE X (.Subscript e (.Slice none none (some (.UnaryOp .USub (.Constant (.int 1) k p1) p2)) p3) pos) (tRevT X.K te) := by
  refine ⟨fun pins s σ H Q I h => ?_⟩
  refine Subscript_ (thn (he.run pins s σ H _ I h) fun v t1 ⟨x, H1, I1, r1, a, xs, ex, hx, q⟩ => ?_)
  subst ex
  cases r1
  have step : PO X (some (.UnaryOp .USub (.Constant (.int 1) k p1) p2)) (tPart (tUn (rU fun i => .int (-i)) (tC (.int 1)))) := po_some (pe_un un_neg pe_int)
  refine wpAny_Slice (thn (po_none.run pins t1 σ H1 (fun o H2 => o = none ∧ H2 = H1) I1 ⟨rfl, rfl⟩) fun vl t2 ⟨l, H2, I2, pl, el, e2⟩ => ?_)
  subst el e2
  refine thn (po_none.run pins t2 σ H2 (fun o H3 => o = none ∧ H3 = H2) I2 ⟨rfl, rfl⟩) fun vu t3 ⟨u, H3, I3, pu, eu, e3⟩ => ?_
  subst eu e3
  refine thn (step.run pins t3 σ H3 (fun o H4 => o = some (-1) ∧ H4 = H3) I3 ⟨1, rfl, -1, rfl, rfl, rfl⟩) fun vs t4 ⟨o, H4, I4, ps, eo, e4⟩ => ?_
  subst eo e4
  have I5 : Inv X pins σ H4 { t4 with heap := t4.heap.push { cls := .type "slice", data := .fields #[vl, vu, vs] } } := I4.kept (t' := t4.toks) fun b ob q => Heap.get?_push_of_some _ q
  obtain ⟨its, r, ht, hz⟩ := I5.tuple hx
  have hlen := r.length
  show wpAny (model X.prog X.w) X.A (subscriptTail e (.Slice none none (some (.UnaryOp .USub (.Constant (.int 1) k p1) p2)) p3) (.ref a) (.ref t4.heap.objs.size)) (EP X pins σ Q) X.xe { t4 with heap := t4.heap.push { cls := .type "slice", data := .fields #[vl, vu, vs] } }
  refine tail_any (ops := [.ref a, .ref t4.heap.objs.size]) ht.typeIs (PyProof.Rows.slot_tuple_getitem.lookup) ?_ (by with_unfolding_all rfl)
  refine getItem_rev ht (Heap.IsSliceOf.new _ vl vu vs) pl pu ps ?_ (by rw [List.size_toArray]; omega)
  refine ⟨.ref _, _, I5.laid (t' := t4.toks) (o := .tup xs.reverse) (fun b ob q => Heap.get?_push_of_some _ q) (Nat.le_refl _) ?_, rfl, q _ (I5.hok.fresh (Nat.le_refl _))⟩
  exact ⟨by rw [List.length_reverse]; exact hz, _, r.reverse, ⟨_, Heap.get?_push_size _ rfl, rfl, _, rfl⟩⟩
/-! ### bool(t) -/
section
variable {prog : Program} {w : World} {A : Around} {E : Value → Shared → Prop} {s : Shared}
theorem bool_tup {t : Addr} {items : Array Value} {Q : Value → Shared → Prop} (hfit : (items.size : Int) < 2 ^ 63) (ht : IsTup s.heap t items) (h : ∀ tk, Q (.bool (!items.isEmpty)) { s with toks := tk }) : wpAny (model prog w) A (call (.type "bool") [.ref t]) Q E s := by
  refine callType_codes (T := "bool") (Bi := Builtin.«object.__init__») (Q₁ := fun r s' => ∃ b, r = .bool b ∧ Q r s') PySem.F.called_bool (PySem.F.typeCall_bool_1 _) PySem.F.entry_object_init ?_ ?_
  · refine codeAny_of_tree ?_
    show wpAny _ A.in1.in1 (do checkBuiltinCall "bool.__new__" ⟨[.type "bool", .ref t], []⟩; again (.builtin "bool.__new__" ⟨[.type "bool", .ref t], []⟩)) _ _ s
    refine wpAny_bind (wpAny_of_eq (PySem.F.newCall_bool_1 _) (wpAny_pure ⟨plainId_quiet (by decide +kernel) _, codeAny_builtin PySem.F.entry_bool_new ?_⟩))
    rw [Around.under_plainId (by decide +kernel) _]
    unfold Builtin.«bool.__new__»
    have f1 := PySem.F.conv_sub_bool
    have go : wpAny (model prog w) A.in1.in1 (truthy (.ref t)) (fun b s' => Q (.bool b) s') E s := truthy_tuple ht hfit (h _)
    refine wpAny_bind (m := isType (.type "bool")) (wpAny_pure ?_)
    refine wpAny_bind (m := isSubtype (.type "bool") (.type "bool")) (wpAny_of_eq f1 ?_)
    refine wpAny_bind (wpAny_pure ?_)
    refine wpAny_bind (m := truthy (.ref t)) (wpAny_mono go (fun b s' hq => ?_) fun _ _ y => y)
    exact wpAny_pure ⟨b, rfl, hq⟩
  · rintro obj s' ⟨b, rfl, hq⟩
    exact ⟨PySem.typeIs_bool _ _, PySem.F.args_object_init_2 _ _, object_init_meets PySem.F.called_bool.init.lookup PySem.F.called_bool.made (by decide) prog w A.in1 _ s' ⟨PySem.typeIs_bool _ _, rfl, hq⟩⟩
end
theorem call_boolT {X : Cx} : CallR X (.type "bool") (fun xs H Q => ∃ (a : Addr) (zs : List V), xs = [.ref a] ∧ SqT X.K H a zs ∧ Q (.bl (!zs.isEmpty)) H) := by
  intro pins s σ H xs us Q I r h
  obtain ⟨a, zs, rfl, hq, q⟩ := h
  obtain rfl := Vals.ref1 r
  obtain ⟨its, rv, pl, hz⟩ := I.tuple hq
  have hl := line63
  have hlen := rv.length
  refine bool_tup (by simp only [List.size_toArray]; omega) pl fun tk => ?_
  exact ⟨.bl (!zs.isEmpty), H, I.tok _, by rw [isEmpty_of rv]; rfl, q⟩
/-! ### a class whose __init__ takes a star -/
structure MakeR (P : Program) (w : World) (K : PySem.W.Frag) (mg : Str → Option Value) (base : Heap) (CX : CXT) (k : Nat) (x : Str) (C : Addr) (sp : Sp) : Prop where
  ex : ∃ f, Mk K C f ∧ FnR P w K mg base CX k f sp ∧ mg x = some (.ref C)
section
variable {X : Cx} {CX : CXT} {k : Nat} {C : Addr} {sp : Sp} {E : XK} {x : Str} {e : Expr} {es : List Expr} {te : TE} {t : TA} {p sp_ pos : Pos}
theorem pe_mkR (M : MakeR X.prog X.w X.K X.mg X.base CX k x C sp) (hr : Room (k + 1) X.A) (hg : Gl X x) (hx : Passes CX X E) (ha : PA X (e :: es) t) (hdb : (x == ("__debug__" : Str)) = false := by decide)
    (he : starEach (e :: es) X.env = (false, eval e X.env) :: starEach es X.env := by rfl) (hpl : (backTo pos (starEach es X.env)).any (·.1) = false := by rfl) : PE X (.Call (.Name x p) (e :: es) [] pos) (StX.tMakeR C sp E t) := by
  obtain ⟨f, mk, F, hm⟩ := M.ex
  exact StX.pe_makeR mk F hr hg hm hx ha hdb he hpl
/-- C() -/
theorem pe_mkR0 (M : MakeR X.prog X.w X.K X.mg X.base CX k x C sp) (hr : Room (k + 1) X.A) (hg : Gl X x) (hx : Passes CX X E) (hdb : (x == ("__debug__" : Str)) = false := by decide) : PE X (.Call (.Name x p) [] [] pos) (StX.tMakeR C sp E tNil) := by
  obtain ⟨f, mk, F, hm⟩ := M.ex
  refine ⟨fun pins s σ H Q I h => ?_⟩
  refine wpAny_Call_Name_kw (ld_glob I hg hm ?_ hdb)
  refine PySem.W.callWith_K0 (first := []) I.kIn mk.kp ?_
  exact StX.run_makeR mk F hr hx I .nil h
/-- C(*e) -/
def tMakeS (K : PySem.W.Frag) (C : Addr) (sp : Sp) (E : XK) (te : TE) : TE := fun σ H Q => te σ H fun y H1 => ∃ a xs, y = V.ref a ∧ (SqT K H1 a xs ∨ SqL K H1 a xs) ∧ ∀ x dx, H1 x = none → H1 dx = none → dx ≠ x →
  sp (V.ref x :: xs) (upd (upd H1 dx (.own x)) x (.ins C dx [])) (fun v H2 => v = .non ∧ Q (.ref x) H2) E
theorem pe_mkS (M : MakeR X.prog X.w X.K X.mg X.base CX k x C sp) (hr : Room (k + 1) X.A) (hg : Gl X x) (hx : Passes CX X E) (he : PE X e te) (hdb : (x == ("__debug__" : Str)) = false := by decide)
    (hst : starEach [.Starred e sp_] X.env = [(true, eval e X.env)] := by rfl) : PE X (.Call (.Name x p) [.Starred e sp_] [] pos) (tMakeS X.K C sp E te) := by
  obtain ⟨f, mk, F, hm⟩ := M.ex
  refine ⟨fun pins s σ H Q I h => ?_⟩
  refine wpAny_Call_Name_kw (ld_glob I hg hm ?_ hdb)
  refine PySem.W.callWith_S (h₀ := X.base) I.ok.mod.kin mk.kp (thn (he.run pins s σ H _ I h) fun v t1 ⟨y, H1, I1, ry, a, xs, ey, hxs, q⟩ => ?_) hst
  subst ey
  obtain rfl : v = Value.ref a := ry
  exact StX.star_any I1 hxs fun us t2 I2 rv => ⟨I2.kIn, StX.run_makeR mk F hr hx I2 rv q⟩
end
/-! ### classmethods -/
theorem fnR_of {P : Program} {w : World} {K : PySem.W.Frag} {mg : Str → Option Value} {base : Heap} {CX : CXT} {k : Nat} {f : Addr} {fd : FuncData} {ps : List Str} {sp : Sp} (F : FnOk P w K mg base CX k f fd ps sp) (b : L2.Binds K fd ps []) : FnR P w K mg base CX k f sp := by
  intro A outer s H us vs Q E hr e0 r hsp
  have hl : (us ++ []).length = ps.length := by
    rw [List.append_nil, ← r.length]
    exact F.len _ _ _ _ hsp
  have hb := b s us (e0.mod.kin.keeps fun b o e => (e0.bs b o e).1) hl
  rw [List.append_nil] at hb
  exact F.run A outer s H ⟨us, []⟩ us vs Q E hr e0 hb r hsp
structure ClsAt (P : Program) (w : World) (K : PySem.W.Frag) (mg : Str → Option Value) (base : Heap) (CX : CXT) (k : Nat) (C : Addr) (m : Str) (sp : Sp) : Prop where
  ex : ∃ mc p g, ClX.CRead K C mc ∧ ClX.CMet K C mc m p g ∧ FnR P w K mg base CX k g sp
theorem pe_cm {X : Cx} {CX : CXT} {k : Nat} {C : Addr} {sp : Sp} {E : XK} {o e : Expr} {es : List Expr} {m : Str} {pos apos : Pos} {ta : TE} {t : TA} {pl : Sem Bool} (M : ClsAt X.prog X.w X.K X.mg X.base CX k C m sp) (hr : Room k X.A) (hx : Passes CX X E) (he : PE X o ta) (ha : PA X (e :: es) t)
    (hst : starEach (e :: es) X.env = (false, eval e X.env) :: starEach es X.env := by rfl) (hpl : (backTo pos (starEach es X.env)).any (·.1) = false := by rfl)
    (ht : eval (.Call (.Attribute o m apos) (e :: es) [] pos) X.env = (do
      let ov ← eval o X.env
      standAt apos.atName
      let (f, first) ← holding [ov] (getMethod ov m pl)
      callWith pos f first (backTo pos (starEach (e :: es) X.env)) (backToKw pos (keywordEach [] X.env))) := by rfl) :
    PE X (.Call (.Attribute o m apos) (e :: es) [] pos) (ClX.tCMeth C sp E ta t) := by
  obtain ⟨mc, p, g, r, c, F⟩ := M.ex
  exact ClX.pe_cmeth he r c F hr hx ha hst hpl ht
/-! ### x[k] by an own __getitem__ -/
structure GetAt (P : Program) (w : World) (K : PySem.W.Frag) (mg : Str → Option Value) (base : Heap) (CX : CXT) (k : Nat) (C : Addr) (ps : List Str) (sp : Sp) : Prop where
  ex : ∃ f fd, PySem.W.findIn K (.ref C) "__getitem__" = some (some (.ref f)) ∧ PySem.W.isFn K (.ref f) = true ∧ PySem.W.fnIn K f = true ∧ FnOk P w K mg base CX k f fd ps sp ∧ L2.Binds K fd ps []
def tGet (C : Addr) (sp : Sp) (E : XK) (ta tb : TE) : TE := fun σ H Q => ta σ H fun x H1 => tb σ H1 fun y H2 => ∃ a dx fs, x = .ref a ∧ H2 a = some (.ins C dx fs) ∧ sp [x, y] H2 Q E
theorem pe_get {X : Cx} {CX : CXT} {k : Nat} {C : Addr} {ps : List Str} {sp : Sp} {E : XK} {a b : Expr} {ta tb : TE} {pos : Pos} (M : GetAt X.prog X.w X.K X.mg X.base CX k C ps sp) (hr : Room (k + 1) X.A) (hx : Passes CX X E) (ha : PE X a ta) (hb : PE X b tb)
    (hsl : ∀ (x : Addr) (i : Value), subscripted b true (.ref x) i = runValue (.builtin "lifetime.subscript" ⟨[.ref x, i], []⟩) := by intro _ _; with_unfolding_all rfl) : PE X (.Subscript a b pos) (tGet C sp E ta tb) := by
  obtain ⟨f, fd, hs, hf, hfn, F, hbd⟩ := M.ex
  refine ⟨fun pins s σ H Q I h => ?_⟩
  refine Subscript_ (binT ha hb I h fun v u s2 x y H2 I2 rx ry q => ?_)
  obtain ⟨p, dx, fs, rfl, hp, hsp⟩ := q
  obtain rfl : v = Value.ref p := rx
  obtain ⟨ox, od, J, _⟩ := ins_plain I2 hp
  obtain ⟨m', hF⟩ := I2.fr
  have U : Und X k X.A.in1 := (Und.here hr).in1
  exact PySem.W.sub_K hF I2.ok.mod.kin J hs hfn hf (run_at (vs := [.ref p, y]) F hbd hx U I2 (.cons rfl (.cons ry .nil)) hsp) (hsl _ _)
end My
/-! A class made by a star, a classmethod, an own __getitem__, from what the top finds. -/
namespace My
open PySem PySem.Spec PyProof.Rows L2
theorem nm_at : Sup.Nm "at" := ⟨by decide, by decide, by decide, by decide, fun _ _ _ _ _ _ _ _ _ _ _ _ => rfl⟩
theorem nm_value : Sup.Nm "value" := ⟨by decide, by decide, by decide, by decide, fun _ _ _ _ _ _ _ _ _ _ _ _ => rfl⟩
structure HasCM (K : PySem.W.Frag) (C : Addr) (m qual : Str) (st : Stmt) : Prop where
  ex : ∃ mc p g fd, ClX.CRead K C mc ∧ ClX.CMet K C mc m p g ∧ Fun K m qual st g fd
section
variable {P : Program} {w : World} {K : PySem.W.Frag} {mg : Str → Option Value} {base : Heap} {CX : CXT} {k : Nat} {x m qual : Str} {st : Stmt} {ps ks : List Str} {sp : Sp} {C : Addr}
theorem makeR_at (A : HasM K C "__init__" qual st) (hx : mg x = some (.ref C)) (mk : PySem.W.makesIn K C = true) (kp : PySem.W.keepIn K (.ref C) = true)
    (ok : ∀ (f : Addr) (oc : Value) (od : Option Addr) (kV doc pm : Value) (an : Option Addr) (cdv ct : Value) (osl : Array (Option Value)), K.lookup f = some ⟨oc, od, .func (PySem.W.fnOf "__init__" qual (defArgs st) (defBody st) (defScope st) .none kV doc pm an cdv ct), osl⟩ → PySem.W.codeIn K cdv qual = true → FnR P w K mg base CX k f sp) : MakeR P w K mg base CX k x C sp := by
  obtain ⟨f, fd, h1, h2, F⟩ := A.ex
  obtain ⟨oc, od, kV, doc, pm, an, cdv, ct, osl, rfl, lk, hcd⟩ := F.ex
  exact ⟨f, ⟨mk, h1, h2, kp⟩, ok f _ _ _ _ _ _ _ _ _ lk hcd, hx⟩
theorem cls_at (A : HasCM K C m qual st) (ok : ∀ f fd, Fun K m qual st f fd → FnOk P w K mg base CX k f fd ps sp) (b : BindW m qual st ps) : ClsAt P w K mg base CX k C m sp := by
  obtain ⟨mc, p, g, fd, h1, h2, F⟩ := A.ex
  exact ⟨mc, p, g, h1, h2, fnR_of (ok g fd F) (F.binds b)⟩
theorem get_at (A : HasM K C "__getitem__" qual st) (ok : ∀ f fd, Fun K "__getitem__" qual st f fd → FnOk P w K mg base CX k f fd ps sp) (b : BindW "__getitem__" qual st ps) : GetAt P w K mg base CX k C ps sp := by
  obtain ⟨f, fd, h1, h2, F⟩ := A.ex
  have F' := F
  obtain ⟨oc, od, kV, doc, pm, an, cdv, ct, osl, rfl, lk, _⟩ := id F.ex
  refine ⟨f, _, h1, h2, ?_, ok f _ F', F'.binds b⟩
  unfold PySem.W.fnIn
  rw [lk]
end
end My
/-! Values of other kinds, ints shown, what stays where the pen and the tables change. -/
namespace My
open PySem PySem.Spec PyProof.Rows L2
/-! ### values of other kinds -/
/-- the built-in kind of a value -/
inductive Ty0 (H : Hp) : V → String → Prop where
  | non : Ty0 H .non "NoneType"
  | bl (b : Bool) : Ty0 H (.bl b) "bool"
  | int (i : Int) : Ty0 H (.int i) "int"
  | str (x : Str) : Ty0 H (.str x) "str"
  | lst {a : Addr} {xs : List V} (e : H a = some (.lst xs)) : Ty0 H (.ref a) "list"
  | tup {a : Addr} {xs : List V} (e : H a = some (.tup xs)) : Ty0 H (.ref a) "tuple"
  | dK {a : Addr} {kvs : List (Key × V)} (e : H a = some (.dK kvs)) : Ty0 H (.ref a) "dict"
theorem Ty0.tyx {K : PySem.W.Frag} {H : Hp} {v : V} {t : String} (h : Ty0 H v t) : TyX K H v (.type t) := by
  cases h with
  | non => exact .base .non
  | bl b => exact .base (.bl b)
  | int i => exact .base (.int i)
  | str x => exact .base (.str x)
  | lst e => exact .base (.lst e)
  | tup e => exact .base (.tup e)
  | dK e => exact .base (.dK e)
def isI : V → Bool
  | .int _ => true
  | _ => false
theorem isI_int {v : V} (h : isI v = true) : ∃ i, v = .int i := by
  cases v with
  | int i => exact ⟨i, rfl⟩
  | _ => cases h
def isT (t : String) : Bool := t == "int"
theorem Ty0.isI {H : Hp} {v : V} {t : String} (h : Ty0 H v t) : My.isI v = isT t := by cases h <;> rfl
theorem Ty0.kint {K : PySem.W.Frag} {H : Hp} {v : V} {t : String} (h : Ty0 H v t) : ∃ b, PySem.W.kitOne K (.type t) (.type "int") = some b ∧ (b = true → ∃ c, PySem.W.kitOne K (.type t) (.type "bool") = some c ∧ My.isI v = !c) ∧ (b = false → My.isI v = false) := by
  cases h with
  | non => exact ⟨false, kit_ty (by decide +kernel), (fun z => Bool.noConfusion z), fun _ => rfl⟩
  | bl b => exact ⟨true, kit_ty (by decide +kernel), fun _ => ⟨true, kit_ty (by decide +kernel), rfl⟩, (fun z => Bool.noConfusion z)⟩
  | int i => exact ⟨true, kit_ty (by decide +kernel), fun _ => ⟨false, kit_ty (by decide +kernel), rfl⟩, (fun z => Bool.noConfusion z)⟩
  | str x => exact ⟨false, kit_ty (by decide +kernel), (fun z => Bool.noConfusion z), fun _ => rfl⟩
  | lst e => exact ⟨false, kit_ty (by decide +kernel), (fun z => Bool.noConfusion z), fun _ => rfl⟩
  | tup e => exact ⟨false, kit_ty (by decide +kernel), (fun z => Bool.noConfusion z), fun _ => rfl⟩
  | dK e => exact ⟨false, kit_ty (by decide +kernel), (fun z => Bool.noConfusion z), fun _ => rfl⟩
theorem Ty0.keep {H H' : Hp} {v : V} {t : String} (h : Ty0 H v t) (k : ∀ b o, H b = some o → (∀ p, v = .ref p → p = b → H' b = some o)) : Ty0 H' v t := by
  cases h with
  | non => exact .non
  | bl b => exact .bl b
  | int i => exact .int i
  | str x => exact .str x
  | lst e => exact .lst (k _ _ e _ rfl rfl)
  | tup e => exact .tup (k _ _ e _ rfl rfl)
  | dK e => exact .dK (k _ _ e _ rfl rfl)
theorem Ty0.same {H H' : Hp} {v : V} {t : String} (h : Ty0 H v t) (k : Same H H') : Ty0 H' v t := h.keep fun b o e _ _ _ => k b o e
theorem same_new {H : Hp} {p : Addr} {o : HO} (h : H p = none) : Same H (upd H p o) := fun b u e => by rw [upd_ne (ne_of_none e h)]; exact e
/-- a value of a built-in kind, or an instance of the class at C -/
def TyL (C : Addr) (H : Hp) (v : V) : Prop := (∃ t, Ty0 H v t) ∨ ∃ a dx fs, v = .ref a ∧ H a = some (.ins C dx fs)
theorem TyL.same {C : Addr} {H H' : Hp} {v : V} (h : TyL C H v) (k : Same H H') : TyL C H' v := by
  rcases h with ⟨t, h⟩ | ⟨a, dx, fs, e, h⟩
  · exact .inl ⟨t, h.same k⟩
  · exact .inr ⟨a, dx, fs, e, k _ _ h⟩
theorem TyL.int (C : Addr) (H : Hp) (i : Int) : TyL C H (.int i) := .inl ⟨_, .int i⟩
theorem pen_ne {H : Hp} {pn l : Addr} {n : Nat} (hp : PenAt H pn n) (hl : H l = none) : l ≠ pn := by
  obtain ⟨cl, ns, a, r, g1, _⟩ := hp
  exact (ne_of_none g1 hl).symm
theorem but_same {pn : Addr} {H H' : Hp} (s : Same H H') : But pn H H' := fun b o e _ => s b o e
theorem pen_same {pn : Addr} {H H' : Hp} {n : Nat} (hp : PenAt H pn n) (k : Same H H') : PenAt H' pn n := by
  obtain ⟨cl, ns, a, r, g1, g2, g3⟩ := hp
  exact ⟨cl, ns, a, r, k _ _ g1, k _ _ g2, g3⟩
theorem mem_ints {v : V} {zs : List Int} (h : v ∈ zs.map V.int) : ∃ z, v = .int z ∧ z ∈ zs := by
  obtain ⟨z, hz, e⟩ := List.mem_map.mp h
  exact ⟨z, e.symm, hz⟩
theorem num_len {i : Int} (h : i.natAbs.log2 < 1920) : ((toString i : String) : Str).length ≤ 1921 := by
  have e := int_text_length_le (k := 1920) (by decide) h
  show (Str.ofString (toString i)).length ≤ 1921
  rw [PySem.ofString_length]
  exact e
theorem app_len (x y : Str) : (x ++ y).length = x.length + y.length := PySem.Str.length_append x y
/-- an int of less than 300 bits -/
def Sm (z : Int) : Prop := z.natAbs < 2 ^ 300
theorem Sm.mul {a b : Int} {i j : Nat} (ha : a.natAbs < 2 ^ i) (hb : b.natAbs < 2 ^ j) (h0 : 0 < i := by decide) (h1 : 0 < j := by decide) (h : i + j ≤ 1000000 := by decide) : CMulW a b := wide_mul ha hb h0 h1 h
theorem Sm.log {z : Int} (h : Sm z) : z.natAbs.log2 < 1920 := Nat.lt_of_lt_of_le (PySem.Flt.log2_lt_of (k := 300) (by decide) h) (by decide)
theorem shown_sum : ∀ (ns : List Int), (∀ z ∈ ns, z.natAbs.log2 < 1920) → ((PyData.shownAll (ns.map PyData.int)).map (·.length)).sum ≤ 1921 * ns.length ∧ (PyData.shownAll (ns.map PyData.int)).length = ns.length
  | [], _ => ⟨Nat.le_refl _, rfl⟩
  | n :: ns, h => by
    obtain ⟨h1, h2⟩ := shown_sum ns fun z hz => h z (List.mem_cons_of_mem _ hz)
    have e2 := num_len (h n List.mem_cons_self)
    refine ⟨?_, ?_⟩
    · show ((toString n : String) : Str).length + ((PyData.shownAll (ns.map PyData.int)).map (·.length)).sum ≤ 1921 * (ns.length + 1)
      omega
    · show (PyData.shownAll (ns.map PyData.int)).length + 1 = ns.length + 1
      omega
theorem showable_ints : ∀ (ns : List Int), (∀ z ∈ ns, z.natAbs.log2 < 1920) → PyData.showableAll (ns.map PyData.int) = true
  | [], _ => rfl
  | n :: ns, h => by
    show (decide (n.natAbs.log2 < 1920) && PyData.showableAll (ns.map PyData.int)) = true
    rw [showable_ints ns fun z hz => h z (List.mem_cons_of_mem _ hz), decide_eq_true (h n List.mem_cons_self)]
    rfl
/-- a list of ints shown -/
theorem ints_show {K : PySem.W.Frag} {H : Hp} {l : Addr} (ns : List Int) (hz : ∀ z ∈ ns, z.natAbs.log2 < 1920) (hl : ns.length ≤ 1000) (h : H l = some (.lst (ns.map V.int))) : Dr K H (.ref l) (.list (ns.map PyData.int)) ∧ (PyData.list (ns.map PyData.int)).showable = true ∧ (PyData.list (ns.map PyData.int)).depth ≤ 60 ∧ (PyData.list (ns.map PyData.int)).shown.length ≤ sizeLine := by
  refine ⟨.inl (.lst (SqL.of h) (dp_ints ns)), showable_ints ns hz, ?_, ?_⟩
  · show PyData.depthAll (ns.map PyData.int) + 1 ≤ 60
    rw [dep_ints]
    decide
  · have h1 := listText_len_le (PyData.shownAll (ns.map PyData.int))
    obtain ⟨h2, h3⟩ := shown_sum ns hz
    show (listText (PyData.shownAll (ns.map PyData.int))).length ≤ sizeLine
    rw [sizeLine_eq]
    omega
theorem yes_go {σ : L2.St} {H : Hp} {A B : Hp → Prop} (h : A H) : tYes σ H (fun b H3 => if b = true then A H3 else B H3) := by
  show (if true = true then A H else B H)
  rw [if_pos rfl]
  exact h
theorem take1 {α : Type} {ls : List α} {i : Nat} {y : α} (h : ls[i]? = some y) : ls.take (i + 1) = ls.take i ++ [y] := by rw [List.take_add_one, h]; rfl
theorem at_int {ls : List Int} {i : Nat} {v : V} (h : (ls.map V.int)[i]? = some v) : ∃ y, ls[i]? = some y ∧ v = .int y := by
  rw [List.getElem?_map] at h
  cases e : ls[i]? with
  | none => rw [e] at h; cases h
  | some y => rw [e] at h; cases h; exact ⟨y, rfl, rfl⟩
/-! ### tables of code objects, the pen, and all else -/
/-- all but the pen and the tables stays, the tables are tables -/
structure Kp (pn : Addr) (TS : List (Addr × Str)) (H H' : Hp) : Prop where
  keep : ∀ b o, H b = some o → b ≠ pn → (∀ ps, o ≠ .tbl ps) → H' b = some o
  tabs : LamX.Tabs TS H'
theorem Kp.trans {pn : Addr} {TS : List (Addr × Str)} {H H1 H2 : Hp} (a : Kp pn TS H H1) (b : Kp pn TS H1 H2) : Kp pn TS H H2 := ⟨fun c o h n m => b.keep c o (a.keep c o h n m) n m, b.tabs⟩
theorem tabs_but {pn : Addr} {TS : List (Addr × Str)} {H H' : Hp} {n : Nat} (t : LamX.Tabs TS H) (hp : PenAt H pn n) (k : But pn H H') : LamX.Tabs TS H' := fun p hp' => by
  obtain ⟨ps, h1, h2, h3⟩ := t p hp'
  obtain ⟨cl, ns, a, r, g1, _⟩ := hp
  refine ⟨ps, k _ _ h1 (ne_of h1 g1 (by intro z; cases z)), h2, fun pos cv hc => ?_⟩
  obtain ⟨c, e1, e2⟩ := h3 pos cv hc
  exact ⟨c, e1, k _ _ e2 (ne_of e2 g1 (by intro z; unfold LamX.CodeO at z; cases z))⟩
theorem Kp.but {pn : Addr} {TS : List (Addr × Str)} {H H' : Hp} {n : Nat} (t : LamX.Tabs TS H) (hp : PenAt H pn n) (k : But pn H H') : Kp pn TS H H' := ⟨fun b o h nb _ => k b o h nb, tabs_but t hp k⟩
theorem Kp.same {pn : Addr} {TS : List (Addr × Str)} {H H' : Hp} (t : LamX.Tabs TS H) (k : Same H H') : Kp pn TS H H' := ⟨fun b o h _ _ => k b o h, t.ext k⟩
theorem Kp.ext {pn : Addr} {TS : List (Addr × Str)} {H H' : Hp} (t : LamX.Tabs TS H') (k : LamX.ExtN H H') : Kp pn TS H H' := ⟨fun b o h _ m => k b o h m, t⟩
theorem pen_ext {pn : Addr} {H H' : Hp} {n : Nat} (hp : PenAt H pn n) (k : LamX.ExtN H H') : PenAt H' pn n := by
  obtain ⟨cl, ns, a, r, g1, g2, g3⟩ := hp
  exact ⟨cl, ns, a, r, k _ _ g1 (by intro ps z; cases z), k _ _ g2 (by intro ps z; cases z), g3⟩
/-- a def whose code object stands at c -/
structure FunC (K : PySem.W.Frag) (x qual : Str) (st : Stmt) (f : Addr) (fd : FuncData) (c : Addr) : Prop where
  ex : ∃ (oc : Value) (od : Option Addr) (kV doc pm : Value) (an : Option Addr) (ct : Value) (osl : Array (Option Value)),
    fd = PySem.W.fnOf x qual (defArgs st) (defBody st) (defScope st) .none kV doc pm an (.ref c) ct ∧ K.lookup f = some ⟨oc, od, .func fd, osl⟩ ∧ PySem.W.codeIn K (.ref c) qual = true
  kp : PySem.W.keepIn K (.ref f) = true
theorem okGc {P : Program} {w : World} {K : PySem.W.Frag} {mg : Str → Option Value} {base : Heap} {x qual : Str} {st : Stmt} {f c : Addr} {fd : FuncData} {N ps : List Str} {k : Nat} {sp : Sp} (F : FunC K x qual st f fd c) (S : FnScope N ps (defScope st)) (len : ∀ vs H Q E, sp vs H Q E → vs.length = ps.length)
    (hbody : ∀ (A : Around) (outer : List Env) (s : Shared) (H : Hp) (vs : List V) (Q : VK) (E : XK), A.guards = some [] → Room k (A.deeper (envOfC qual (defScope st) s.heap.objs.size f (.ref c))) → sp vs H Q E →
      ∃ t, PSs (cxOf CX0 P w K mg base N qual (defScope st) f (.ref c) A outer s H E).nox (defBody st) t ∧ t { nx := fun _ H' => Q .non H', rt := Q } (start N vs) H) : FnG P w K mg base CX0 (k + 1) f fd ps sp := by
  obtain ⟨oc, od, kV, doc, pm, an, ct, osl, rfl, lk, hcd⟩ := F.ex
  refine ⟨len, fun A outer s H args us vs Q E hg hr e0 hb r hsp => LamX.run_ofS lk hcd S hr e0 hb r (len _ _ _ _ hsp) fun hr' => ?_⟩
  obtain ⟨t, h, q⟩ := hbody A outer s H vs Q E hg hr' hsp
  exact ⟨t, h.nox, q⟩
theorem ty_ext {H H' : Hp} {v : V} {t : String} (h : Ty0 H v t) (k : LamX.ExtN H H') : Ty0 H' v t := by
  cases h with
  | non => exact .non
  | bl b => exact .bl b
  | int i => exact .int i
  | str x => exact .str x
  | lst e => exact .lst (k _ _ e (by intro ps z; cases z))
  | tup e => exact .tup (k _ _ e (by intro ps z; cases z))
  | dK e => exact .dK (k _ _ e (by intro ps z; cases z))
theorem ext_same {H H' : Hp} (s : Same H H') : LamX.ExtN H H' := fun b o h _ => s b o h
theorem ext_put {Ha Hx : Hp} {lh : Addr} {o : HO} (n : Ha lh = none) (x : LamX.ExtN Ha Hx) : LamX.ExtN Ha (upd Hx lh o) := fun b u e m => by
  rw [upd_ne (ne_of_none e n)]
  exact x b u e m
theorem tabs_put {TS : List (Addr × Str)} {H : Hp} {lh : Addr} {xs : List V} {o : HO} (t : LamX.Tabs TS H) (h : H lh = some (.lst xs)) : LamX.Tabs TS (upd H lh o) := fun p hp => by
  obtain ⟨ps, h1, h2, h3⟩ := t p hp
  refine ⟨ps, by rw [upd_ne (ne_of h1 h (by intro z; cases z))]; exact h1, h2, fun pos cv hc => ?_⟩
  obtain ⟨c, e1, e2⟩ := h3 pos cv hc
  exact ⟨c, e1, by rw [upd_ne (ne_of e2 h (by intro z; unfold LamX.CodeO at z; cases z))]; exact e2⟩
theorem TyL.ext {C : Addr} {H H' : Hp} {v : V} (h : TyL C H v) (k : LamX.ExtN H H') : TyL C H' v := by
  rcases h with ⟨t, h⟩ | ⟨a, dx, fs, e, h⟩
  · exact .inl ⟨t, ty_ext h k⟩
  · exact .inr ⟨a, dx, fs, e, k _ _ h (by intro ps z; cases z)⟩
end My
namespace My
open PySem PySem.Spec PyProof.Rows L2
def topS (i : Nat) : Stmt := PySem.Challenge.pw_clipfades_k05_polys_made.main.body.getD i (.Pass ⟨0, 0, 0, 0⟩)
abbrev s_pen : Stmt := topS 28
abbrev s_draw : Stmt := topS 29
abbrev s_pick : Stmt := topS 30
theorem sc_pen : FnScope ["_law_script"] ["_law_script"] (defScope s_pen) := ⟨rfl, rfl, rfl, by decide +kernel, rfl, by decide +kernel, by decide +kernel⟩
theorem sc_draw : FnScope ["_law_pen_here", "_law_many", "_law_digit", "_law_begun", "_law_cell", "_law_great", "_law_mixed"] ["_law_pen_here", "_law_many"] (defScope s_draw) := ⟨rfl, rfl, rfl, by decide +kernel, rfl, by decide +kernel, by decide +kernel⟩
theorem sc_pick : FnScope ["_law_pen_here", "_law_some"] ["_law_pen_here", "_law_some"] (defScope s_pick) := ⟨rfl, rfl, rfl, by decide +kernel, rfl, by decide +kernel, by decide +kernel⟩
/-- the pen, its cells at cl -/
def PenC (H : Hp) (pn cl : Addr) (n : Nat) : Prop := ∃ (ns : List Int) (at_ rest : Int), H pn = some (.lst [.ref cl, .int at_, .int rest]) ∧ H cl = some (.lst (ns.map V.int)) ∧ ns.length ≤ 63 ∧ 0 ≤ at_ ∧ at_ ≤ n
theorem PenC.pen {H : Hp} {pn cl : Addr} {n : Nat} (h : PenC H pn cl n) : PenAt H pn n := by
  obtain ⟨ns, a, r, h⟩ := h
  exact ⟨cl, ns, a, r, h⟩
theorem PenAt.cells {H : Hp} {pn : Addr} {n : Nat} (h : PenAt H pn n) : ∃ cl, PenC H pn cl n := by
  obtain ⟨cl, ns, a, r, h⟩ := h
  exact ⟨cl, ns, a, r, h⟩
theorem PenC.put {H : Hp} {pn cl p : Addr} {n : Nat} {o : HO} (h : PenC H pn cl n) (h1 : pn ≠ p) (h2 : cl ≠ p) : PenC (upd H p o) pn cl n := by
  obtain ⟨ns, a, r, e1, e2, h3⟩ := h
  exact ⟨ns, a, r, by rw [upd_ne h1]; exact e1, by rw [upd_ne h2]; exact e2, h3⟩
theorem PenC.same {H H' : Hp} {pn cl : Addr} {n : Nat} (h : PenC H pn cl n) (s : Same H H') : PenC H' pn cl n := by
  obtain ⟨ns, a, r, e1, e2, h3⟩ := h
  exact ⟨ns, a, r, s _ _ e1, s _ _ e2, h3⟩
def spDrawC : Sp := fun vs H Q _ => ∃ (pn cl : Addr) (m : Int) (n : Nat), vs = [.ref pn, .int m] ∧ 0 < m ∧ m.natAbs.log2 < 9000 ∧ PenC H pn cl n ∧ n < 100000 ∧
  ∀ (d : Int) (H' : Hp), 0 ≤ d → d < m → PenC H' pn cl (n + 1) → But pn H H' → Q (.int d) H'
section
variable {P : Program} {w : World} {K : PySem.W.Frag} {mg : Str → Option Value} {base : Heap}
theorem ok_pen {f : Addr} {fd : FuncData} (F : Fun K "_law_pen" "_law_pen" s_pen f fd) (T : BI mg) : FnOk P w K mg base CX0 1 f fd ["_law_script"] (spPen K) := by
  refine F.ok sc_pen (fun vs H Q E h => ?_) (fun cdv A outer s H vs Q E hr h => ?_)
  · obtain ⟨a, ns, rfl, _⟩ := h
    rfl
  · obtain ⟨a, ns, rfl, hS, k⟩ := h
    refine ⟨_, (pss_one (ps_ret (pe_lst (pa_cons (pe_callTy call_list_of (by rfl) T.z_list boot_list (pa_cons (pe_slice sl_list (pv 0) po_none (po_some pe_int)) pa_nil)) (pa_cons pe_int (pa_cons pe_int pa_nil)))))), ?_⟩
    refine ⟨_, rfl, 63, rfl, a, _, rfl, hS, fun p hp => ?_⟩
    refine ⟨p, _, rfl, .inl (SqL.of upd_same), fun l hl => ?_⟩
    refine ⟨(by show 3 ≤ sizeLine; decide), fun pn hpn => ?_⟩
    have npl : p ≠ l := ne_of_none upd_same hl
    have hlp : l ≠ pn := ne_of_none upd_same hpn
    have e1 : cutV (ns.map V.int) none (some 63) = (ns.take 63).map V.int := cut_ints ns 63
    have s0 : Same H (upd (upd (upd H p (.lst (cutV (ns.map V.int) none (some 63)))) l (.lst (cutV (ns.map V.int) none (some 63)))) pn (.lst [.ref l, .int 0, .int 0])) := fun b o z => by
      have z1 : (upd H p (.lst (cutV (ns.map V.int) none (some 63)))) b = some o := by rw [upd_ne (ne_of_none z hp)]; exact z
      have z2 : (upd (upd H p (.lst (cutV (ns.map V.int) none (some 63)))) l (.lst (cutV (ns.map V.int) none (some 63)))) b = some o := by rw [upd_ne (ne_of_none z1 hl)]; exact z1
      rw [upd_ne (ne_of_none z2 hpn)]
      exact z2
    have n1 : H pn = none := by
      cases z : H pn with
      | none => rfl
      | some o =>
        rw [upd_ne (Ne.symm hlp)] at hpn
        by_cases y : pn = p
        · rw [y, hp] at z
          cases z
        · rw [upd_ne y, z] at hpn
          cases hpn
    refine k pn _ n1 ⟨l, ns.take 63, 0, 0, upd_same, ?_, ?_, Int.le_refl _, Int.le_refl _⟩ s0
    · rw [upd_ne hlp, upd_same, e1]
    · rw [List.length_take]
      omega
theorem ok_drawC {f : Addr} {fd : FuncData} (F : Fun K "_law_draw" "_law_draw" s_draw f fd) (T : BI mg) : FnOk P w K mg base CX0 1 f fd ["_law_pen_here", "_law_many"] spDrawC := by
  refine F.ok sc_draw (fun vs H Q E h => ?_) (fun cdv A outer s H vs Q E hr h => ?_)
  · obtain ⟨pn, cl, m, n, rfl, _⟩ := h
    rfl
  · obtain ⟨pn, cl, m, n, rfl, hm, hml, ⟨ns, at_, rest, h1, h2, h3, h4, h5⟩, hn, k⟩ := h
    refine ⟨_, (pss_cons (ps_if (pt_cmpR op_gt (pe_ix ix_list (pv 0) pe_int (fun _ _ => rfl)) pe_int (nomark _)) (pss_cons (ps_set (i := 2) sc_draw.nd rfl (Or.inl rfl) (pe_op op_mod (pe_callTy call_int1 (by rfl) T.z_int boot_int (pa_cons (pe_ix ix_list (pv 0) pe_int (fun _ _ => rfl)) pa_nil)) (pv 1)))
      (pss_cons (ps_asg (pe_op op_fdivW (pe_ix ix_list (pv 0) pe_int (fun _ _ => rfl)) (pv 1)) (pg_sub (pv 0) pe_int set_list))
      (pss_one (ps_ret (pv 2))))) pss_nil)
      (pss_cons (ps_set (i := 3) sc_draw.nd rfl (Or.inl rfl) (pe_ix ix_list (pv 0) pe_int (fun _ _ => rfl)))
      (pss_cons (ps_asg (pe_op op_add (pv 3) pe_int) (pg_sub (pv 0) pe_int set_list))
      (pss_cons (ps_set (i := 4) sc_draw.nd rfl (Or.inl rfl) (pe_op op_add (pe_op op_mul pe_int (pv 3)) pe_int))
      (C8.pss_cut (ps_if (pt_cmpR (op_neD hr.units) (pe_ix ix_list (pv 0) pe_int (fun _ _ => rfl)) (pe_lst pa_nil) (nomark _)) (pss_one (ps_set (i := 4) sc_draw.nd rfl (Or.inl rfl) (pe_ix ix_list (pe_ix ix_list (pv 0) pe_int (fun _ _ => rfl)) (pe_op op_mod (pe_callTy call_int1 (by rfl) T.z_int boot_int (pa_cons (pv 3) pa_nil)) (pe_callB call_len (by rfl) T.z_len PySem.boot_len (pa_cons (pe_ix ix_list (pv 0) pe_int (fun _ _ => rfl)) pa_nil))) (fun _ _ => rfl)))) pss_nil)
      (C8.pss_cut (ps_if (PW.pt (pw_and (pt_cmpR op_lt (pv 3) (pe_callB call_len (by rfl) T.z_len PySem.boot_len (pa_cons (pe_ix ix_list (pv 0) pe_int (fun _ _ => rfl)) pa_nil)) (nomark _)) (pw_and1 (pt_cmpR op_ge (pe_callB call_abs (by rfl) T.z_abs boot_abs (pa_cons (pv 4) pa_nil)) (pe_op op_pow pe_int pe_int) (nomark _))))) (pss_cons (ps_set (i := 5) sc_draw.nd rfl (Or.inl rfl) (pe_op op_add (pe_op op_mul pe_int (pe_op op_sub (pe_callB call_abs (by rfl) T.z_abs boot_abs (pa_cons (pv 4) pa_nil)) (pe_op op_pow pe_int pe_int))) (pe_callTy call_int1 (by rfl) T.z_int boot_int (pa_cons (pe_cmpR op_lt (pv 4) pe_int (nomark _)) pa_nil))))
      (pss_cons (ps_asg (pe_op op_fdivW (pv 5) (pv 1)) (pg_sub (pv 0) pe_int set_list))
      (pss_one (ps_ret (pe_op op_mod (pe_callTy call_int1 (by rfl) T.z_int boot_int (pa_cons (pv 5) pa_nil)) (pv 1)))))) pss_nil)
      (pss_cons (ps_set (i := 6) sc_draw.nd rfl (Or.inl rfl) (pe_op op_mod (pe_callTy call_int1 (by rfl) T.z_int boot_int (pa_cons (pe_op op_pow (pe_op op_add (pe_op op_add (pe_op op_mod (pe_callTy call_int1 (by rfl) T.z_int boot_int (pa_cons (pv 4) pa_nil)) pe_int) (pe_op op_mul pe_int (pv 3))) pe_int) pe_int) pa_nil)) pe_int))
      (pss_cons (ps_set (i := 6) sc_draw.nd rfl (Or.inl rfl) (pe_op op_mod (pe_callTy call_int1 (by rfl) T.z_int boot_int (pa_cons (pe_op op_pow (pe_op op_add (pe_op op_add (pe_op op_mul (pv 6) (pe_op op_add (pe_op op_mul pe_int (pv 3)) pe_int)) (pe_op op_mul (pe_op op_mul pe_int (pv 3)) (pv 3))) pe_int) pe_int) pa_nil)) pe_int))
      (pss_one (ps_ret (pe_op op_mod (pe_callTy call_int1 (by rfl) T.z_int boot_int (pa_cons (pe_op op_fdivW (pv 6) pe_int) pa_nil)) (pv 1)))))))))))), ?_⟩
    have i2 : atI [V.ref cl, V.int at_, V.int rest] 2 = some (V.int rest) := rfl
    have i1 : atI [V.ref cl, V.int at_, V.int rest] 1 = some (V.int at_) := rfl
    have i0 : atI [V.ref cl, V.int at_, V.int rest] 0 = some (V.ref cl) := rfl
    refine ⟨_, rfl, pn, _, _, _, rfl, rfl, SqL.of h1, i2, _, _, rfl, rfl, _, rfl, ?_⟩
    have npc : cl ≠ pn := ne_of h2 h1 (by
      intro z
      injection z with z
      cases ns with
      | nil => cases z
      | cons a l => cases z)
    refine ite2 (fun c => ?_) (fun c => ?_)
    · refine ⟨_, rfl, pn, _, _, _, rfl, rfl, SqL.of h1, i2, .inl ⟨rest, rfl, _, rfl, _, _, rfl, rfl, hm, ?_⟩⟩
      first
        | refine ⟨_, rfl, pn, _, _, _, rfl, rfl, SqL.of h1, i2, .inl ⟨rest, rfl, _, rfl, _, _, rfl, rfl, ⟨hm, hml⟩, _, rfl, pn, _, _, 2, rfl, rfl, h1, rfl, ?_⟩⟩
        | refine ⟨_, rfl, pn, _, _, _, rfl, rfl, SqL.of h1, i2, _, rfl, _, _, rfl, rfl, ⟨hm, hml⟩, _, rfl, pn, _, _, 2, rfl, rfl, h1, rfl, ?_⟩
      refine ⟨_, rfl, k _ _ (Int.emod_nonneg _ (by omega)) (Int.emod_lt_of_pos _ hm) ?_ But.put⟩
      exact ⟨ns, at_, rest / m, upd_same, by rw [upd_ne npc]; exact h2, h3, h4, by omega⟩
    · refine ⟨_, rfl, pn, _, _, _, rfl, rfl, SqL.of h1, i1, ?_⟩
      refine ⟨_, rfl, _, _, rfl, rfl, _, rfl, pn, _, _, 1, rfl, rfl, h1, rfl, ?_⟩
      refine ⟨_, rfl, _, _, rfl, rfl, .inl ⟨by decide, by decide⟩, _, _, rfl, rfl, ?_⟩
      have i0' : atI [V.ref cl, V.int (at_ + 1), V.int rest] 0 = some (V.ref cl) := rfl
      refine ⟨fun σ H2 => ∃ (cell : Int) (v5 v6 : Option V), σ = [some (.ref pn), some (.int m), none, some (.int at_), some (.int cell), v5, v6] ∧ H2 pn = some (.lst [.ref cl, .int (at_ + 1), .int rest]) ∧ H2 cl = some (.lst (ns.map V.int)) ∧ But pn H H2, ?_, ?_⟩
      · refine ⟨_, rfl, pn, _, _, _, rfl, rfl, SqL.of upd_same, i0', (by show 0 ≤ sizeLine; decide), fun l hl => ?_⟩
        have nlp : pn ≠ l := ne_of_none (upd_same (H := H) (a := pn)) hl
        have nlc : cl ≠ l := ne_of_none (by rw [upd_ne npc]; exact h2) hl
        have w1 : (upd (upd H pn (.lst [.ref cl, .int (at_ + 1), .int rest])) l (.lst [])) pn = some (.lst [.ref cl, .int (at_ + 1), .int rest]) := by rw [upd_ne nlp, upd_same]
        have w2 : (upd (upd H pn (.lst [.ref cl, .int (at_ + 1), .int rest])) l (.lst [])) cl = some (.lst (ns.map V.int)) := by rw [upd_ne nlc, upd_ne npc]; exact h2
        have wb : But pn H (upd (upd H pn (.lst [.ref cl, .int (at_ + 1), .int rest])) l (.lst [])) := But.put.trans (But.new hl)
        refine ⟨.list (ns.map PyData.int), .list [], .lst (SqL.of w2) (dp_ints ns), .lst (SqL.of upd_same) .nil, shaped_ints ns, rfl, _, rfl, ?_⟩
        cases ns with
        | nil =>
          refine iteF ?_
          exact ⟨_, _, _, rfl, w1, w2, wb⟩
        | cons z zs =>
          refine iteT ?_
          have hl0 : (0 : Int) < (((z :: zs).map V.int).length : Int) := by
            rw [List.length_map, List.length_cons]
            omega
          obtain ⟨v, hv⟩ : ∃ v, ((z :: zs))[(at_ % (((z :: zs).map V.int).length : Int)).toNat]? = some v := by
            have g := Int.emod_lt_of_pos at_ hl0
            have g0 := Int.emod_nonneg at_ (show (((z :: zs).map V.int).length : Int) ≠ 0 by omega)
            refine ⟨_, List.getElem?_eq_getElem ?_⟩
            rw [List.length_map] at g g0 ⊢
            omega
          refine ⟨_, rfl, pn, _, _, _, rfl, rfl, SqL.of w1, i0', _, rfl, .inl ⟨at_, rfl, _, rfl, pn, _, _, _, rfl, rfl, SqL.of w1, i0', _, _, rfl, .inl ⟨_, SqL.of w2, rfl⟩, _, _, rfl, rfl, hl0, cl, _, _, .int v, rfl, rfl, SqL.of w2, ?_, ?_⟩⟩
          · have g0 := Int.emod_nonneg at_ (show (((z :: zs).map V.int).length : Int) ≠ 0 by omega)
            refine at_of (j := (at_ % (((z :: zs).map V.int).length : Int)).toNat) (by omega) ?_
            rw [List.getElem?_map, hv]
            rfl
          · exact ⟨_, _, _, rfl, w1, w2, wb⟩
      · rintro σ H2 ⟨cell, v5, v6, rfl, g1, g2, hb⟩
        have pen2 : ∀ r : Int, PenC (upd H2 pn (.lst [.ref cl, .int (at_ + 1), .int r])) pn cl (n + 1) := fun r =>
          ⟨ns, at_ + 1, r, upd_same, by rw [upd_ne npc]; exact g2, h3, by omega, by omega⟩
        refine ⟨fun σ H3 => ∃ (v5 v6 : Option V), σ = [some (.ref pn), some (.int m), none, some (.int at_), some (.int cell), v5, v6] ∧ H3 = H2, ?_, ?_⟩
        · refine ⟨_, rfl, _, rfl, pn, _, _, _, rfl, rfl, SqL.of g1, i0', _, _, rfl, .inl ⟨_, SqL.of g2, rfl⟩, _, _, rfl, rfl, _, rfl, ?_⟩
          refine ite2 (fun c1 => ?_) (fun c1 => iteF ⟨_, _, rfl, rfl⟩)
          refine ⟨_, rfl, _, rfl, _, _, rfl, rfl, ⟨by decide, by decide, by decide⟩, _, _, rfl, rfl, _, rfl, ?_⟩
          refine ite2 (fun c2 => ?_) (fun c2 => ⟨_, _, rfl, rfl⟩)
          refine ⟨_, rfl, _, rfl, _, _, rfl, rfl, ⟨by decide, by decide, by decide⟩, _, _, rfl, rfl, _, _, rfl, rfl, .inl ⟨by decide, by decide⟩, _, rfl, _, _, rfl, rfl, .inr ⟨_, rfl, _, _, rfl, rfl, ?_⟩⟩
          first
            | refine ⟨_, rfl, .inl ⟨_, rfl, _, rfl, _, _, rfl, rfl, ⟨hm, hml⟩, _, rfl, pn, _, _, 2, rfl, rfl, g1, rfl, ?_⟩⟩
            | refine ⟨_, rfl, _, rfl, _, _, rfl, rfl, ⟨hm, hml⟩, _, rfl, pn, _, _, 2, rfl, rfl, g1, rfl, ?_⟩
          refine ⟨_, rfl, .inl ⟨_, rfl, _, rfl, _, _, rfl, rfl, hm, ?_⟩⟩
          exact k _ _ (Int.emod_nonneg _ (by omega)) (Int.emod_lt_of_pos _ hm) (pen2 _) (hb.trans But.put)
        · rintro σ H3 ⟨v5, v6, rfl, rfl⟩
          have ea : at_ < 100000 := by omega
          refine ⟨_, rfl, .inl ⟨_, rfl, _, _, rfl, rfl, (by show (0 : Int) < _; decide), _, rfl, _, _, rfl, rfl, .inl ⟨by decide, by decide⟩, _, _, rfl, rfl, _, _, rfl, rfl, _, _, rfl, rfl, ⟨by decide, by decide, ?_⟩, .inl ⟨_, rfl, _, _, rfl, rfl, (by show (0 : Int) < _; decide), ?_⟩⟩⟩
          · have e1 := Int.emod_nonneg cell (show (2147483563 : Int) ≠ 0 by decide)
            have e2 := Int.emod_lt_of_pos cell (show (0 : Int) < 2147483563 by decide)
            refine pow_lt (by omega) (by omega)
          have x0 := Int.emod_nonneg ((cell % 2147483563 + 39249 * at_ + 281) ^ Int.toNat 3) (show (2147483629 : Int) ≠ 0 by decide)
          have x1 := Int.emod_lt_of_pos ((cell % 2147483563 + 39249 * at_ + 281) ^ Int.toNat 3) (show (0 : Int) < 2147483629 by decide)
          refine ⟨_, rfl, _, rfl, _, _, rfl, rfl, .inl ⟨by decide, by decide⟩, _, _, rfl, rfl, _, _, rfl, rfl, .inl ⟨Int.lt_of_lt_of_le (by decide) x0, Int.lt_trans x1 (by decide)⟩, _, rfl, _, _, rfl, rfl, .inl ⟨by decide, by decide⟩, _, rfl, _, _, rfl, rfl, .inr ⟨by omega, by omega⟩, _, _, rfl, rfl, _, _, rfl, rfl, _, _, rfl, rfl, ⟨by decide, by decide, ?_⟩, .inl ⟨_, rfl, _, _, rfl, rfl, (by show (0 : Int) < _; decide), ?_⟩⟩
          · exact mix_lt x0 (Int.lt_trans x1 (by decide)) h4 ea (by decide) (by decide) (by decide) (by decide) (by decide) (by decide)
          refine ⟨_, rfl, _, _, rfl, rfl, ⟨by decide, by decide⟩, .inl ⟨_, rfl, _, rfl, _, _, rfl, rfl, hm, ?_⟩⟩
          exact k _ _ (Int.emod_nonneg _ (by omega)) (Int.emod_lt_of_pos _ hm) ⟨ns, at_ + 1, rest, g1, g2, h3, by omega, by omega⟩ hb
theorem ok_draw {f : Addr} {fd : FuncData} (F : Fun K "_law_draw" "_law_draw" s_draw f fd) (T : BI mg) : FnOk P w K mg base CX0 1 f fd ["_law_pen_here", "_law_many"] spDraw := by
  have G := ok_drawC (P := P) (w := w) (base := base) F T
  have to : ∀ vs H Q E, spDraw vs H Q E → spDrawC vs H Q E := fun vs H Q E h => by
    obtain ⟨pn, m, n, e, hm, hml, hp, hn, k⟩ := h
    obtain ⟨cl, hc⟩ := hp.cells
    exact ⟨pn, cl, m, n, e, hm, hml, hc, hn, fun d H' a b c u => k d H' a b c.pen u⟩
  exact ⟨fun vs H Q E h => G.len vs H Q E (to _ _ _ _ h), fun A outer s H args us vs Q E hr e0 hb r h => G.run A outer s H args us vs Q E hr e0 hb r (to _ _ _ _ h)⟩
theorem ok_pick {f : Addr} {fd : FuncData} (F : Fun K "_law_pick" "_law_pick" s_pick f fd) (T : BI mg) (D_draw : DefAt P w K mg base CX0 1 "_law_draw" ["_law_pen_here", "_law_many"] spDraw) : FnOk P w K mg base CX0 2 f fd ["_law_pen_here", "_law_some"] spPick := by
  refine F.ok sc_pick (fun vs H Q E h => ?_) (fun cdv A outer s H vs Q E hr h => ?_)
  · obtain ⟨pn, l, n, xs, rfl, _⟩ := h
    rfl
  · obtain ⟨pn, l, n, xs, rfl, hl, nl, h0, h1, hp, hn, k⟩ := h
    refine ⟨_, (pss_one (ps_ret (pe_ix ix_list (pv 1) (My.pe_d D_draw (hr.mono (by decide)) (by rfl) pass0 (pa_cons (pv 0) (pa_cons (pe_callB call_len (by rfl) T.z_len PySem.boot_len (pa_cons (pv 1) pa_nil)) pa_nil))) (fun _ _ => rfl)))), ?_⟩
    refine ⟨_, rfl, _, rfl, _, rfl, _, _, rfl, .inl ⟨_, SqL.of hl, rfl⟩, pn, _, n, rfl, by omega, ?_, hp, hn, fun d H' d0 d1 hp' hb => ?_⟩
    · refine Nat.lt_of_lt_of_le (PySem.Flt.log2_lt_of (k := 10) (by decide) ?_) (by decide)
      show xs.length < 1024
      omega
    · obtain ⟨v, hv⟩ : ∃ v, xs[d.toNat]? = some v := ⟨_, List.getElem?_eq_getElem (by omega)⟩
      refine ⟨l, _, _, v, rfl, rfl, SqL.of (hb l _ hl nl), at_of (j := d.toNat) (by omega) hv, ?_⟩
      exact k v H' (List.mem_of_getElem? hv) hp' hb
end
end My
/-! raise C() of an own error class without own __init__. -/
namespace My
open PySem PySem.Spec PySem.Calls PyProof.Rows L2
section
variable {X : Cx} {C : Addr} {bmB : List Value} {B newId initId : String} {x : Str} {p pos : Pos}
theorem pmk_nil (F : ExcBaseFacts B newId initId bmB) (q : PySem.W.excIn X.K C bmB newId = true) (gC : X.mg x = some (.ref C)) (kC : PySem.W.keepIn X.K (.ref C) = true) (r : Raises X (.ref C)) (hg : Gl X x) (hdb : (x == ("__debug__" : Str)) = false := by decide) :
    PMk X (.Call (.Name x p) [] [] pos) (fun σ H Q => Q (.ref C) none H) := by
  intro pins s σ H Q I h
  refine wpAny_Call_Name_kw (ld_glob I hg gC ?_ hdb)
  refine PySem.W.callWith_K0 (first := []) I.kIn kC ?_
  show wpAny _ _ (call (.ref C) []) _ _ _
  obtain ⟨bm, N, nm, qn, bs, hdct, sn, sub, ab, col, dd, k0, k1, k2, k3, k5, mN, hC, hN, hni, T⟩ := exc_obj I.kIn q
  refine wpAny_call_exc_subT F T hC hN hni (fun h' e hm => ?_) (Nat.zero_le _)
  exact mk_of I hm r h (I.hok.gone hm.new)
end
end My
namespace My
open PySem PySem.Spec PyProof.Rows L2
/-! ### polynomials -/
abbrev s_whole0 : Stmt := topS 9
theorem sc_whole0 : FnScope ["value"] ["value"] (defScope s_whole0) := ⟨rfl, rfl, rfl, by decide +kernel, rfl, by decide +kernel, by decide +kernel⟩
abbrev s_needint : Stmt := topS 14
theorem sc_needint : FnScope ["value"] ["value"] (defScope s_needint) := ⟨rfl, rfl, rfl, by decide +kernel, rfl, by decide +kernel, by decide +kernel⟩
abbrev s_wend : Stmt := topS 15
theorem sc_wend : FnScope ["terms", "many"] ["terms"] (defScope s_wend) := ⟨rfl, rfl, rfl, by decide +kernel, rfl, by decide +kernel, by decide +kernel⟩
abbrev s_termof : Stmt := topS 17
theorem sc_termof : FnScope ["terms", "k"] ["terms", "k"] (defScope s_termof) := ⟨rfl, rfl, rfl, by decide +kernel, rfl, by decide +kernel, by decide +kernel⟩
abbrev s_pinit : Stmt := inClass (topS 26) 0
theorem sc_pinit : FnScope ["self", "terms", "at", "term"] ["self", "terms"] (defScope s_pinit) := ⟨rfl, rfl, rfl, by decide +kernel, rfl, by decide +kernel, by decide +kernel⟩
abbrev s_pof : Stmt := inClass (topS 26) 1
theorem sc_pof : FnScope ["cls", "terms"] ["cls", "terms"] (defScope s_pof) := ⟨rfl, rfl, rfl, by decide +kernel, rfl, by decide +kernel, by decide +kernel⟩
abbrev s_pcall : Stmt := inClass (topS 26) 11
theorem sc_pcall : FnScope ["self", "m", "found", "term"] ["self", "m"] (defScope s_pcall) := ⟨rfl, rfl, rfl, by decide +kernel, rfl, by decide +kernel, by decide +kernel⟩
abbrev s_pget : Stmt := inClass (topS 26) 12
theorem sc_pget : FnScope ["self", "k"] ["self", "k"] (defScope s_pget) := ⟨rfl, rfl, rfl, by decide +kernel, rfl, by decide +kernel, by decide +kernel⟩
abbrev s_peq : Stmt := inClass (topS 26) 21
theorem sc_peq : FnScope ["self", "other"] ["self", "other"] (defScope s_peq) := ⟨rfl, rfl, rfl, by decide +kernel, rfl, by decide +kernel, by decide +kernel⟩
abbrev s_pbool : Stmt := inClass (topS 26) 22
theorem sc_pbool : FnScope ["self"] ["self"] (defScope s_pbool) := ⟨rfl, rfl, rfl, by decide +kernel, rfl, by decide +kernel, by decide +kernel⟩
/-- the length without the zeros at the end, of the first k -/
def tl (ts : List Int) : Nat → Nat
  | 0 => 0
  | k + 1 => if ts[k]? = some 0 then tl ts k else k + 1
def trim (ts : List Int) : List Int := ts.take (tl ts ts.length)
theorem tl_le (ts : List Int) : ∀ k, tl ts k ≤ k
  | 0 => Nat.le_refl _
  | k + 1 => by
    unfold tl
    split
    · exact Nat.le_succ_of_le (tl_le ts k)
    · exact Nat.le_refl _
theorem trim_len (ts : List Int) : (trim ts).length = tl ts ts.length := by
  unfold trim
  rw [List.length_take]
  exact Nat.min_eq_left (tl_le ts _)
theorem trim_le (ts : List Int) : (trim ts).length ≤ ts.length := by
  rw [trim_len]
  exact tl_le ts _
theorem trim_all {ts : List Int} {m : Nat} (h : HT.sIx (ts.map V.int).length (ts.map V.int).length (some (m : Int)) = (ts.map V.int).length) (e : tl ts m = tl ts ts.length) (em : tl ts m = m) : ts = trim ts := by
  rw [HT.sIx_nat, List.length_map] at h
  unfold trim
  rw [← e, em, List.take_of_length_le (by omega)]
/-- for at, x in enumerate(t) -/
theorem for_enumT {K : PySem.W.Frag} {a : Addr} {xs : List V} {g : TG} {tb : TS} {D : Ends} {σ : L2.St} {H : Hp} (Pv : Nat → L2.St → Hp → Prop) (h0 : Pv 0 σ H) (hl : ∀ i σ H, i ≤ xs.length → Pv i σ H → SqT K H a xs)
    (hs : ∀ i x σ H T, xs[i]? = some x → Pv i σ H → H T = none → g (.ref T) σ (upd H T (.tup [.int (i : Nat), x])) fun σ2 H2 => tb { D with nx := Pv (i + 1), ct := Pv (i + 1), bk := D.nx } σ2 H2) (hd : ∀ σ H, Pv xs.length σ H → D.nx σ H) :
    ∃ W : Nat → Nat → L2.St → Hp → Prop, (∃ m, W 0 m σ H) ∧ ∀ i m σ H, W i m σ H →
      ((IteT K a).stop i H ∧ D.nx σ H) ∨ ((IteT K a).go i H ∧ ∃ N : L2.St → Hp → Prop, (∀ σ' H', N σ' H' → ∃ m', m' < m ∧ W (i + 1) m' σ' H') ∧ ∀ x H', (IteT K a).yld i H x H' → g x σ H' fun σ2 H2 => tb { D with nx := N, ct := N, bk := D.nx } σ2 H2) := by
  refine ⟨fun i m σ H => m = xs.length - i ∧ i ≤ xs.length ∧ Pv i σ H, ⟨xs.length, by simp, Nat.zero_le _, h0⟩, ?_⟩
  rintro i m σ H ⟨rfl, hi, p⟩
  have q := hl i σ H hi p
  by_cases hlt : i < xs.length
  · refine .inr ⟨⟨xs, xs[i], q, by simp [hlt]⟩, Pv (i + 1), fun σ' H' p' => ⟨xs.length - (i + 1), by omega, rfl, hlt, p'⟩, fun x H' y => ?_⟩
    obtain ⟨T, x0, rfl, hT, rfl, y⟩ := y
    exact hs i x0 σ H T (y xs q) p hT
  · have e : i = xs.length := by omega
    subst e
    exact .inl ⟨⟨xs, q, rfl⟩, hd σ H p⟩
def pfs (t : Addr) (n : Int) : List (Str × V) := putF "degree" (.int n) (putF "terms" (.ref t) [])
theorem psm : ¬ (("terms" : Str) = "degree") := by decide +kernel
theorem pfs_terms (t : Addr) (n : Int) : (pfs t n).lookup ("terms" : Str) = some (.ref t) := by
  unfold pfs
  rw [lookup_putF, if_neg psm, lookup_putF, if_pos rfl]
theorem pfs_deg (t : Addr) (n : Int) : (pfs t n).lookup ("degree" : Str) = some (.int n) := by
  unfold pfs
  rw [lookup_putF, if_pos rfl]
/-- at p: a polynomial with these terms, none of 0 at the end -/
def PolyAt (C : Addr) (H : Hp) (p : Addr) (ts : List Int) : Prop := ∃ dx t, H p = some (.ins C dx (pfs t ((ts.length : Int) - 1))) ∧ H t = some (.tup (ts.map V.int))
theorem PolyAt.same {C : Addr} {H H' : Hp} {p : Addr} {ts : List Int} (h : PolyAt C H p ts) (k : Same H H') : PolyAt C H' p ts := by
  obtain ⟨dx, t, e, e2⟩ := h
  exact ⟨dx, t, k _ _ e, k _ _ e2⟩
theorem PolyAt.ext {C : Addr} {H H' : Hp} {p : Addr} {ts : List Int} (h : PolyAt C H p ts) (k : LamX.ExtN H H') : PolyAt C H' p ts := by
  obtain ⟨dx, t, e, e2⟩ := h
  exact ⟨dx, t, k _ _ e (by intro ps z; cases z), k _ _ e2 (by intro ps z; cases z)⟩
theorem PolyAt.but {C : Addr} {H H' : Hp} {p pn : Addr} {n : Nat} {ts : List Int} (h : PolyAt C H p ts) (hp : PenAt H pn n) (k : But pn H H') : PolyAt C H' p ts := by
  obtain ⟨dx, t, e, e2⟩ := h
  obtain ⟨cl, ns, a', r, g1, _⟩ := hp
  exact ⟨dx, t, k _ _ e (ne_of e g1 (by intro z; cases z)), k _ _ e2 (ne_of e2 g1 (by intro z; cases z))⟩
theorem PolyAt.tyl {C : Addr} {H : Hp} {p : Addr} {ts : List Int} (h : PolyAt C H p ts) : TyL C H (.ref p) := by
  obtain ⟨dx, t, e, _⟩ := h
  exact .inr ⟨p, dx, _, rfl, e⟩
def Errs (E : XK) (C : Addr) (f : Str) (v : V) (H : Hp) : Prop := ∀ (d : Addr) (H' : Hp), H d = none → H' d = some (.xd [(f, v)]) → Same H H' → E (.ref C) (some d) H'
theorem Errs.go {E : XK} {C : Addr} {f : Str} {v : V} {H : Hp} (h : Errs E C f v H) {d : Addr} (hd : H d = none) : E (.ref C) (some d) (upd H d (.xd [(f, v)])) := h d _ hd upd_same (same_new hd)
theorem Errs.up {E : XK} {C : Addr} {f : Str} {v : V} {H H1 : Hp} (h : Errs E C f v H) (s : Same H H1) : Errs E C f v H1 := fun d H' hd hx s' => h d H' (s.free hd) hx (s.trans s')
/-- what the top has written of Poly and its errors -/
structure PTx (P : Program) (K : PySem.W.Frag) (mg : Str → Option Value) (C CB fB CP fP CI fI : Addr) : Prop extends BI mg where
  cl : Cls K C
  nT : NoAttr K C "terms"
  nD : NoAttr K C "degree"
  gP : mg "Poly" = some (.ref C)
  ha : PySem.W.findIn K (.ref C) "__class__" = some (some (.builtin "object.__class__"))
  hn : PySem.W.specialIn K (.builtin "object.__class__") "__get__" = some (some (.builtin "getset_descriptor.__get__"))
  ht : PySem.W.takesIn K (.builtin "object.__class__") = some true
  hm : PySem.W.mroIn K C (.type "object") = some true
  me : PySem.W.kitOne K (.ref C) (.ref C) = some true
  e_BadPoly : Sup.Err1 P K mg "BadPoly" "at" CB fB
  e_BadPlace : Sup.Err1 P K mg "BadPlace" "value" CP fP
  e_NoIndex : Sup.Err1 P K mg "NoIndex" "value" CI fI
  z_str : mg "str" = none
  z_tuple : mg "tuple" = none
  z_enumerate : mg "enumerate" = none
  noInt : PySem.W.kitOne K (.ref C) (.type "int") = some false
  kn : ∀ t ∈ ["int", "tuple", "NoneType", "str", "list", "bool", "dict"], PySem.W.kitOne K (.type t) (.ref C) = some false ∧ PySem.W.notFirst K C (.type t) = true
  sf : PySem.W.notFirst K C (.ref C) = true
theorem Ty0.mem {H : Hp} {v : V} {t : String} (h : Ty0 H v t) : t ∈ ["int", "tuple", "NoneType", "str", "list", "bool", "dict"] := by cases h <;> decide
theorem PTx.ty {P : Program} {K : PySem.W.Frag} {mg : Str → Option Value} {C CB fB CP fP CI fI : Addr} (T : PTx P K mg C CB fB CP fP CI fI) {H : Hp} {p : Addr} {ts : List Int} (h : PolyAt C H p ts) : TyX K H (.ref p) (.ref C) := by
  obtain ⟨dx, t, e, _⟩ := h
  exact .base (.ins e T.cl T.ha T.hn T.ht T.hm)
def spWhole0 (C : Addr) : Sp := fun vs H Q _ => ∃ (v : V), vs = [v] ∧ TyL C H v ∧ Q (.bl (isI v)) H
def spNeed (C CP : Addr) : Sp := fun vs H Q E => ∃ (v : V), vs = [v] ∧ TyL C H v ∧ (isI v = true → Q .non H) ∧ (isI v = false → Errs E CP "value" v H)
def spWend : Sp := fun vs H Q _ => ∃ (t : Addr) (ts : List Int), vs = [.ref t] ∧ H t = some (.tup (ts.map V.int)) ∧ ts.length ≤ 1000 ∧ ∀ r H', H' r = some (.tup ((trim ts).map V.int)) → Same H H' → Q (.ref r) H'
def spTermof (K : PySem.W.Frag) : Sp := fun vs H Q _ => ∃ (t : Addr) (ts : List Int) (k : Int), vs = [.ref t, .int k] ∧ H t = some (.tup (ts.map V.int)) ∧ 0 ≤ k ∧ Q (.int ((ts[k.toNat]?).getD 0)) H
/-- Poly.__init__(self, *terms) -/
def spPinit (C CB : Addr) : Sp := fun vs H Q E => ∃ (p dx tt : Addr) (xs : List V), vs = [.ref p, .ref tt] ∧ H p = some (.ins C dx []) ∧ H tt = some (.tup xs) ∧ xs.length ≤ 1000 ∧ (∀ v ∈ xs, TyL C H v) ∧
  (∀ ts, xs = ts.map V.int → ∀ H', PolyAt C H' p (trim ts) → (∀ c o, H c = some o → c ≠ p → H' c = some o) → Q .non H') ∧
  (∀ (i : Nat) (v : V), xs[i]? = some v → isI v = false → (∀ (j : Nat) (u : V), j < i → xs[j]? = some u → isI u = true) → Errs E CB "at" (.int (i : Nat)) H)
/-- Poly(..), its arguments one by one -/
def spPoly (C CB : Addr) : Sp := fun vs H Q E => ∃ (p dx : Addr) (xs : List V), vs = .ref p :: xs ∧ H p = some (.ins C dx []) ∧ xs.length ≤ 1000 ∧ (∀ v ∈ xs, TyL C H v) ∧
  (∀ ts, xs = ts.map V.int → ∀ H', PolyAt C H' p (trim ts) → (∀ c o, H c = some o → c ≠ p → H' c = some o) → Q .non H') ∧
  (∀ (i : Nat) (v : V), xs[i]? = some v → isI v = false → (∀ (j : Nat) (u : V), j < i → xs[j]? = some u → isI u = true) → Errs E CB "at" (.int (i : Nat)) H)
def spPof (K : PySem.W.Frag) (C CB : Addr) : Sp := fun vs H Q E => ∃ (t : Addr) (xs : List V), vs = [.ref C, .ref t] ∧ (SqT K H t xs ∨ SqL K H t xs) ∧ xs.length ≤ 1000 ∧ (∀ v ∈ xs, TyL C H v) ∧
  (∀ ts, xs = ts.map V.int → ∀ q H', PolyAt C H' q (trim ts) → Same H H' → Q (.ref q) H') ∧
  (∀ (i : Nat) (v : V), xs[i]? = some v → isI v = false → (∀ (j : Nat) (u : V), j < i → xs[j]? = some u → isI u = true) → Errs E CB "at" (.int (i : Nat)) H)
/-- a new Poly -/
theorem poly_at {C CB : Addr} {H : Hp} {x dx : Addr} {xs : List V} {R : Addr → Hp → Prop} {E : XK} (hl : xs.length ≤ 1000) (ty : ∀ v ∈ xs, TyL C H v) (hx : H x = none) (hd : H dx = none) (ne : dx ≠ x) (k1 : ∀ ts, xs = ts.map V.int → ∀ q H', PolyAt C H' q (trim ts) → Same H H' → R q H')
    (k2 : ∀ (i : Nat) (v : V), xs[i]? = some v → isI v = false → (∀ (j : Nat) (u : V), j < i → xs[j]? = some u → isI u = true) → Errs E CB "at" (.int (i : Nat)) H) :
    spPoly C CB (.ref x :: xs) (upd (upd H dx (.own x)) x (.ins C dx [])) (fun v H2 => v = .non ∧ R x H2) E := by
  have s0 : Same H (upd (upd H dx (.own x)) x (.ins C dx [])) := fun b o e => by
    rw [upd_ne (ne_of_none e hx), upd_ne (ne_of_none e hd)]
    exact e
  exact ⟨x, dx, xs, rfl, upd_same, hl, fun v hv => (ty v hv).same s0, fun ts e H' po kp => ⟨rfl, k1 ts e x H' po fun c o e' => kp c o (s0 _ _ e') (ne_of_none e' hx)⟩, fun i v e1 e2 e3 => (k2 i v e1 e2 e3).up s0⟩
theorem ints_of : ∀ xs : List V, (∀ v ∈ xs, isI v = true) → ∃ ts : List Int, xs = ts.map V.int
  | [], _ => ⟨[], rfl⟩
  | x :: xs, h => by
    obtain ⟨ts, e⟩ := ints_of xs fun v hv => h v (List.mem_cons_of_mem _ hv)
    obtain ⟨i, ei⟩ := isI_int (h x List.mem_cons_self)
    exact ⟨i :: ts, by rw [e, ei]; rfl⟩
def evl (ts : List Int) (m : Int) : Int := ts.reverse.foldl (fun f t => f * m + t) 0
def spPcall (C CP : Addr) : Sp := fun vs H Q E => ∃ (p : Addr) (ts : List Int) (v : V), vs = [.ref p, v] ∧ PolyAt C H p ts ∧ ts.length ≤ 1000 ∧ TyL C H v ∧ (∀ m, v = .int m → (∀ k, k ≤ ts.length → CMulW ((ts.reverse.take k).foldl (fun f t => f * m + t) 0) m) ∧ ∀ H', Same H H' → Q (.int (evl ts m)) H') ∧ (isI v = false → Errs E CP "value" v H)
def spPget (C CI : Addr) : Sp := fun vs H Q E => ∃ (p : Addr) (ts : List Int) (v : V), vs = [.ref p, v] ∧ PolyAt C H p ts ∧ TyL C H v ∧ (∀ k, v = .int k → 0 ≤ k → Q (.int ((ts[k.toNat]?).getD 0)) H) ∧ ((isI v = false ∨ ∃ k, v = .int k ∧ k < 0) → Errs E CI "value" v H)
def spPeq (C : Addr) : Sp := fun vs H Q _ => ∃ (p : Addr) (ts : List Int) (v : V), vs = [.ref p, v] ∧ PolyAt C H p ts ∧ ts.length ≤ 1000 ∧ ((∃ q us, v = .ref q ∧ PolyAt C H q us ∧ us.length ≤ 1000 ∧ Q (.bl (decide (ts = us))) H) ∨ ((∃ t, Ty0 H v t) ∧ Q (.bl false) H))
def spPbool (C : Addr) : Sp := fun vs H Q _ => ∃ (p : Addr) (ts : List Int), vs = [.ref p] ∧ PolyAt C H p ts ∧ Q (.bl (!ts.isEmpty)) H
section
variable {P : Program} {w : World} {K : PySem.W.Frag} {mg : Str → Option Value} {base : Heap} {C CB fB CP fP CI fI : Addr}
theorem ok_whole0 {f : Addr} {fd : FuncData} (F : Fun K "is_whole" "is_whole" s_whole0 f fd) (T : PTx P K mg C CB fB CP fP CI fI) : FnOk P w K mg base CX0 1 f fd ["value"] (spWhole0 C) := by
  refine F.ok sc_whole0 (fun vs H Q E h => ?_) (fun cdv A outer s H vs Q E hr h => ?_)
  · obtain ⟨v, rfl, _⟩ := h
    rfl
  · obtain ⟨v, rfl, ty, q⟩ := h
    refine ⟨_, (pss_one (ps_ret (pe_and (pe_callB call_isi (by rfl) T.z_isinstance boot_isinstance (pa_cons (pv 0) (pa_cons (pe_bltn (v := .ty "int") (by rfl) T.z_int boot_int rfl) pa_nil))) (pe_one (pe_not (pe_callB call_isi (by rfl) T.z_isinstance boot_isinstance (pa_cons (pv 0) (pa_cons (pe_bltn (v := .ty "bool") (by rfl) T.z_bool boot_bool rfl) pa_nil)))))))), ?_⟩
    rcases ty with ⟨t, ty⟩ | ⟨a, dx, fs, rfl, ea⟩
    case inr => exact ⟨_, rfl, _, _, _, _, false, rfl, .ty _, .base (.ins ea T.cl T.ha T.hn T.ht T.hm), T.noInt, _, rfl, iteF q⟩
    obtain ⟨b, e1, e2, e3⟩ := ty.kint (K := K)
    refine ⟨_, rfl, v, _, _, _, b, rfl, .ty _, ty.tyx, e1, _, rfl, ?_⟩
    cases b with
    | false =>
      refine iteF ?_
      rw [e3 rfl] at q
      exact q
    | true =>
      refine iteT ?_
      obtain ⟨c, e4, e5⟩ := e2 rfl
      refine ⟨_, rfl, v, _, _, _, c, rfl, .ty _, ty.tyx, e4, _, rfl, ?_⟩
      rw [e5] at q
      exact q
theorem ok_needint {f : Addr} {fd : FuncData} (F : Fun K "need_integer" "need_integer" s_needint f fd) (T : PTx P K mg C CB fB CP fP CI fI) (D_whole0 : DefAt P w K mg base CX0 1 "is_whole" ["value"] (spWhole0 C)) : FnOk P w K mg base (L2.CX P w) 2 f fd ["value"] (spNeed C CP) := by
  refine F.okX sc_needint (fun vs H Q E h => ?_) (fun cdv A outer s H vs Q E hr h => ?_)
  · obtain ⟨v, rfl, _⟩ := h
    rfl
  · obtain ⟨v, rfl, ty, k1, k2⟩ := h
    refine ⟨_, (pss_one (ps_if (pt_not (pt_val (My.pe_d D_whole0 (hr.mono (by decide)) (by rfl) pass0 (pa_cons (pv 0) pa_nil)))) (pss_one (ps_raise1 rfl T.e_BadPlace (hr.mono (by decide) : Room 0 _) (takes_of rfl rfl rfl rfl) (pa_cons (pv 0) pa_nil))) pss_nil)), ?_⟩
    refine ⟨_, rfl, v, rfl, ty, _, rfl, ?_⟩
    cases e : isI v with
    | true => exact iteF (k1 e)
    | false => exact iteT ⟨_, rfl, _, rfl, fun d hd => (k2 e).go hd⟩
theorem ok_wend {f : Addr} {fd : FuncData} (F : Fun K "without_end" "without_end" s_wend f fd) (T : PTx P K mg C CB fB CP fP CI fI) : FnOk P w K mg base CX0 1 f fd ["terms"] spWend := by
  refine F.ok sc_wend (fun vs H Q E h => ?_) (fun cdv A outer s H vs Q E hr h => ?_)
  · obtain ⟨t, ts, rfl, _⟩ := h
    rfl
  · obtain ⟨t, ts, rfl, ht, hl, k⟩ := h
    refine ⟨_, (pss_cons (ps_set (i := 1) sc_wend.nd rfl (Or.inl rfl) (pe_callB call_len (by rfl) T.z_len PySem.boot_len (pa_cons (pv 0) pa_nil)))
      (pss_cons (ps_while PassesOwn.never (PW.pt (pw_and (pt_cmpR op_gt (pv 1) pe_int (nomark _)) (pw_and1 (pt_cmpR op_eq (pe_ix ix_tup (pv 0) (pe_op op_sub (pv 1) pe_int) (fun _ _ => rfl)) pe_int (nomark _))))) (pss_one (ps_aug (i := 1) sc_wend.nd rfl (Or.inl rfl) pe_int ip_sub (Or.inr rfl))))
      (pss_one (ps_ret (pe_callTy call_tupleT (by rfl) T.z_tuple boot_tuple (pa_cons (pe_slice sl_tupA (pv 0) po_none (po_some (pv 1))) pa_nil)))))), ?_⟩
    refine ⟨_, rfl, _, _, rfl, .inr ⟨_, SqT.of ht, rfl⟩, ?_⟩
    have el : (ts.map V.int).length = ts.length := List.length_map ..
    refine while_by (fun σ Hz => Hz = H ∧ ∃ m : Nat, σ = [some (.ref t), some (.int (m : Nat))] ∧ m ≤ ts.length ∧ tl ts m = tl ts ts.length) (fun σ _ => match σ with | [_, some (.int y)] => y.toNat | _ => 0) ?_ ?_ ?_
    · exact ⟨rfl, (ts.map V.int).length, rfl, by omega, by rw [el]⟩
    · rintro σ Hz ⟨rfl, m, rfl, hm, e⟩
      refine ⟨_, rfl, _, _, rfl, rfl, _, rfl, ?_⟩
      refine ite2 (fun c => ?_) (fun c => iteF ?_)
      · have m0 : 0 < m := by
          have := of_decide_eq_true c
          omega
        obtain ⟨x, hx⟩ : ∃ x, ts[m - 1]? = some x := ⟨_, List.getElem?_eq_getElem (by omega)⟩
        have ea : atI (ts.map V.int) ((m : Int) - 1) = some (.int x) := at_of (j := m - 1) (by omega) (by rw [List.getElem?_map, hx]; rfl)
        refine ⟨_, rfl, _, rfl, _, _, rfl, rfl, t, _, _, .int x, rfl, rfl, SqT.of ht, ea, rfl, _, rfl, ?_⟩
        obtain ⟨k', rfl⟩ : ∃ k', m = k' + 1 := ⟨m - 1, by omega⟩
        have hx' : ts[k']? = some x := hx
        refine ite2 (fun c2 => ?_) (fun c2 => ?_)
        · have x0 : x = 0 := V.int.inj (of_decide_eq_true c2)
          refine ⟨_, rfl, _, _, rfl, rfl, ⟨rfl, k', ?_, by omega, ?_⟩, ?_⟩
          · show [_, some (V.int (((k' + 1 : Nat) : Int) - 1))] = _
            have e1 : (((k' + 1 : Nat) : Int) - 1) = (k' : Int) := by omega
            rw [e1]
          · rw [← e]
            show _ = (if ts[k']? = some 0 then tl ts k' else k' + 1)
            rw [hx', x0, if_pos rfl]
          · show ((((k' + 1 : Nat) : Int) - 1)).toNat < (((k' + 1 : Nat) : Int)).toNat
            omega
        · have x0 : ¬ x = 0 := fun z => c2 (decide_eq_true (by rw [z]))
          have em : tl ts (k' + 1) = k' + 1 := by
            show (if ts[k']? = some 0 then tl ts k' else k' + 1) = k' + 1
            rw [hx', if_neg (fun z => x0 (Option.some.inj z))]
          refine ⟨_, rfl, _, rfl, ((k' + 1 : Nat) : Int), rfl, t, _, rfl, SqT.of ht, fun w => ⟨t, _, rfl, SqT.of ht, k t Hz (trim_all w.2 e em ▸ ht) (fun _ _ e => e)⟩, fun w p hp => ⟨p, _, rfl, SqT.of upd_same, k p _ ?_ (same_new hp)⟩⟩
          rw [upd_same, cut_ints]
          unfold trim
          rw [← e, em]
      · have m0 : m = 0 := by
          by_cases z : m = 0
          · exact z
          · exact absurd (decide_eq_true (show (0 : Int) < (m : Int) by omega)) c
        have em : tl ts m = m := by
          rw [m0]
          rfl
        refine ⟨_, rfl, _, rfl, (m : Int), rfl, t, _, rfl, SqT.of ht, fun w => ⟨t, _, rfl, SqT.of ht, k t Hz (trim_all w.2 e em ▸ ht) (fun _ _ e => e)⟩, fun w p hp => ⟨p, _, rfl, SqT.of upd_same, k p _ ?_ (same_new hp)⟩⟩
        rw [upd_same, cut_ints]
        unfold trim
        rw [← e, em]
    · intro σ Hz Q1 Q2 hm h
      obtain ⟨v, e, i, j, e1, e2, b, e3, h⟩ := h
      refine ⟨v, e, i, j, e1, e2, b, e3, ?_⟩
      cases b with
      | false =>
        rw [if_neg Bool.false_ne_true] at h ⊢
        exact hm _ _ h
      | true =>
        rw [if_pos rfl] at h ⊢
        obtain ⟨v1, g1, v2, g2, i1, j1, g3, g4, p1, xs1, k1, v3, g5, g6, g7, g8, g9, b1, g10, h⟩ := h
        exact ⟨v1, g1, v2, g2, i1, j1, g3, g4, p1, xs1, k1, v3, g5, g6, g7, g8, g9, b1, g10, hm _ _ h⟩
theorem ok_termof {f : Addr} {fd : FuncData} (F : Fun K "term_of" "term_of" s_termof f fd) (T : PTx P K mg C CB fB CP fP CI fI) : FnOk P w K mg base CX0 1 f fd ["terms", "k"] (spTermof K) := by
  refine F.ok sc_termof (fun vs H Q E h => ?_) (fun cdv A outer s H vs Q E hr h => ?_)
  · obtain ⟨t, ts, k, rfl, _⟩ := h
    rfl
  · obtain ⟨t, ts, k, rfl, ht, k0, q⟩ := h
    refine ⟨_, (pss_one (ps_ret (pe_ifExp (pt_cmpR op_lt (pv 1) (pe_callB call_len (by rfl) T.z_len PySem.boot_len (pa_cons (pv 0) pa_nil)) (nomark _)) (pe_ix ix_tup (pv 0) (pv 1) (fun _ _ => rfl)) pe_int))), ?_⟩
    refine ⟨_, rfl, _, rfl, _, _, rfl, .inr ⟨_, SqT.of ht, rfl⟩, _, _, rfl, rfl, _, rfl, ?_⟩
    refine ite2 (fun c => ?_) (fun c => ?_)
    · have lt : k < ((ts.map V.int).length : Int) := of_decide_eq_true c
      rw [List.length_map] at lt
      obtain ⟨x, hx⟩ : ∃ x, ts[k.toNat]? = some x := ⟨_, List.getElem?_eq_getElem (by omega)⟩
      have ea : atI (ts.map V.int) k = some (.int x) := at_of (j := k.toNat) (by omega) (by rw [List.getElem?_map, hx]; rfl)
      rw [hx] at q
      exact ⟨_, rfl, _, rfl, t, _, _, .int x, rfl, rfl, SqT.of ht, ea, q⟩
    · have ge : ¬ k < ((ts.map V.int).length : Int) := fun z => c (decide_eq_true z)
      rw [List.length_map] at ge
      rw [List.getElem?_eq_none (by omega)] at q
      exact q
theorem ok_pinit {f : Addr} {fd : FuncData} {oc : Value} {od : Option Addr} {kV doc pm : Value} {an : Option Addr} {cdv ct : Value} {osl : Array (Option Value)} (lk : K.lookup f = some ⟨oc, od, .func (PySem.W.fnOf "__init__" "Poly.__init__" (defArgs s_pinit) (defBody s_pinit) (defScope s_pinit) .none kV doc pm an cdv ct), osl⟩) (hcd : PySem.W.codeIn K cdv "Poly.__init__" = true)
    (T : PTx P K mg C CB fB CP fP CI fI) (D_whole0 : DefAt P w K mg base CX0 1 "is_whole" ["value"] (spWhole0 C)) (D_wend : DefAt P w K mg base CX0 1 "without_end" ["terms"] spWend) : FnR P w K mg base (L2.CX P w) 3 f (spPoly C CB) := by
  have R := StX.fn_star (CX := L2.CX P w) (P := P) (w := w) (mg := mg) (base := base) (k := 2) (ps := ["self"]) (sp := spPinit C CB) lk hcd sc_pinit StX.cxUp (StX.bind_star1 (B := fun us => bindArgs (PySem.W.fnOf "__init__" "Poly.__init__" (defArgs s_pinit) (defBody s_pinit) (defScope s_pinit) .none kV doc pm an cdv ct) ⟨us, []⟩) (p1 := "self") (pv := "terms") (fun _ => rfl) (fun _ _ _ => rfl)) (fun A outer s H vs Q E hr h => ?_)
  · refine R.imp fun vs H Q E h => ?_
    obtain ⟨p, dx, xs, rfl, hp, hl, ty, k1, k2⟩ := h
    refine ⟨[.ref p], xs, rfl, rfl, by rw [sizeLine_eq]; omega, fun tt htt => ?_⟩
    have st := same_new (o := .tup xs) htt
    exact ⟨p, dx, tt, xs, rfl, st _ _ hp, upd_same, hl, fun v hv => (ty v hv).same st, fun ts e H' po kp => k1 ts e H' po fun c o e' n => kp c o (st _ _ e') n, fun i v e1 e2 e3 => (k2 i v e1 e2 e3).up st⟩
  · obtain ⟨p, dx, tt, xs, rfl, hp, htt, hl, ty, k1, k2⟩ := h
    refine ⟨_, (pss_cons (ps_for (passes_of rfl) rfl (My.pi_enumT (by rfl) T.z_enumerate (pa_cons (pv 1) pa_nil)) (pg_tup rfl (pgs_cons (pg_name (i := 2) sc_pinit.nd rfl (Or.inl rfl)) (pgs_cons (pg_name (i := 3) sc_pinit.nd rfl (Or.inl rfl)) pgs_nil))) (pss_one (ps_if (pt_not (pt_val (My.pe_d D_whole0 (hr.mono (by decide)) (by rfl) pass0 (pa_cons (pv 3) pa_nil)))) (pss_one (ps_raise1 rfl T.e_BadPoly (hr.mono (by decide) : Room 0 _) (takes_of rfl rfl rfl rfl) (pa_cons (pv 2) pa_nil))) pss_nil)))
      (pss_cons (ps_fld (pv 0) (My.pe_d D_wend (hr.mono (by decide)) (by rfl) pass0 (pa_cons (pv 1) pa_nil)) rfl)
      (pss_one (ps_fld (pv 0) (pe_op op_sub (pe_callB call_len (by rfl) T.z_len PySem.boot_len (pa_cons (pe_fld (pv 0) rfl) pa_nil)) pe_int) rfl)))), ?_⟩
    refine ⟨_, rfl, tt, _, rfl, SqT.of htt, for_enumT (K := K) (a := tt) (xs := xs) (fun i σ H' => ∃ v2 v3, σ = [some (.ref p), some (.ref tt), v2, v3] ∧ Same H H' ∧ ∀ (j : Nat) (u : V), j < i → xs[j]? = some u → isI u = true) ⟨none, none, rfl, fun _ _ e => e, fun j u z => absurd z (Nat.not_lt_zero _)⟩ (fun i σ H' _ hh => by obtain ⟨_, _, _, s, _⟩ := hh; exact SqT.of (s _ _ htt)) ?_ ?_⟩
    · rintro i x σ H' T' hx ⟨v2, v3, rfl, sh, al⟩ hT
      have s2 := sh.trans (same_new (o := .tup [.int (i : Nat), x]) hT)
      refine ⟨T', _, rfl, SqT.of upd_same, rfl, _, _, rfl, _, _, rfl, rfl, ?_⟩
      refine ⟨_, rfl, x, rfl, (ty x (List.mem_of_getElem? hx)).same s2, _, rfl, ?_⟩
      cases e : isI x with
      | false => exact iteT ⟨_, rfl, _, rfl, fun d hd => ((k2 i x hx e al).up s2).go hd⟩
      | true =>
        refine iteF ⟨_, _, rfl, s2, fun j u hj hu => ?_⟩
        by_cases z : j = i
        · rw [z, hx] at hu
          cases hu
          exact e
        · exact al j u (by omega) hu
    · rintro σ H' ⟨v2, v3, rfl, sh, al⟩
      obtain ⟨ts, rfl⟩ := ints_of xs fun v hv => by
        obtain ⟨j, hj⟩ := List.getElem?_of_mem hv
        exact al j v (List.getElem?_eq_some_iff.mp hj).1 hj
      rw [List.length_map] at hl
      refine ⟨_, rfl, tt, ts, rfl, sh _ _ htt, hl, fun r H2 hr2 s2 => ?_⟩
      have hp2 := s2 _ _ (sh _ _ hp)
      refine ⟨_, rfl, p, C, dx, _, rfl, hp2, T.cl, T.nT, (by show 0 < 1000; decide), ?_⟩
      have rp : r ≠ p := ne_of hr2 hp2 (by intro z; cases z)
      have hr3 : (upd H2 p (.ins C dx (putF "terms" (.ref r) []))) r = some (.tup ((trim ts).map V.int)) := by
        rw [upd_ne rp]
        exact hr2
      refine ⟨_, rfl, p, C, dx, _, .ref r, rfl, upd_same, T.cl, T.nT, (by rw [lookup_putF, if_pos rfl]), .ref r, (trim ts).length, rfl, .inr ⟨_, SqT.of hr3, (List.length_map ..).symm⟩, _, _, rfl, rfl, _, rfl, p, C, dx, _, rfl, upd_same, T.cl, T.nD, (by show 1 < 1000; decide), ?_⟩
      refine k1 ts rfl _ ⟨dx, r, upd_same, ?_⟩ fun c o e n => ?_
      · rw [upd_ne rp]
        exact hr3
      · rw [upd_ne n, upd_ne n]
        exact s2 _ _ (sh _ _ e)
theorem ok_pof {f : Addr} {fd : FuncData} (F : Fun K "of" "Poly.of" s_pof f fd) (T : PTx P K mg C CB fB CP fP CI fI) (M_Poly : MakeR P w K mg base (L2.CX P w) 3 "Poly" C (spPoly C CB)) : FnOk P w K mg base (L2.CX P w) 5 f fd ["cls", "terms"] (spPof K C CB) := by
  refine F.okX sc_pof (fun vs H Q E h => ?_) (fun cdv A outer s H vs Q E hr h => ?_)
  · obtain ⟨t, xs, rfl, _⟩ := h
    rfl
  · obtain ⟨t, xs, rfl, ht, hl, ty, k1, k2⟩ := h
    refine ⟨_, (pss_one (ps_ret (My.pe_mkS M_Poly (hr.mono (by decide)) (by rfl) (passes_call (takes_of rfl rfl rfl rfl) (fun _ _ _ _ h => h)) (pv 1)))), ?_⟩
    exact ⟨_, rfl, t, xs, rfl, ht, fun x dx hx hd ne => poly_at hl ty hx hd ne k1 k2⟩
theorem ok_pcall {f : Addr} {fd : FuncData} (F : Fun K "__call__" "Poly.__call__" s_pcall f fd) (T : PTx P K mg C CB fB CP fP CI fI) (D_needint : DefAt P w K mg base (L2.CX P w) 2 "need_integer" ["value"] (spNeed C CP)) : FnOk P w K mg base (L2.CX P w) 3 f fd ["self", "m"] (spPcall C CP) := by
  refine F.okX sc_pcall (fun vs H Q E h => ?_) (fun cdv A outer s H vs Q E hr h => ?_)
  · obtain ⟨p, ts, v, rfl, _⟩ := h
    rfl
  · obtain ⟨p, ts, v, rfl, ⟨dx, t, hp, ht⟩, hl, ty, k1, k2⟩ := h
    refine ⟨_, (pss_cons (ps_expr (My.pe_d D_needint (hr.mono (by decide)) (by rfl) (passes_call (takes_of rfl rfl rfl rfl) (fun _ _ _ _ h => h)) (pa_cons (pv 1) pa_nil)))
      (pss_cons (ps_set (i := 2) sc_pcall.nd rfl (Or.inl rfl) pe_int)
      (pss_cons (ps_for (passes_of rfl) rfl (pi_tup (My.pe_revT (pe_fld (pv 0) rfl))) (pg_name (i := 3) sc_pcall.nd rfl (Or.inl rfl)) (pss_one (ps_set (i := 2) sc_pcall.nd rfl (Or.inl rfl) (pe_op op_add (pe_op op_mulW (pv 2) (pv 1)) (pv 3)))))
      (pss_one (ps_ret (pv 2)))))), ?_⟩
    refine ⟨_, rfl, v, rfl, ty, fun e => ?_, fun e => k2 e⟩
    obtain ⟨m, rfl⟩ := isI_int e
    obtain ⟨cm, k1⟩ := k1 m rfl
    refine ⟨_, rfl, p, C, dx, _, .ref t, rfl, hp, T.cl, T.nT, pfs_terms _ _, t, _, rfl, SqT.of ht, fun q hq => ?_⟩
    have er : (ts.map V.int).reverse = ts.reverse.map V.int := (List.map_reverse ..).symm
    rw [er]
    refine ⟨q, rfl, ⟨_, SqT.of upd_same⟩, for_tup (K := K) (a := q) (xs := ts.reverse.map V.int) (fun i σ H' => ∃ v3, σ = [some (.ref p), some (.int m), some (.int ((ts.reverse.take i).foldl (fun f t => f * m + t) 0)), v3] ∧ H' = upd H q (.tup (ts.reverse.map V.int))) ⟨none, rfl, rfl⟩ (fun i σ H' _ hh => by obtain ⟨_, _, rfl⟩ := hh; exact SqT.of upd_same) ?_ ?_⟩
    · rintro i x σ H' hi ⟨v3, rfl, rfl⟩
      obtain ⟨y, hy, rfl⟩ := at_int hi
      have il : i ≤ ts.length := by
        have := (List.getElem?_eq_some_iff.mp hy).1
        rw [List.length_reverse] at this
        omega
      refine ⟨_, rfl, _, rfl, _, _, rfl, rfl, cm i il, _, rfl, _, _, rfl, rfl, ?_⟩
      refine ⟨some (.int y), ?_, rfl⟩
      rw [take1 hy, List.foldl_append]
      rfl
    · rintro σ H' ⟨v3, rfl, rfl⟩
      refine ⟨_, rfl, ?_⟩
      rw [List.length_map, List.take_length]
      exact k1 _ (same_new hq)
theorem ok_pget {f : Addr} {fd : FuncData} (F : Fun K "__getitem__" "Poly.__getitem__" s_pget f fd) (T : PTx P K mg C CB fB CP fP CI fI) (D_whole0 : DefAt P w K mg base CX0 1 "is_whole" ["value"] (spWhole0 C)) (D_termof : DefAt P w K mg base CX0 1 "term_of" ["terms", "k"] (spTermof K)) : FnOk P w K mg base (L2.CX P w) 2 f fd ["self", "k"] (spPget C CI) := by
  refine F.okX sc_pget (fun vs H Q E h => ?_) (fun cdv A outer s H vs Q E hr h => ?_)
  · obtain ⟨p, ts, v, rfl, _⟩ := h
    rfl
  · obtain ⟨p, ts, v, rfl, ⟨dx, t, hp, ht⟩, ty, k1, k2⟩ := h
    refine ⟨_, (pss_cons (ps_if (PW.pt (pw_or (pt_not (pt_val (My.pe_d D_whole0 (hr.mono (by decide)) (by rfl) pass0 (pa_cons (pv 1) pa_nil)))) (pw_or1 (pt_cmpR op_lt (pv 1) pe_int (nomark _))))) (pss_one (ps_raise1 rfl T.e_NoIndex (hr.mono (by decide) : Room 0 _) (takes_of rfl rfl rfl rfl) (pa_cons (pv 1) pa_nil))) pss_nil)
      (pss_one (ps_ret (My.pe_d D_termof (hr.mono (by decide)) (by rfl) pass0 (pa_cons (pe_fld (pv 0) rfl) (pa_cons (pv 1) pa_nil)))))), ?_⟩
    refine ⟨_, rfl, v, rfl, ty, _, rfl, ?_⟩
    cases e : isI v with
    | false => exact iteT (iteT ⟨_, rfl, _, rfl, fun d hd => (k2 (.inl e)).go hd⟩)
    | true =>
      obtain ⟨i, rfl⟩ := isI_int e
      refine iteF ⟨_, rfl, _, _, rfl, rfl, _, rfl, ?_⟩
      refine ite2 (fun c => ?_) (fun c => ?_)
      · exact ⟨_, rfl, _, rfl, fun d hd => (k2 (.inr ⟨i, rfl, of_decide_eq_true c⟩)).go hd⟩
      · have i0 : 0 ≤ i := by
          by_cases z : i < 0
          · exact absurd (decide_eq_true z) c
          · omega
        exact ⟨_, rfl, p, C, dx, _, .ref t, rfl, hp, T.cl, T.nT, pfs_terms _ _, _, rfl, t, ts, i, rfl, ht, i0, k1 i rfl i0⟩
theorem eqv_ints : ∀ ts us : List Int, PyData.eqvAll (ts.map PyData.int) (us.map PyData.int) = decide (ts = us)
  | [], [] => rfl
  | [], u :: us => rfl
  | t :: ts, [] => rfl
  | t :: ts, u :: us => by
    show (t == u && PyData.eqvAll (ts.map PyData.int) (us.map PyData.int)) = _
    rw [eqv_ints ts us]
    by_cases h1 : t = u
    · by_cases h2 : ts = us
      · subst h1
        subst h2
        simp
      · simp [h1, h2]
    · simp [h1]
theorem shaped_tup (ns : List Int) : SeqAt.shaped (.tuple (ns.map PyData.int)) = true := by
  show (PyData.canLayAll0 (ns.map PyData.int) && decide (PyData.depthAll (ns.map PyData.int) + 1 ≤ 64)) = true
  rw [lay_ints, dep_ints]
  rfl
theorem ok_peq {f : Addr} {fd : FuncData} (F : Fun K "__eq__" "Poly.__eq__" s_peq f fd) (T : PTx P K mg C CB fB CP fP CI fI) : FnOk P w K mg base CX0 1 f fd ["self", "other"] (spPeq C) := by
  refine F.ok sc_peq (fun vs H Q E h => ?_) (fun cdv A outer s H vs Q E hr h => ?_)
  · obtain ⟨p, ts, v, rfl, _⟩ := h
    rfl
  · obtain ⟨p, ts, v, rfl, ⟨dx, t, hp, ht⟩, hl, h⟩ := h
    refine ⟨_, (pss_one (ps_ret (pe_and (pe_callB call_isi (by rfl) T.z_isinstance boot_isinstance (pa_cons (pv 1) (pa_cons (pe_glob (v := .ref C) (by rfl) T.gP rfl) pa_nil))) (pe_one (pe_cmpR (op_eqD hr.units) (pe_fld (pv 0) rfl) (pe_fld (pv 1) rfl) (nomark _)))))), ?_⟩
    rcases h with ⟨q, us, rfl, hq, ul, k⟩ | ⟨⟨ty, hty⟩, k⟩
    · obtain ⟨dq, tq, eq, etq⟩ := id hq
      refine ⟨_, rfl, _, _, _, _, true, rfl, .own _, T.ty hq, T.me, _, rfl, iteT ?_⟩
      refine ⟨_, rfl, p, C, dx, _, .ref t, rfl, hp, T.cl, T.nT, pfs_terms _ _, _, rfl, q, C, dq, _, .ref tq, rfl, eq, T.cl, T.nT, pfs_terms _ _, ?_⟩
      refine ⟨.tuple (ts.map PyData.int), .tuple (us.map PyData.int), .tup (SqT.of ht) (dp_ints ts), .tup (SqT.of etq) (dp_ints us), shaped_tup ts, shaped_tup us, ?_⟩
      have e : PyData.eqv (.tuple (ts.map PyData.int)) (.tuple (us.map PyData.int)) = decide (ts = us) := eqv_ints ts us
      rw [e]
      exact k
    · exact ⟨_, rfl, _, _, _, _, false, rfl, .own _, hty.tyx, (T.kn _ hty.mem).1, _, rfl, iteF k⟩
theorem ok_pbool {f : Addr} {fd : FuncData} (F : Fun K "__bool__" "Poly.__bool__" s_pbool f fd) (T : PTx P K mg C CB fB CP fP CI fI) : FnOk P w K mg base CX0 1 f fd ["self"] (spPbool C) := by
  refine F.ok sc_pbool (fun vs H Q E h => ?_) (fun cdv A outer s H vs Q E hr h => ?_)
  · obtain ⟨p, ts, rfl, _⟩ := h
    rfl
  · obtain ⟨p, ts, rfl, ⟨dx, t, hp, ht⟩, k⟩ := h
    refine ⟨_, (pss_one (ps_ret (pe_callTy My.call_boolT (by rfl) T.z_bool boot_bool (pa_cons (pe_fld (pv 0) rfl) pa_nil)))), ?_⟩
    refine ⟨_, rfl, p, C, dx, _, .ref t, rfl, hp, T.cl, T.nT, pfs_terms _ _, t, _, rfl, SqT.of ht, ?_⟩
    rw [List.isEmpty_map]
    exact k
end
end My
/-! == of lists of tuples whose items are the same objects; == of lists of unlike lengths. -/
namespace My
open PySem PySem.Spec PyProof.Rows L2
/-- flat and equal, or the same object -/
def DSelf : Eqv := fun x y H => DFlat x y H ∨ ∃ a, x = .ref a ∧ y = .ref a
theorem mon_self : Mon DSelf := fun _ _ _ _ _ d => d
theorem eqG_self {X : Cx} : EqG X 0 DSelf := by
  intro A pins s σ H x y u v sb I rx ry d
  rcases d with d | ⟨a, rfl, rfl⟩
  · exact eqG_flat A pins s σ H x y u v sb I rx ry d
  · cases rx
    cases ry
    exact SeqAt.EqAt.same (A := A) (s := s) (.ref a) X.prog X.w X.xe _ ⟨rfl, H, I, Ext.rfl'⟩
/-- two lists of tuples of such items -/
def rEqTs (K : PySem.W.Frag) : R2 := rEqG (DList (DTup K DSelf))
theorem op_eqTs {X : Cx} {n : Nat} (hr : Room n X.A) (hn : 2 ≤ n := by decide) : OpR X (compareOp .Eq) (rEqTs X.K) := op_eqG (rcG_list (mon_tup mon_self) (eqG_tup mon_self eqG_self)) (hr.mono hn)
theorem Prs.self {H : Hp} : ∀ {xs : List V}, (∀ v ∈ xs, flatV v = true ∨ ∃ a, v = .ref a) → Prs DSelf xs xs H
  | [], _ => Prs.nil
  | x :: xs, h => by
    refine Prs.cons ?_ (Prs.self fun v hv => h v (List.mem_cons_of_mem _ hv))
    rcases h x List.mem_cons_self with f | ⟨a, rfl⟩
    · refine .inl ⟨f, f, ?_⟩
      cases x with
      | non => rfl
      | bl b => exact beq_self_eq_true b
      | int i => exact beq_self_eq_true i
      | str t => exact beq_self_eq_true t
      | _ => cases f
    · exact .inr ⟨a, rfl, rfl⟩
theorem TyL.flat {C : Addr} {H : Hp} {v : V} (h : TyL C H v) : flatV v = true ∨ ∃ a, v = .ref a := by
  rcases h with ⟨t, h⟩ | ⟨a, _, _, e, _⟩
  · cases h with
    | lst _ => exact .inr ⟨_, rfl⟩
    | tup _ => exact .inr ⟨_, rfl⟩
    | dK _ => exact .inr ⟨_, rfl⟩
    | _ => exact .inl rfl
  · exact .inr ⟨a, e⟩
/-- l == m, of unlike lengths -/
def rEqLen (K : PySem.W.Frag) : R2 := fun x y H Q => ∃ a b xs ys, x = .ref a ∧ y = .ref b ∧ SqL K H a xs ∧ SqL K H b ys ∧ xs.length ≠ ys.length ∧ Q (.bl false) H
theorem op_eqLen {X : Cx} {n : Nat} (hr : Room n X.A) : OpR X (compareOp .Eq) (rEqLen X.K) := by
  intro pins s σ H x y v u Q I rx ry h
  obtain ⟨a, b, xs, ys, rfl, rfl, ha, hb, hl, q⟩ := h
  cases (show v = Value.ref a from rx)
  cases (show u = Value.ref b from ry)
  obtain ⟨us, r1, p1, _⟩ := I.list ha
  obtain ⟨ws, r2, p2, _⟩ := I.list hb
  have hz : (us.toArray.size != ws.toArray.size) = true := by
    rw [List.size_toArray, List.size_toArray, ← r1.length, ← r2.length]
    exact bne_iff_ne.mpr hl
  exact SeqAt.RcAt.lists_lengths p1.isList p2.isList hz hr.units0 X.prog X.w X.xe _ ⟨.bl false, H, I, rfl, q⟩
end My
/-! try with several except clauses, some of them «as n». -/
namespace My
open PySem PySem.Spec PyProof.Rows L2
/-- one clause: its class, what its suite is read as, the slot of its name -/
structure Cls1 where
  c : Value
  i : Option Nat
  ts : Addr → Value → Option Addr → TS
def behind (i : Option Nat) (D : Ends) : Ends := match i with
  | none => D
  | some i => { nx := fun σ H => D.nx (σ.set i none) H, rt := D.rt, bk := fun σ H => D.bk (σ.set i none) H, ct := fun σ H => D.ct (σ.set i none) H }
def within (i : Option Nat) (a : Addr) (σ : L2.St) : L2.St := match i with
  | none => σ
  | some i => σ.set i (some (.ref a))
/-- what the clauses wish of an error of the body -/
def wMix (K : PySem.W.Frag) (n : Nat) (Wout : WX) (D : Ends) : List Cls1 → WX
  | [] => Wout
  | q :: r => fun cls d σ H => ∃ b, PySem.W.exmOne K cls q.c = some b ∧ (b = true → ∀ a, H a = none → σ.length = n → q.ts a cls d (behind q.i D) (within q.i a σ) H) ∧ (b = false → wMix K n Wout D r cls d σ H)
inductive Mixed (X : Cx) : List ExceptHandler → List Cls1 → Prop
  | nil : Mixed X [] []
  | bare {x : Str} {c : Value} {ts : Addr → Value → Option Addr → TS} {st : Stmt} {suite : List Stmt} {np pos : Pos} {hds : List ExceptHandler} {l : List Cls1} (hc : Names X x c)
      (hsu : ∀ (a : Addr) (oe : Obj) (cls : Value) (d : Option Addr) (pn : List (Addr × Obj)), Zc cls d oe → (∃ vs, oe.data = .fields vs) → PSs (X.suite a ((a, oe) :: pn)) (st :: suite) (ts a cls d)) (r : Mixed X hds l) :
      Mixed X (.ExceptHandler (some (.Name x np)) none (st :: suite) pos :: hds) (⟨c, none, ts⟩ :: l)
  | named {x n : Str} {c : Value} {i : Nat} {ts : Addr → Value → Option Addr → TS} {st : Stmt} {suite : List Stmt} {np pos : Pos} {hds : List ExceptHandler} {l : List Cls1} (hc : Names X x c) (hi : X.N[i]? = some n) (hl : X.env.kindOf n = some .local)
      (hsu : ∀ (a : Addr) (oe : Obj) (cls : Value) (d : Option Addr) (pn : List (Addr × Obj)), Zc cls d oe → (∃ vs, oe.data = .fields vs) → PSs (X.suite a ((a, oe) :: pn)) (st :: suite) (ts a cls d)) (r : Mixed X hds l) :
      Mixed X (.ExceptHandler (some (.Name x np)) (some n) (st :: suite) pos :: hds) (⟨c, some i, ts⟩ :: l)
section
variable {X : Cx} {body : List Stmt} {hd1 : ExceptHandler} {hds : List ExceptHandler} {l : List Cls1} {pos : Pos} {tb : WX → TS} {Wout : WX}
theorem ps_try_mix (hs : X.stack = X.env :: X.outer) (hf : X.env.frame = some X.env.locals) (hN : X.N.Nodup) (tk : Takes X Wout)
    (hb : ∀ (W : WX) (pn : List (Addr × Obj)) (xe : Value → Shared → Prop), Takes (X.tr pn xe) W → PassesOwn (model X.prog X.w) X.A X.env xe → PSs (X.tr pn xe) body (tb W)) (hh : Mixed X (hd1 :: hds) l) :
    PS X (.Try body (hd1 :: hds) [] [] pos) (fun D σ H => tb (wMix X.K X.N.length Wout D l) D σ H) := by
  refine ⟨fun pins s σ H D I h => ?_⟩
  have ok := I.ok
  have hfr : X.A.frames = some (X.env :: X.outer) := by rw [ok.frames, hs]
  refine wpAny_Try_except ?_
  refine wpAny_mono ((hb (wMix X.K X.N.length Wout D l) (X.pn ++ pins) (fun e t1 => wpAny (model X.prog X.w) X.A (noteFrame e X.env) (fun _ t2 => wpAny (model X.prog X.w) X.A (setFlight e none) (fun _ t3 =>
    wpAny (model X.prog X.w) X.A (handleBy e X.env (hd1 :: hds)) (SP X pins D) X.xe t3) X.xe t2) X.xe t1) (fun u s' xx => ?_) PassesOwn.looking).run [] s σ H D (I.toTry _) h) (fun fl t1 hsp => ?_) (fun _ _ he => he)
  · obtain ⟨a, B, sI, pins', σ1, H1, cls, d, rfl, J0, nb, up, sky, na, os, ag, wish⟩ := xx
    have J : Inv X pins σ1 H1 sI := J0.ofTry ok
    have sky1 : Sky B (X.env :: X.outer) a (Zc cls d) X.env.locals s'.heap := by rw [← hs]; exact sky
    show wpAny (model X.prog X.w) X.A (noteFrame (.ref a) X.env) _ _ _
    refine Sky.land Zc.steady hfr hf sky1 fun h3 fl3 up3 => ?_
    have J3 : Inv X pins σ1 H1 { s' with heap := h3 } := J.landed nb fl3.1 (up.trans up3) os ag
    obtain ⟨oe3, vs3, he3, hz3, hd3⟩ := fl3.there
    have nfr : a ∉ frs (X.env :: X.outer) := fun hm => by
      obtain ⟨_, o', e', hnf⟩ := fl3.2.2.1.mem hm
      rw [he3] at e'
      cases e'
      exact hnf _ hd3
    have nL : a ≠ X.env.locals := fun z => nfr (List.mem_filterMap.mpr ⟨X.env, List.mem_cons_self, by rw [hf, z]⟩)
    have nF : a ∉ X.fs := fun hm => by
      obtain ⟨e1, he1, q1⟩ := List.mem_filterMap.mp hm
      exact nfr (List.mem_filterMap.mpr ⟨e1, List.mem_cons_of_mem _ he1, q1⟩)
    have S3 := J3.suite he3 hd3 na nL nF
    have LT : PySem.W.Looks (model X.prog X.w) h3 (typeOf (.ref a)) cls := fun A Q E s k q => wpAny_typeOf_ref (k _ _ he3) (by rw [hz3.1]; exact q)
    have test : ∀ {x : Str} {c : Value} {np : Pos} {Q : Value → Shared → Prop} {E : Value → Shared → Prop}, Names X x c → Q c { s' with heap := h3 } → wpAny (model X.prog X.w) (X.A.mark (some (.ref a))) (eval (.Name x np) X.env) Q E { s' with heap := h3 } := fun {x c np Q E} hc q => by
      obtain ⟨hg, hdbg, hm | ⟨hm, hv, hnn⟩⟩ := hc
      · exact ld_glob (X := X.suite a ((a, oe3) :: (X.pn ++ pins))) S3 hg hm q hdbg
      · exact ld_blt (X := X.suite a ((a, oe3) :: (X.pn ++ pins))) S3 hg hm hv q hnn hdbg
    have all : ∀ {hs' : List ExceptHandler} {l' : List Cls1}, Mixed X hs' l' → wMix X.K X.N.length Wout D l' cls d σ1 H1 → wpAny (model X.prog X.w) X.A (handleBy (.ref a) X.env hs') (SP X pins D) X.xe { s' with heap := h3 } := by
      intro hs' l' M
      induction M with
      | nil =>
        intro wq
        refine wpAny_handleBy_nil ?_
        obtain ⟨w1, w2, w3, oe, vs, T, oT, ts', he, hz, hdd, h1, hr⟩ := id fl3
        unfold PySem.passOn
        refine wpAny_bind (wpAny_field he hdd h1 ?_)
        rw [if_neg (show ¬ ((Value.ref T == Value.none) = true) from by simp)]
        have fin : wpAny (model X.prog X.w) X.A (setFlight (.ref a) X.env.frame) (fun _ t4 => wpAny (model X.prog X.w) X.A (throw (.ref a) : Sem Flow) (SP X pins D) X.xe t4) X.xe { s' with heap := h3 } := by
          rw [hf]
          refine HandSPX.setFlight_upZ fl3 fun h4 hh4 up4 => wpAny_throw (tk _ _ ?_)
          exact ⟨a, B, sI, pins, σ1, H1, cls, d, rfl, J, nb, (up.trans up3).trans up4, .inr (.inr (by rw [hs]; exact hh4)), na, os, ag, wq⟩
        first
          | exact wpAny_bind (wpAny_pure (wpAny_bind fin))
          | exact wpAny_bind fin
      | @bare x c ts st suite np pos' hds2 l2 hc hsu r ih =>
        rintro ⟨b, hb1, hyes, hno⟩
        refine wpAny_handleBy_cons (codeAny_handlers_test ?_) (by intro q; cases q)
        refine test hc ((PySem.W.exm_one (M := model X.prog X.w) (J3.kIn) LT hb1).here ?_)
        cases b with
        | true =>
          refine codeAny_handlers_suite (HandSPX.lands_againZ fl3 fun h4 fl4 up4 => ?_)
          have J4 : Inv X pins σ1 H1 { s' with heap := h4 } := J.landed nb fl4.1 ((up.trans up3).trans up4) os ag
          obtain ⟨oe4, vs4, he4, hz4, hd4⟩ := fl4.there
          have S4 := J4.suite he4 hd4 na nL nF
          refine wpAny_mono ((hsu a oe4 cls d (X.pn ++ pins) hz4 ⟨_, hd4⟩).run [] _ _ H1 _ S4 (hyes rfl a na J.len)) (fun fl t6 hsp => ?_) (fun _ _ z => False.elim z)
          cases fl with
          | next => obtain ⟨σ6, H6, S6, q6⟩ := hsp; exact ⟨_, _, S6.unsuite ok, q6⟩
          | brk => obtain ⟨σ6, H6, S6, q6⟩ := hsp; exact ⟨_, _, S6.unsuite ok, q6⟩
          | cont => obtain ⟨σ6, H6, S6, q6⟩ := hsp; exact ⟨_, _, S6.unsuite ok, q6⟩
          | ret u => obtain ⟨v6, σ6, H6, S6, r6, q6⟩ := hsp; exact ⟨_, _, _, S6.unsuite ok, r6, q6⟩
        | false =>
          show wpAny _ X.A (handleBy (.ref a) X.env hds2) _ _ _
          exact ih (hno rfl)
      | @named x n c i ts st suite np pos' hds2 l2 hc hi hln hsu r ih =>
        rintro ⟨b, hb1, hyes, hno⟩
        refine wpAny_handleBy_cons (codeAny_handlers_test ?_) (by intro q; cases q)
        refine test hc ((PySem.W.exm_one (M := model X.prog X.w) (J3.kIn) LT hb1).here ?_)
        cases b with
        | true =>
          refine codeAny_handlers_suite_as (HandSPX.lands_againZ fl3 fun h4 fl4 up4 => ?_)
          have J4 : Inv X pins σ1 H1 { s' with heap := h4 } := J.landed nb fl4.1 ((up.trans up3).trans up4) os ag
          obtain ⟨oe4, vs4, he4, hz4, hd4⟩ := fl4.there
          have S4 := J4.suite he4 hd4 na nL nF
          refine store_ok (X := X.suite a ((a, oe4) :: (X.pn ++ pins))) (v := .ref a) S4 hN hi (.inl hln) rfl (fun s5 S5 => ?_) (.inr hln)
          refine wpAny_mono ((hsu a oe4 cls d (X.pn ++ pins) hz4 ⟨_, hd4⟩).run [] s5 _ H1 _ S5 (hyes rfl a na J.len)) (fun fl t6 hsp => ?_) (fun _ _ z => False.elim z)
          have off : ∀ {σ6 : L2.St} {H6 : Hp} {Q : Shared → Prop}, Inv (X.suite a ((a, oe4) :: (X.pn ++ pins))) [] σ6 H6 t6 → (∀ t7, Inv X pins (σ6.set i none) H6 t7 → Q t7) →
              wpAny (model X.prog X.w) X.A (do bindName X.env n .none; unbindBehindTheSuite X.env n pos') (fun _ t7 => Q t7) X.xe t6 := fun {σ6 H6 Q} S6 hq => gone_ok (S6.unsuite ok) hN hi hln hq
          cases fl with
          | next => obtain ⟨σ6, H6, S6, q6⟩ := hsp; exact off S6 fun t7 J7 => ⟨_, _, J7, q6⟩
          | brk => obtain ⟨σ6, H6, S6, q6⟩ := hsp; exact off S6 fun t7 J7 => ⟨_, _, J7, q6⟩
          | cont => obtain ⟨σ6, H6, S6, q6⟩ := hsp; exact off S6 fun t7 J7 => ⟨_, _, J7, q6⟩
          | ret u => obtain ⟨v6, σ6, H6, S6, r6, q6⟩ := hsp; exact off S6 fun t7 J7 => ⟨_, _, _, J7, r6, q6⟩
        | false =>
          show wpAny _ X.A (handleBy (.ref a) X.env hds2) _ _ _
          exact ih (hno rfl)
    exact all hh wish
  · cases fl with
    | next => obtain ⟨σ', H', J', q⟩ := hsp; exact wpAny_execs_nil ⟨σ', H', J'.ofTry ok, q⟩
    | brk => obtain ⟨σ', H', J', q⟩ := hsp; exact ⟨σ', H', J'.ofTry ok, q⟩
    | cont => obtain ⟨σ', H', J', q⟩ := hsp; exact ⟨σ', H', J'.ofTry ok, q⟩
    | ret u => obtain ⟨v, σ', H', J', r, q⟩ := hsp; exact ⟨v, σ', H', J'.ofTry ok, r, q⟩
end
end My
namespace My
open PySem PySem.Spec PyProof.Rows L2
abbrev s_ttext : Stmt := topS 16
theorem sc_ttext : FnScope ["term", "power", "name"] ["term", "power"] (defScope s_ttext) := ⟨rfl, rfl, rfl, by decide +kernel, rfl, by decide +kernel, by decide +kernel⟩
abbrev s_tstext : Stmt := topS 19
theorem sc_tstext : FnScope ["terms", "found", "power", "term", "sign", "ahead"] ["terms"] (defScope s_tstext) := ⟨rfl, rfl, rfl, by decide +kernel, rfl, by decide +kernel, by decide +kernel⟩
abbrev s_pstr : Stmt := inClass (topS 26) 23
theorem sc_pstr : FnScope ["self"] ["self"] (defScope s_pstr) := ⟨rfl, rfl, rfl, by decide +kernel, rfl, by decide +kernel, by decide +kernel⟩
/-- term_text: some text, no longer than that -/
def spTtext : Sp := fun vs H Q _ => ∃ (t p : Int), vs = [.int t, .int p] ∧ t.natAbs.log2 < 1920 ∧ p.natAbs.log2 < 1920 ∧ ∀ z : Str, z.length ≤ 4000 → Q (.str z) H
def spTstext : Sp := fun vs H Q _ => ∃ (t : Addr) (ts : List Int), vs = [.ref t] ∧ H t = some (.tup (ts.map V.int)) ∧ ts.length ≤ 1000 ∧ (∀ z ∈ ts, z.natAbs.log2 < 1920) ∧ ∀ z : Str, Q (.str z) H
def spPstr (C : Addr) : Sp := fun vs H Q _ => ∃ (p : Addr) (ts : List Int), vs = [.ref p] ∧ PolyAt C H p ts ∧ ts.length ≤ 1000 ∧ (∀ z ∈ ts, z.natAbs.log2 < 1920) ∧ ∀ z : Str, Q (.str z) H
theorem abs_eq (t : Int) : (if t < 0 then -t else t).natAbs = t.natAbs := by split <;> omega
theorem e0_ : (Str.empty).length = 0 := rfl
section
variable {P : Program} {w : World} {K : PySem.W.Frag} {mg : Str → Option Value} {base : Heap} {C CB fB CP fP CI fI : Addr}
theorem ok_ttext {f : Addr} {fd : FuncData} (F : Fun K "term_text" "term_text" s_ttext f fd) (T : PTx P K mg C CB fB CP fP CI fI) : FnOk P w K mg base CX0 1 f fd ["term", "power"] spTtext := by
  refine F.ok sc_ttext (fun vs H Q E h => ?_) (fun cdv A outer s H vs Q E hr h => ?_)
  · obtain ⟨t, p, rfl, _⟩ := h
    rfl
  · obtain ⟨t, p, rfl, lt, lp, k⟩ := h
    refine ⟨_, (pss_cons (ps_if (pt_cmpR op_eq (pv 1) pe_int (nomark _)) (pss_one (ps_ret (pe_callTy call_str_int (by rfl) T.z_str boot_str (pa_cons (pv 0) pa_nil)))) pss_nil)
      (C8.pss_cut (ps_set (i := 2) sc_ttext.nd rfl (Or.inl rfl) (pe_ifExp (pt_cmpR op_eq (pv 1) pe_int (nomark _)) pe_str (pe_joined (PJ.cons pe_str (PJ.cons (pe_fmt (pv 1)) PJ.nil)))))
      (pss_one (ps_ret (pe_ifExp (pt_cmpR op_eq (pv 0) pe_int (nomark _)) (pv 2) (pe_joined (PJ.cons (pe_fmt (pv 0)) (PJ.cons (pe_fmt (pv 2)) PJ.nil)))))))), ?_⟩
    have nt := num_len lt
    have np := num_len lp
    refine ⟨_, rfl, rfl, _, rfl, ?_⟩
    refine ite2 (fun c => ?_) (fun c => ?_)
    · exact ⟨_, rfl, t, rfl, lt, k _ (by omega)⟩
    · refine ⟨fun σ Hz => ∃ z : Str, σ = [some (.int t), some (.int p), some (.str z)] ∧ z.length ≤ 1923 ∧ Hz = H, ?_, ?_⟩
      · refine ⟨_, rfl, rfl, _, rfl, ?_⟩
        refine ite2 (fun c2 => ?_) (fun c2 => ?_)
        · exact ⟨_, rfl, by decide, rfl⟩
        · have e2 : (("m^" : Str)).length = 2 := rfl
          refine ⟨_, rfl, by rw [app_len, sizeLine_eq, e0_, e2]; omega, _, rfl, .inr ⟨p, rfl, lp, _, rfl, by rw [app_len, app_len, sizeLine_eq, e0_, e2]; omega, ?_⟩⟩
          exact ⟨_, rfl, by rw [app_len, app_len, e0_, e2]; omega, rfl⟩
      · rintro σ Hz ⟨z, rfl, lz, rfl⟩
        refine ⟨_, rfl, rfl, _, rfl, ?_⟩
        refine ite2 (fun c2 => ?_) (fun c2 => ?_)
        · exact ⟨_, rfl, k _ (by omega)⟩
        · exact ⟨_, rfl, .inr ⟨t, rfl, lt, _, rfl, by rw [app_len, sizeLine_eq, e0_]; omega, _, rfl, .inl ⟨z, rfl, by rw [sizeLine_eq]; omega, _, rfl, by rw [app_len, app_len, sizeLine_eq, e0_]; omega, k _ (by rw [app_len, app_len, e0_]; omega)⟩⟩⟩
theorem ok_tstext {f : Addr} {fd : FuncData} (F : Fun K "terms_text" "terms_text" s_tstext f fd) (T : PTx P K mg C CB fB CP fP CI fI) (D_ttext : DefAt P w K mg base CX0 1 "term_text" ["term", "power"] spTtext) : FnOk P w K mg base CX0 2 f fd ["terms"] spTstext := by
  refine F.ok sc_tstext (fun vs H Q E h => ?_) (fun cdv A outer s H vs Q E hr h => ?_)
  · obtain ⟨t, ts, rfl, _⟩ := h
    rfl
  · obtain ⟨t, ts, rfl, ht, hl, lg, k⟩ := h
    refine ⟨_, (pss_cons (ps_set (i := 1) sc_tstext.nd rfl (Or.inl rfl) pe_str)
      (pss_cons (ps_for PassesOwn.never rfl (pi_range3 rfl T.z_range (pa_cons (pe_op op_sub (pe_callB call_len (by rfl) T.z_len PySem.boot_len (pa_cons (pv 0) pa_nil)) pe_int) (pa_cons (pe_un un_neg pe_int) (pa_cons (pe_un un_neg pe_int) pa_nil)))) (pg_name (i := 2) sc_tstext.nd rfl (Or.inl rfl)) (pss_cons (ps_set (i := 3) sc_tstext.nd rfl (Or.inl rfl) (pe_ix ix_tup (pv 0) (pv 2) (fun _ _ => rfl)))
      (pss_one (ps_if (pt_cmpR op_ne (pv 3) pe_int (nomark _)) (C8.pss_cut (ps_set (i := 4) sc_tstext.nd rfl (Or.inl rfl) (pe_ifExp (pt_cmpR op_lt (pv 3) pe_int (nomark _)) pe_str pe_str))
      (C8.pss_cut (ps_set (i := 5) sc_tstext.nd rfl (Or.inl rfl) (pe_ifExp (pt_cmpR op_ne (pv 1) pe_str (nomark _)) (pe_joined (PJ.cons pe_str (PJ.cons (pe_fmt (pv 4)) (PJ.cons pe_str PJ.nil)))) (pe_ifExp (pt_cmpR op_lt (pv 3) pe_int (nomark _)) pe_str pe_str)))
      (pss_one (ps_set (i := 1) sc_tstext.nd rfl (Or.inl rfl) (pe_joined (PJ.cons (pe_fmt (pv 1)) (PJ.cons (pe_fmt (pv 5)) (PJ.cons (pe_fmt (My.pe_d D_ttext (hr.mono (by decide)) (by rfl) pass0 (pa_cons (pe_callB call_abs (by rfl) T.z_abs boot_abs (pa_cons (pv 3) pa_nil)) (pa_cons (pv 2) pa_nil)))) PJ.nil)))))))) pss_nil))))
      (pss_one (ps_ret (pe_ifExp (pt_cmpR op_ne (pv 1) pe_str (nomark _)) (pv 1) pe_str))))), ?_⟩
    refine ⟨_, rfl, _, ts.length, rfl, .inr ⟨_, SqT.of ht, (List.length_map ..).symm⟩, _, _, rfl, rfl, _, rfl, _, rfl, ?_⟩
    have rg : RgC ((ts.length : Int) - 1) (-1) (-1) ts.length := by
      have z := RgC.neg (i := (ts.length : Int) - 1) (j := -1) (by omega) (by omega) (by decide) (by decide)
      have e : (((ts.length : Int) - 1) - -1).toNat = ts.length := by omega
      rw [e] at z
      exact z
    refine ⟨(ts.length : Int) - 1, -1, -1, ts.length, rfl, rg, for_rangeC (lo := (ts.length : Int) - 1) (c := -1) (n := ts.length) (fun i σ H' => ∃ (z : Str) (v2 v3 v4 v5 : Option V), σ = [some (.ref t), some (.str z), v2, v3, v4, v5] ∧ z.length ≤ 5000 * i ∧ H' = H) ⟨_, none, none, none, none, rfl, Nat.le_refl _, rfl⟩ ?_ ?_⟩
    · rintro i σ H' hi ⟨z, v2, v3, v4, v5, rfl, lz, rfl⟩
      obtain ⟨x, hx⟩ : ∃ x, ts[ts.length - 1 - i]? = some x := ⟨_, List.getElem?_eq_getElem (by omega)⟩
      have ea : atI (ts.map V.int) ((ts.length : Int) - 1 + (i : Nat) * -1) = some (.int x) := at_of (j := ts.length - 1 - i) (by omega) (by rw [List.getElem?_map, hx]; rfl)
      have lx := lg x (List.mem_of_getElem? hx)
      refine ⟨_, rfl, _, rfl, t, _, _, .int x, rfl, rfl, SqT.of ht, ea, ?_⟩
      refine ⟨_, rfl, rfl, _, rfl, ?_⟩
      refine ite2 (fun c => ?_) (fun c => ⟨z, _, _, _, _, rfl, by omega, rfl⟩)
      refine ⟨fun σ Hz => ∃ sg : Str, σ = [some (.ref t), some (.str z), some (.int ((ts.length : Int) - 1 + (i : Nat) * -1)), some (.int x), some (.str sg), v5] ∧ sg.length = 1 ∧ Hz = H', ?_, ?_⟩
      · refine ⟨_, rfl, _, _, rfl, rfl, _, rfl, ?_⟩
        exact ite2 (fun _ => ⟨_, rfl, rfl, rfl⟩) (fun _ => ⟨_, rfl, rfl, rfl⟩)
      · rintro σ Hz ⟨sg, rfl, lsg, rfl⟩
        refine ⟨fun σ Hz2 => ∃ ah : Str, σ = [some (.ref t), some (.str z), some (.int ((ts.length : Int) - 1 + (i : Nat) * -1)), some (.int x), some (.str sg), some (.str ah)] ∧ ah.length ≤ 3 ∧ Hz2 = Hz, ?_, ?_⟩
        · refine ⟨_, rfl, rfl, _, rfl, ?_⟩
          refine ite2 (fun _ => ?_) (fun _ => ?_)
          · have e1 : ((" " : Str)).length = 1 := rfl
            refine ⟨_, rfl, by rw [app_len, sizeLine_eq, e0_, e1]; omega, _, rfl, .inl ⟨sg, rfl, by rw [sizeLine_eq]; omega, _, rfl, by rw [app_len, app_len, sizeLine_eq, e0_, e1]; omega, _, rfl, by rw [app_len, app_len, app_len, sizeLine_eq, e0_, e1]; omega, ?_⟩⟩
            exact ⟨_, rfl, by rw [app_len, app_len, app_len, e0_, e1]; omega, rfl⟩
          · refine ⟨_, rfl, _, _, rfl, rfl, _, rfl, ?_⟩
            exact ite2 (fun _ => ⟨_, rfl, by decide, rfl⟩) (fun _ => ⟨_, rfl, by decide, rfl⟩)
        · rintro σ Hz2 ⟨ah, rfl, lah, rfl⟩
          have lp : ((ts.length : Int) - 1 + (i : Nat) * -1).natAbs.log2 < 1920 := by
            refine Nat.lt_of_lt_of_le (PySem.Flt.log2_lt_of (k := 10) (by decide) ?_) (by decide)
            show _ < 1024
            omega
          refine ⟨_, rfl, .inl ⟨z, rfl, by rw [sizeLine_eq]; omega, _, rfl, by rw [app_len, sizeLine_eq, e0_]; omega, _, rfl, .inl ⟨ah, rfl, by rw [sizeLine_eq]; omega, _, rfl, by rw [app_len, app_len, sizeLine_eq, e0_]; omega, _, rfl, _, rfl, _, rfl, _, _, rfl, (by rw [abs_eq]; exact lx), lp, fun y ly => ?_⟩⟩⟩
          refine .inl ⟨y, rfl, by rw [sizeLine_eq]; omega, _, rfl, by rw [app_len, app_len, app_len, sizeLine_eq, e0_]; omega, ?_⟩
          exact ⟨_, _, _, _, _, rfl, by rw [app_len, app_len, app_len, e0_]; omega, rfl⟩
    · rintro σ H' ⟨z, v2, v3, v4, v5, rfl, lz, rfl⟩
      refine ⟨_, rfl, rfl, _, rfl, ?_⟩
      exact ite2 (fun _ => ⟨_, rfl, k _⟩) (fun _ => k _)
theorem ok_pstr {f : Addr} {fd : FuncData} (F : Fun K "__str__" "Poly.__str__" s_pstr f fd) (T : PTx P K mg C CB fB CP fP CI fI) (D_tstext : DefAt P w K mg base CX0 2 "terms_text" ["terms"] spTstext) : FnOk P w K mg base CX0 3 f fd ["self"] (spPstr C) := by
  refine F.ok sc_pstr (fun vs H Q E h => ?_) (fun cdv A outer s H vs Q E hr h => ?_)
  · obtain ⟨p, ts, rfl, _⟩ := h
    rfl
  · obtain ⟨p, ts, rfl, ⟨dx, t, hp, ht⟩, hl, lg, k⟩ := h
    refine ⟨_, (pss_one (ps_ret (pe_callTy SkE.call_str_str (by rfl) T.z_str boot_str (pa_cons (My.pe_d D_tstext (hr.mono (by decide)) (by rfl) pass0 (pa_cons (pe_fld (pv 0) rfl) pa_nil)) pa_nil)))), ?_⟩
    exact ⟨_, rfl, p, C, dx, _, .ref t, rfl, hp, T.cl, T.nT, pfs_terms _ _, t, ts, rfl, ht, hl, lg, fun z => ⟨_, rfl, k z⟩⟩
end
end My
namespace My
open PySem PySem.Spec PyProof.Rows L2
abbrev s_heard : Stmt := topS 31
theorem sc_heard : FnScope ["_law_ask", "error"] ["_law_ask"] (defScope s_heard) := ⟨rfl, rfl, rfl, by decide +kernel, rfl, by decide +kernel, by decide +kernel⟩
/-- what the top has written of the errors' classes -/
structure HTx (P : Program) (K : PySem.W.Frag) (mg : Str → Option Value) (CE CBadPoly fBadPoly CBadPlace fBadPlace CNoIndex fNoIndex : Addr) : Prop extends BI mg where
  gClip : mg "ClipError" = some (.ref CE)
  e_BadPoly : Sup.Err1 P K mg "BadPoly" "at" CBadPoly fBadPoly
  e_BadPlace : Sup.Err1 P K mg "BadPlace" "value" CBadPlace fBadPlace
  e_NoIndex : Sup.Err1 P K mg "NoIndex" "value" CNoIndex fNoIndex
  x_BadPoly_BadPoly : PySem.W.exmOne K (.ref CBadPoly) (.ref CBadPoly) = some true
  x_BadPlace_BadPoly : PySem.W.exmOne K (.ref CBadPlace) (.ref CBadPoly) = some false
  x_BadPlace_BadPlace : PySem.W.exmOne K (.ref CBadPlace) (.ref CBadPlace) = some true
  x_NoIndex_BadPoly : PySem.W.exmOne K (.ref CNoIndex) (.ref CBadPoly) = some false
  x_NoIndex_BadPlace : PySem.W.exmOne K (.ref CNoIndex) (.ref CBadPlace) = some false
  x_NoIndex_NoIndex : PySem.W.exmOne K (.ref CNoIndex) (.ref CNoIndex) = some true
/-- what heard hands back of an error -/
def WHeard (CBadPoly CBadPlace CNoIndex : Addr) (Q : VK) : XK := fun cls d H => (∃ (dd : Addr) (v0 : V), cls = .ref CBadPoly ∧ d = some dd ∧ H dd = some (.xd [("at", v0)]) ∧ ∀ t, H t = none → Q (.ref t) (upd H t (.tup [.str "poly", v0]))) ∨ ((∃ (dd : Addr) (v0 : V), cls = .ref CBadPlace ∧ d = some dd ∧ H dd = some (.xd [("value", v0)]) ∧ ∀ t, H t = none → Q (.ref t) (upd H t (.tup [.str "place", v0]))) ∨ ((∃ (dd : Addr) (v0 : V), cls = .ref CNoIndex ∧ d = some dd ∧ H dd = some (.xd [("value", v0)]) ∧ ∀ t, H t = none → Q (.ref t) (upd H t (.tup [.str "index", v0]))) ∨ (False)))
def THeard (CBadPoly CBadPlace CNoIndex : Addr) : (XK → Hp → VK → Prop) → Hp → VK → Prop := fun tl H Q => tl (WHeard CBadPoly CBadPlace CNoIndex Q) H fun v H' => [v].length ≤ sizeLine ∧ ∀ l, H' l = none → Q (.ref l) (upd H' l (.lst [v]))
theorem len2 {σ : List (Option V)} (h : σ.length = 2) : ∃ x0 x1, σ = [x0, x1] := by
  rcases σ with _ | ⟨x, _ | ⟨y, _ | ⟨z, r⟩⟩⟩
  · cases h
  · cases h
  · exact ⟨x, y, rfl⟩
  · simp at h
theorem heard_gives {X : Cx} {CE CBadPoly fBadPoly CBadPlace fBadPlace CNoIndex fNoIndex : Addr} (T : HTx X.prog X.K X.mg CE CBadPoly fBadPoly CBadPlace fBadPlace CNoIndex fNoIndex) {k : Nat} (hrX : Room (k + 1) X.A) (hgX : X.A.guards = some []) {g : Addr} {cdg : Value} {q : Str} :
    LamX.GivesTo X ["_law_ask", "error"] "_law_heard" (defScope s_heard) g cdg (defBody s_heard) "_law_ask" q (THeard CBadPoly CBadPlace CNoIndex) := by
  intro f c' s H Q tl act hc h
  refine ⟨_, (pss_one (ps_try_mix (X := (cxOf C8.CX0 X.prog X.w X.K X.mg X.base ["_law_ask", "error"] "_law_heard" (defScope s_heard) g cdg X.A X.stack s H C8.E0).nox)
    (tb := fun W D σ H => ∃ Ech : XK, (∀ cls d σ' H', Ech cls d H' → W cls d σ' H') ∧ σ[0]? = some (some (.ref f)) ∧ H c' = some (LamX.CodeO c' q) ∧ tl Ech H fun v H' => [v].length ≤ sizeLine ∧ ∀ l, H' l = none → D.rt (.ref l) (upd H' l (.lst [v])))
    (Wout := fun _ _ _ _ => False) rfl rfl sc_heard.nd LamX.takes0 (fun W pn xe tk _ => ?_) (Mixed.named (c := .ref CBadPoly) (i := 1) ⟨rfl, by decide, .inl T.e_BadPoly.gC⟩ rfl rfl (fun a oe cls d pn hz hf => pss_one (ps_ret (pe_tup (pa_cons pe_str (pa_cons (pe_xf T.e_BadPoly.rd T.e_BadPoly.nf hz hf (pv 1)) pa_nil))))) (Mixed.named (c := .ref CBadPlace) (i := 1) ⟨rfl, by decide, .inl T.e_BadPlace.gC⟩ rfl rfl (fun a oe cls d pn hz hf => pss_one (ps_ret (pe_tup (pa_cons pe_str (pa_cons (pe_xf T.e_BadPlace.rd T.e_BadPlace.nf hz hf (pv 1)) pa_nil))))) (Mixed.named (c := .ref CNoIndex) (i := 1) ⟨rfl, by decide, .inl T.e_NoIndex.gC⟩ rfl rfl (fun a oe cls d pn hz hf => pss_one (ps_ret (pe_tup (pa_cons pe_str (pa_cons (pe_xf T.e_NoIndex.rd T.e_NoIndex.nf hz hf (pv 1)) pa_nil))))) (Mixed.bare (c := .ref CE) ⟨rfl, by decide, .inl T.gClip⟩ (fun a oe cls d pn hz hf => pss_one (ps_ret (pe_tup (pa_cons pe_str pa_nil)))) Mixed.nil)))))), ?_⟩
  · refine ⟨fun pins s' σ H' D I h' => ?_⟩
    obtain ⟨Ech, hW, h1, h2, h3⟩ := h'
    exact (pss_one (ps_ret (pe_lst (pa_cons (act W pn xe Ech _ _ tk hW) pa_nil)))).run pins s' σ H' D I ⟨h1, h2, h3⟩
  · refine ⟨WHeard CBadPoly CBadPlace CNoIndex Q, ?_, rfl, hc, h⟩
    intro cls d σ' H' hw
    rcases hw with ⟨dd, v0, rfl, rfl, hd, kk⟩ | ⟨dd, v0, rfl, rfl, hd, kk⟩ | ⟨dd, v0, rfl, rfl, hd, kk⟩ | hw
    · refine ⟨true, T.x_BadPoly_BadPoly, fun _ a na hl => ?_, fun z => Bool.noConfusion z⟩
      obtain ⟨x0, x1, rfl⟩ := len2 hl
      exact ⟨_, rfl, rfl, rfl, dd, _, v0, rfl, hd, by simp [List.lookup], (by show 2 ≤ sizeLine; decide), fun t ht => kk t ht⟩
    · refine ⟨false, T.x_BadPlace_BadPoly, fun z => Bool.noConfusion z, fun _ => ⟨true, T.x_BadPlace_BadPlace, fun _ a na hl => ?_, fun z => Bool.noConfusion z⟩⟩
      obtain ⟨x0, x1, rfl⟩ := len2 hl
      exact ⟨_, rfl, rfl, rfl, dd, _, v0, rfl, hd, by simp [List.lookup], (by show 2 ≤ sizeLine; decide), fun t ht => kk t ht⟩
    · refine ⟨false, T.x_NoIndex_BadPoly, fun z => Bool.noConfusion z, fun _ => ⟨false, T.x_NoIndex_BadPlace, fun z => Bool.noConfusion z, fun _ => ⟨true, T.x_NoIndex_NoIndex, fun _ a na hl => ?_, fun z => Bool.noConfusion z⟩⟩⟩
      obtain ⟨x0, x1, rfl⟩ := len2 hl
      exact ⟨_, rfl, rfl, rfl, dd, _, v0, rfl, hd, by simp [List.lookup], (by show 2 ≤ sizeLine; decide), fun t ht => kk t ht⟩
    · exact hw.elim
/-- heard as it stands in the module -/
structure HeardAt (K : PySem.W.Frag) (mg : Str → Option Value) : Prop where
  ex : ∃ g fd, Fun K "_law_heard" "_law_heard" s_heard g fd ∧ mg "_law_heard" = some (.ref g) ∧ L2.Binds K fd ["_law_ask"] []
/-- heard(lambda: body) -/
theorem pe_heard {X : Cx} {CE CBadPoly fBadPoly CBadPlace fBadPlace CNoIndex fNoIndex : Addr} {TS : List (Addr × Str)} {c P : Addr} {k : Nat} {params : Arguments} {body : Expr} {scope : Scope} {t : XK → TE} {p lpos pos : Pos}
    (D : HeardAt X.K X.mg) (T : HTx X.prog X.K X.mg CE CBadPoly fBadPoly CBadPlace fBadPlace CNoIndex fNoIndex) (hgd : X.A.guards = some []) (hr : Room (k + 2) X.A) (TB : LamX.TabB X.base X.mg c P) (hcode : X.env.code = .ref c) (hmT : (P, X.env.qual ++ "<lambda>") ∈ TS) (hu : ∀ p ∈ TS, p.1 = P → p.2 = X.env.qual ++ "<lambda>")
    (hg : Gl X "_law_heard") (L : LamX.LamS X.env.scope scope) (hdef : defaultsOf params X.env = ([], []))
    (hbind : ∀ (q : Str) (cl : List (Str × Addr)) (pm cv ctv : Value), bindArgs (PySem.W.kla_fn "<lambda>" q params body scope cl pm cv ctv) ⟨[], []⟩ = pure [])
    (hbody : ∀ (A : Around) (outer : List Env) (s : Shared) (H : Hp) (E : XK) (f c' : Addr), Room k (A.deeper (LamX.lamEnv X scope s.heap.objs.size f c')) → PE (LamX.lamCx X A outer s H E scope f c') body (t E)) :
    PE X (.Call (.Name "_law_heard" p) [.Lambda params body scope lpos] [] pos) (LamX.tLam TS (THeard CBadPoly CBadPlace CNoIndex) t) := by
  obtain ⟨g, fd, F, hm, hb⟩ := D.ex
  have kp := F.kp
  obtain ⟨oc, od, kV, doc, pm, an, cdv, ct, osl, rfl, lk, hcd⟩ := F.ex
  exact LamX.pe_lamcall hg hm kp lk hcd hb sc_heard rfl (Or.inl rfl) (heard_gives (k := k) T (hr.mono (by omega)) hgd) TB hcode hmT hu hr L hdef hbind hbody (by decide) (by decide) (by decide)
end My
namespace My
open PySem PySem.Spec PyProof.Rows L2
abbrev s_lmade : Stmt := topS 36
theorem sc_lmade : FnScope ["_law_some"] ["_law_some"] (defScope s_lmade) := ⟨rfl, rfl, rfl, by decide +kernel, rfl, by decide +kernel, by decide +kernel⟩
/-- the first item that is no integer -/
def Bad (xs : List V) (i : Nat) : Prop := ∃ v, xs[i]? = some v ∧ isI v = false ∧ ∀ (j : Nat) (u : V), j < i → xs[j]? = some u → isI u = true
theorem Bad.uniq {xs : List V} {i j : Nat} {v : V} (h : Bad xs i) (h1 : xs[j]? = some v) (h2 : isI v = false) (h3 : ∀ (k : Nat) (u : V), k < j → xs[k]? = some u → isI u = true) : j = i := by
  obtain ⟨u, e1, e2, e3⟩ := h
  rcases Nat.lt_trichotomy j i with z | z | z
  · rw [e3 j v z h1] at h2
    cases h2
  · exact z
  · rw [h3 i u z e1] at e2
    cases e2
theorem Bad.noInts {xs : List V} {i : Nat} (h : Bad xs i) {ts : List Int} (e : xs = ts.map V.int) : False := by
  obtain ⟨u, e1, e2, _⟩ := h
  rw [e] at e1
  obtain ⟨y, _, rfl⟩ := at_int e1
  cases e2
theorem poly_bad {C CB : Addr} {H : Hp} {xs : List V} {i : Nat} {R : Addr → Hp → Prop} {E : XK} (hl : xs.length ≤ 1000) (ty : ∀ v ∈ xs, TyL C H v) (b : Bad xs i) (k : Errs E CB "at" (.int (i : Nat)) H) (x dx : Addr) (hx : H x = none) (hd : H dx = none) (ne : dx ≠ x) :
    spPoly C CB (.ref x :: xs) (upd (upd H dx (.own x)) x (.ins C dx [])) (fun v H2 => v = .non ∧ R x H2) E :=
  poly_at hl ty hx hd ne (fun ts e _ _ _ _ => (b.noInts e).elim) fun j v h1 h2 h3 => by
    rw [b.uniq h1 h2 h3]
    exact k
def spLmade (C CB : Addr) : Sp := fun vs H Q E => ∃ (l : Addr) (xs : List V) (i : Nat), vs = [.ref l] ∧ H l = some (.lst xs) ∧ 1 ≤ xs.length ∧ xs.length ≤ 4 ∧ (∀ v ∈ xs, TyL C H v) ∧ Bad xs i ∧ Errs E CB "at" (.int (i : Nat)) H
section
variable {P : Program} {w : World} {K : PySem.W.Frag} {mg : Str → Option Value} {base : Heap} {C CB fB CP fP CI fI : Addr}
theorem ok_lmade {f : Addr} {fd : FuncData} (F : Fun K "_law_made" "_law_made" s_lmade f fd) (T : PTx P K mg C CB fB CP fP CI fI) (M_Poly : MakeR P w K mg base (L2.CX P w) 3 "Poly" C (spPoly C CB)) : FnOk P w K mg base (L2.CX P w) 5 f fd ["_law_some"] (spLmade C CB) := by
  refine F.okX sc_lmade (fun vs H Q E h => ?_) (fun cdv A outer s H vs Q E hr h => ?_)
  · obtain ⟨l, xs, i, rfl, _⟩ := h
    rfl
  · obtain ⟨l, xs, i, rfl, hl, l1, l4, ty, b, k⟩ := h
    refine ⟨_, (pss_cons (ps_if (pt_cmpR op_lt (pe_callB call_len (by rfl) T.z_len PySem.boot_len (pa_cons (pv 0) pa_nil)) pe_int (nomark _)) (pss_one (ps_ret (pe_ifExp (pt_cmpR (My.op_eqLen hr) (pv 0) (pe_lst pa_nil) (nomark _)) (My.pe_mkR0 M_Poly (hr.mono (by decide)) (by rfl) (passes_call (takes_of rfl rfl rfl rfl) (fun _ _ _ _ h => h))) (My.pe_mkR M_Poly (hr.mono (by decide)) (by rfl) (passes_call (takes_of rfl rfl rfl rfl) (fun _ _ _ _ h => h)) (pa_cons (pe_ix ix_list (pv 0) pe_int (fun _ _ => rfl)) pa_nil))))) pss_nil)
      (pss_cons (ps_if (pt_cmpR op_eq (pe_callB call_len (by rfl) T.z_len PySem.boot_len (pa_cons (pv 0) pa_nil)) pe_int (nomark _)) (pss_one (ps_ret (My.pe_mkR M_Poly (hr.mono (by decide)) (by rfl) (passes_call (takes_of rfl rfl rfl rfl) (fun _ _ _ _ h => h)) (pa_cons (pe_ix ix_list (pv 0) pe_int (fun _ _ => rfl)) (pa_cons (pe_ix ix_list (pv 0) pe_int (fun _ _ => rfl)) pa_nil))))) pss_nil)
      (pss_one (ps_ret (pe_ifExp (pt_cmpR op_eq (pe_callB call_len (by rfl) T.z_len PySem.boot_len (pa_cons (pv 0) pa_nil)) pe_int (nomark _)) (My.pe_mkR M_Poly (hr.mono (by decide)) (by rfl) (passes_call (takes_of rfl rfl rfl rfl) (fun _ _ _ _ h => h)) (pa_cons (pe_ix ix_list (pv 0) pe_int (fun _ _ => rfl)) (pa_cons (pe_ix ix_list (pv 0) pe_int (fun _ _ => rfl)) (pa_cons (pe_ix ix_list (pv 0) pe_int (fun _ _ => rfl)) pa_nil)))) (My.pe_mkR M_Poly (hr.mono (by decide)) (by rfl) (passes_call (takes_of rfl rfl rfl rfl) (fun _ _ _ _ h => h)) (pa_cons (pe_ix ix_list (pv 0) pe_int (fun _ _ => rfl)) (pa_cons (pe_ix ix_list (pv 0) pe_int (fun _ _ => rfl)) (pa_cons (pe_ix ix_list (pv 0) pe_int (fun _ _ => rfl)) (pa_cons (pe_ix ix_list (pv 0) pe_int (fun _ _ => rfl)) pa_nil)))))))))), ?_⟩
    rcases xs with _ | ⟨a, _ | ⟨b', _ | ⟨c, _ | ⟨d, _ | ⟨e, r⟩⟩⟩⟩⟩
    · exact absurd l1 (by decide)
    · refine ⟨_, rfl, _, 1, rfl, .inl ⟨_, SqL.of hl, rfl⟩, _, _, rfl, rfl, _, rfl, iteT ⟨_, rfl, (by show 0 ≤ sizeLine; decide), fun l2 h2 => ?_⟩⟩
      have s2 := same_new (o := .lst []) h2
      refine ⟨l, l2, _, _, rfl, rfl, SqL.of (s2 _ _ hl), SqL.of upd_same, (by show 1 ≠ 0; decide), _, rfl, iteF ?_⟩
      exact ⟨_, rfl, l, _, _, a, rfl, rfl, SqL.of (s2 _ _ hl), rfl, poly_bad (Nat.le_trans l4 (by decide)) (fun v hv => (ty v hv).same s2) b (k.up s2)⟩
    · exact ⟨_, rfl, _, 2, rfl, .inl ⟨_, SqL.of hl, rfl⟩, _, _, rfl, rfl, _, rfl, iteF ⟨_, rfl, _, 2, rfl, .inl ⟨_, SqL.of hl, rfl⟩, rfl, _, rfl, iteT ⟨_, rfl, l, _, _, a, rfl, rfl, SqL.of hl, rfl, _, rfl, l, _, _, b', rfl, rfl, SqL.of hl, rfl, poly_bad (Nat.le_trans l4 (by decide)) ty b k⟩⟩⟩
    · exact ⟨_, rfl, _, 3, rfl, .inl ⟨_, SqL.of hl, rfl⟩, _, _, rfl, rfl, _, rfl, iteF ⟨_, rfl, _, 3, rfl, .inl ⟨_, SqL.of hl, rfl⟩, rfl, _, rfl, iteF ⟨_, rfl, _, 3, rfl, .inl ⟨_, SqL.of hl, rfl⟩, rfl, _, rfl, iteT ⟨_, rfl, l, _, _, a, rfl, rfl, SqL.of hl, rfl, _, rfl, l, _, _, b', rfl, rfl, SqL.of hl, rfl, _, rfl, l, _, _, c, rfl, rfl, SqL.of hl, rfl, poly_bad (Nat.le_trans l4 (by decide)) ty b k⟩⟩⟩⟩
    · exact ⟨_, rfl, _, 4, rfl, .inl ⟨_, SqL.of hl, rfl⟩, _, _, rfl, rfl, _, rfl, iteF ⟨_, rfl, _, 4, rfl, .inl ⟨_, SqL.of hl, rfl⟩, rfl, _, rfl, iteF ⟨_, rfl, _, 4, rfl, .inl ⟨_, SqL.of hl, rfl⟩, rfl, _, rfl, iteF ⟨_, rfl, l, _, _, a, rfl, rfl, SqL.of hl, rfl, _, rfl, l, _, _, b', rfl, rfl, SqL.of hl, rfl, _, rfl, l, _, _, c, rfl, rfl, SqL.of hl, rfl, _, rfl, l, _, _, d, rfl, rfl, SqL.of hl, rfl, poly_bad (Nat.le_trans l4 (by decide)) ty b k⟩⟩⟩⟩
    · simp at l4
end
end My
/-! Texts whose signs are code points; lists of texts and of truths as data. -/
namespace My
open PySem PySem.Spec PyProof.Rows L2
theorem strOk_app (x y : Str) : PyData.strOk (x ++ y) = (PyData.strOk x && PyData.strOk y) := by
  unfold PyData.strOk
  rw [PySem.Str.cps_append, Array.all_append]
theorem strOk_of (s : String) : PyData.strOk (Str.ofString s) = true := by
  unfold PyData.strOk
  rw [PySem.Str.ofString_eq_toList]
  rw [Array.all_eq_true]
  intro i hi
  simp only [List.getElem_toArray, List.getElem_map, decide_eq_true_eq]
  have := (s.toList[i]'(by simpa using hi)).valid
  rcases this with h | ⟨_, h⟩
  · exact Nat.lt_trans h (by decide)
  · exact h
/-- a list of texts as data -/
theorem dp_strs {K : PySem.W.Frag} {H : Hp} : ∀ zs : List Str, DpAll K H (zs.map V.str) (zs.map PyData.str)
  | [] => .nil
  | z :: zs => .cons (.str z) (dp_strs zs)
theorem lay_strs : ∀ zs : List Str, (∀ z ∈ zs, PyData.strOk z = true) → PyData.canLayAll0 (zs.map PyData.str) = true
  | [], _ => rfl
  | z :: zs, h => by
    show (PyData.strOk z && PyData.canLayAll0 (zs.map PyData.str)) = true
    rw [lay_strs zs fun x hx => h x (List.mem_cons_of_mem _ hx), h z List.mem_cons_self]
    rfl
theorem dep_strs : ∀ zs : List Str, PyData.depthAll (zs.map PyData.str) = 0
  | [] => rfl
  | z :: zs => by
    show max 0 (PyData.depthAll (zs.map PyData.str)) = 0
    rw [dep_strs zs]
    rfl
theorem shaped_strs (zs : List Str) (h : ∀ z ∈ zs, PyData.strOk z = true) : SeqAt.shaped (.list (zs.map PyData.str)) = true := by
  show (PyData.canLayAll0 (zs.map PyData.str) && decide (PyData.depthAll (zs.map PyData.str) + 1 ≤ 64)) = true
  rw [lay_strs zs h, dep_strs]
  rfl
/-- a list of truths as data, shown -/
theorem dp_bls {K : PySem.W.Frag} {H : Hp} : ∀ zs : List Bool, DpAll K H (zs.map V.bl) (zs.map PyData.bool)
  | [] => .nil
  | z :: zs => .cons (.bl z) (dp_bls zs)
theorem dep_bls : ∀ zs : List Bool, PyData.depthAll (zs.map PyData.bool) = 0
  | [] => rfl
  | z :: zs => by
    show max 0 (PyData.depthAll (zs.map PyData.bool)) = 0
    rw [dep_bls zs]
    rfl
theorem showable_bls : ∀ zs : List Bool, PyData.showableAll (zs.map PyData.bool) = true
  | [] => rfl
  | z :: zs => by
    show (true && PyData.showableAll (zs.map PyData.bool)) = true
    rw [showable_bls zs]
    rfl
theorem bls_sum : ∀ zs : List Bool, ((PyData.shownAll (zs.map PyData.bool)).map (·.length)).sum ≤ 5 * zs.length ∧ (PyData.shownAll (zs.map PyData.bool)).length = zs.length
  | [] => ⟨Nat.le_refl _, rfl⟩
  | z :: zs => by
    obtain ⟨h1, h2⟩ := bls_sum zs
    refine ⟨?_, ?_⟩
    · show (PyData.bool z).shown.length + ((PyData.shownAll (zs.map PyData.bool)).map (·.length)).sum ≤ 5 * (zs.length + 1)
      have e : (PyData.bool z).shown.length ≤ 5 := by cases z <;> decide +kernel
      omega
    · show (PyData.shownAll (zs.map PyData.bool)).length + 1 = zs.length + 1
      omega
theorem bls_show {K : PySem.W.Frag} {H : Hp} {l : Addr} (zs : List Bool) (hl : zs.length ≤ 1000) (h : H l = some (.lst (zs.map V.bl))) : Dr K H (.ref l) (.list (zs.map PyData.bool)) ∧ (PyData.list (zs.map PyData.bool)).showable = true ∧ (PyData.list (zs.map PyData.bool)).depth ≤ 60 ∧ (PyData.list (zs.map PyData.bool)).shown.length ≤ sizeLine := by
  refine ⟨.inl (.lst (SqL.of h) (dp_bls zs)), showable_bls zs, ?_, ?_⟩
  · show PyData.depthAll (zs.map PyData.bool) + 1 ≤ 60
    rw [dep_bls]
    decide
  · have h1 := listText_len_le (PyData.shownAll (zs.map PyData.bool))
    obtain ⟨h2, h3⟩ := bls_sum zs
    show (listText (PyData.shownAll (zs.map PyData.bool))).length ≤ sizeLine
    rw [sizeLine_eq]
    omega
theorem bl_show {K : PySem.W.Frag} {H : Hp} (b : Bool) : Dr K H (.bl b) (.bool b) ∧ (PyData.bool b).showable = true ∧ (PyData.bool b).depth ≤ 60 ∧ (PyData.bool b).shown.length ≤ sizeLine := by
  refine ⟨.inl (.bl b), rfl, Nat.zero_le _, ?_⟩
  cases b <;> decide +kernel
end My
namespace My
open PySem PySem.Spec PyProof.Rows L2
abbrev s_lterms : Stmt := topS 32
theorem sc_lterms : FnScope ["_law_pen_here", "_law_most", "_law_many", "_law_wide", "_law_found", "_law_k"] ["_law_pen_here", "_law_most"] (defScope s_lterms) := ⟨rfl, rfl, rfl, by decide +kernel, rfl, by decide +kernel, by decide +kernel⟩
abbrev s_lcut : Stmt := topS 33
theorem sc_lcut : FnScope ["_law_terms_here", "_law_many"] ["_law_terms_here"] (defScope s_lcut) := ⟨rfl, rfl, rfl, by decide +kernel, rfl, by decide +kernel, by decide +kernel⟩
abbrev s_lvalue : Stmt := topS 34
theorem sc_lvalue : FnScope ["_law_terms_here", "_law_m", "_law_found", "_law_term"] ["_law_terms_here", "_law_m"] (defScope s_lvalue) := ⟨rfl, rfl, rfl, by decide +kernel, rfl, by decide +kernel, by decide +kernel⟩
/-- a term: at most 10 ** 40 -/
def Tm (z : Int) : Prop := -(10 ^ 40) ≤ z ∧ z ≤ 10 ^ 40
theorem Tm.abs {z : Int} (h : Tm z) : z.natAbs < 2 ^ 140 := by
  obtain ⟨x1, x2⟩ := h
  have e : (10 : Int) ^ 40 = 10000000000000000000000000000000000000000 := rfl
  have e2 : (2 : Nat) ^ 140 = 1393796574908163946345982392040522594123776 := rfl
  omega
def spTerms : Sp := fun vs H Q _ => ∃ (pn : Addr) (n : Nat) (m : Nat), vs = [.ref pn, .int (m : Nat)] ∧ m ≤ 20 ∧ PenAt H pn n ∧ n < 80000 ∧ ∀ (l : Addr) (ts : List Int) (H' : Hp), ts.length ≤ m → (∀ z ∈ ts, Tm z) → H l = none → H' l = some (.lst (ts.map V.int)) → PenAt H' pn (n + 30) → But pn H H' → Q (.ref l) H'
def spCut (K : PySem.W.Frag) : Sp := fun vs H Q _ => ∃ (l : Addr) (ts : List Int), vs = [.ref l] ∧ H l = some (.lst (ts.map V.int)) ∧ ts.length ≤ 1000 ∧ ∀ r H', H' r = some (.tup ((trim ts).map V.int)) → Same H H' → Q (.ref r) H'
def spValue : Sp := fun vs H Q _ => ∃ (l : Addr) (ts : List Int) (m : Int), vs = [.ref l, .int m] ∧ H l = some (.lst (ts.map V.int)) ∧ ts.length ≤ 1000 ∧ (∀ k, k ≤ ts.length → CMulW ((ts.reverse.take k).foldl (fun f t => f * m + t) 0) m) ∧ ∀ H', Same H H' → Q (.int (evl ts m)) H'
section
variable {P : Program} {w : World} {K : PySem.W.Frag} {mg : Str → Option Value} {base : Heap} {C CB fB CP fP CI fI : Addr}
theorem ok_lvalue {f : Addr} {fd : FuncData} (F : Fun K "_law_value" "_law_value" s_lvalue f fd) (T : PTx P K mg C CB fB CP fP CI fI) : FnOk P w K mg base CX0 1 f fd ["_law_terms_here", "_law_m"] spValue := by
  refine F.ok sc_lvalue (fun vs H Q E h => ?_) (fun cdv A outer s H vs Q E hr h => ?_)
  · obtain ⟨l, ts, m, rfl, _⟩ := h
    rfl
  · obtain ⟨l, ts, m, rfl, hl, ln, cm, k⟩ := h
    refine ⟨_, (pss_cons (ps_set (i := 2) sc_lvalue.nd rfl (Or.inl rfl) pe_int)
      (pss_cons (ps_for PassesOwn.never rfl (pi_list (pe_revL (pe_callTy call_list_of (by rfl) T.z_list boot_list (pa_cons (pv 0) pa_nil)))) (pg_name (i := 3) sc_lvalue.nd rfl (Or.inl rfl)) (pss_one (ps_set (i := 2) sc_lvalue.nd rfl (Or.inl rfl) (pe_op op_add (pe_op op_mulW (pv 2) (pv 1)) (pv 3)))))
      (pss_one (ps_ret (pv 2))))), ?_⟩
    refine ⟨_, rfl, l, _, rfl, .inl (SqL.of hl), fun q0 h0 => ⟨q0, _, rfl, SqL.of upd_same, fun q hq => ?_⟩⟩
    have er : (ts.map V.int).reverse = ts.reverse.map V.int := (List.map_reverse ..).symm
    rw [er]
    refine ⟨q, rfl, ⟨_, SqL.of upd_same⟩, for_list (K := K) (a := q) (xs := ts.reverse.map V.int) (fun i σ H' => ∃ v3, σ = [some (.ref l), some (.int m), some (.int ((ts.reverse.take i).foldl (fun f t => f * m + t) 0)), v3] ∧ H' = upd (upd H q0 (.lst (ts.map V.int))) q (.lst (ts.reverse.map V.int))) ⟨none, rfl, rfl⟩ (fun i σ H' _ hh => by obtain ⟨_, _, rfl⟩ := hh; exact SqL.of upd_same) ?_ ?_⟩
    · rintro i x σ H' hi ⟨v3, rfl, rfl⟩
      obtain ⟨y, hy, rfl⟩ := at_int hi
      have il : i ≤ ts.length := by
        have := (List.getElem?_eq_some_iff.mp hy).1
        rw [List.length_reverse] at this
        omega
      refine ⟨_, rfl, _, rfl, _, _, rfl, rfl, cm i il, _, rfl, _, _, rfl, rfl, ?_⟩
      refine ⟨some (.int y), ?_, rfl⟩
      rw [take1 hy, List.foldl_append]
      rfl
    · rintro σ H' ⟨v3, rfl, rfl⟩
      refine ⟨_, rfl, ?_⟩
      rw [List.length_map, List.take_length]
      exact k _ ((same_new h0).trans (same_new hq))
theorem ok_lcut {f : Addr} {fd : FuncData} (F : Fun K "_law_cut" "_law_cut" s_lcut f fd) (T : PTx P K mg C CB fB CP fP CI fI) : FnOk P w K mg base CX0 1 f fd ["_law_terms_here"] (spCut K) := by
  refine F.ok sc_lcut (fun vs H Q E h => ?_) (fun cdv A outer s H vs Q E hr h => ?_)
  · obtain ⟨t, ts, rfl, _⟩ := h
    rfl
  · obtain ⟨t, ts, rfl, ht, hl, k⟩ := h
    refine ⟨_, (pss_cons (ps_set (i := 1) sc_lcut.nd rfl (Or.inl rfl) (pe_callB call_len (by rfl) T.z_len PySem.boot_len (pa_cons (pv 0) pa_nil)))
      (pss_cons (ps_while PassesOwn.never (PW.pt (pw_and (pt_cmpR op_gt (pv 1) pe_int (nomark _)) (pw_and1 (pt_cmpR op_eq (pe_ix ix_list (pv 0) (pe_op op_sub (pv 1) pe_int) (fun _ _ => rfl)) pe_int (nomark _))))) (pss_one (ps_set (i := 1) sc_lcut.nd rfl (Or.inl rfl) (pe_op op_sub (pv 1) pe_int))))
      (pss_one (ps_ret (pe_callTy call_tuple_of (by rfl) T.z_tuple boot_tuple (pa_cons (pe_slice sl_list (pv 0) po_none (po_some (pv 1))) pa_nil)))))), ?_⟩
    refine ⟨_, rfl, _, ts.length, rfl, .inl ⟨_, SqL.of ht, (List.length_map ..).symm⟩, ?_⟩
    refine while_by (fun σ Hz => Hz = H ∧ ∃ m : Nat, σ = [some (.ref t), some (.int (m : Nat))] ∧ m ≤ ts.length ∧ tl ts m = tl ts ts.length) (fun σ _ => match σ with | [_, some (.int y)] => y.toNat | _ => 0) ?_ ?_ ?_
    · exact ⟨rfl, ts.length, rfl, Nat.le_refl _, rfl⟩
    · rintro σ Hz ⟨rfl, m, rfl, hm, e⟩
      refine ⟨_, rfl, _, _, rfl, rfl, _, rfl, ?_⟩
      have out : ∀ m : Nat, tl ts m = tl ts ts.length → tl ts m = m → ∀ r, upd Hz r (.lst (cutV (ts.map V.int) none (some (m : Int)))) = upd Hz r (.lst ((trim ts).map V.int)) := fun m e em r => by
        rw [cut_ints]
        unfold trim
        rw [← e, em]
      refine ite2 (fun c => ?_) (fun c => iteF ?_)
      · have m0 : 0 < m := by
          have := of_decide_eq_true c
          omega
        obtain ⟨x, hx⟩ : ∃ x, ts[m - 1]? = some x := ⟨_, List.getElem?_eq_getElem (by omega)⟩
        have ea : atI (ts.map V.int) ((m : Int) - 1) = some (.int x) := at_of (j := m - 1) (by omega) (by rw [List.getElem?_map, hx]; rfl)
        refine ⟨_, rfl, _, rfl, _, _, rfl, rfl, t, _, _, .int x, rfl, rfl, SqL.of ht, ea, rfl, _, rfl, ?_⟩
        obtain ⟨k', rfl⟩ : ∃ k', m = k' + 1 := ⟨m - 1, by omega⟩
        have hx' : ts[k']? = some x := hx
        refine ite2 (fun c2 => ?_) (fun c2 => ?_)
        · have x0 : x = 0 := V.int.inj (of_decide_eq_true c2)
          refine ⟨_, rfl, _, _, rfl, rfl, ⟨rfl, k', ?_, by omega, ?_⟩, ?_⟩
          · show [_, some (V.int (((k' + 1 : Nat) : Int) - 1))] = _
            have e1 : (((k' + 1 : Nat) : Int) - 1) = (k' : Int) := by omega
            rw [e1]
          · rw [← e]
            show _ = (if ts[k']? = some 0 then tl ts k' else k' + 1)
            rw [hx', x0, if_pos rfl]
          · show ((((k' + 1 : Nat) : Int) - 1)).toNat < (((k' + 1 : Nat) : Int)).toNat
            omega
        · have x0 : ¬ x = 0 := fun z => c2 (decide_eq_true (by rw [z]))
          have em : tl ts (k' + 1) = k' + 1 := by
            show (if ts[k']? = some 0 then tl ts k' else k' + 1) = k' + 1
            rw [hx', if_neg (fun z => x0 (Option.some.inj z))]
          refine ⟨_, rfl, _, rfl, ((k' + 1 : Nat) : Int), rfl, t, _, rfl, SqL.of ht, fun r hr => ?_⟩
          rw [out _ e em]
          exact ⟨r, _, rfl, .inl ⟨SqL.of upd_same, fun p hp => k p _ upd_same ((same_new hr).trans (same_new hp))⟩⟩
      · have m0 : m = 0 := by
          by_cases z : m = 0
          · exact z
          · exact absurd (decide_eq_true (show (0 : Int) < (m : Int) by omega)) c
        have em : tl ts m = m := by
          rw [m0]
          rfl
        refine ⟨_, rfl, _, rfl, (m : Int), rfl, t, _, rfl, SqL.of ht, fun r hr => ?_⟩
        rw [out _ e em]
        exact ⟨r, _, rfl, .inl ⟨SqL.of upd_same, fun p hp => k p _ upd_same ((same_new hr).trans (same_new hp))⟩⟩
    · intro σ Hz Q1 Q2 hm h
      obtain ⟨v, e, i, j, e1, e2, b, e3, h⟩ := h
      refine ⟨v, e, i, j, e1, e2, b, e3, ?_⟩
      cases b with
      | false =>
        rw [if_neg Bool.false_ne_true] at h ⊢
        exact hm _ _ h
      | true =>
        rw [if_pos rfl] at h ⊢
        obtain ⟨v1, g1, v2, g2, i1, j1, g3, g4, p1, xs1, k1, v3, g5, g6, g7, g8, g9, b1, g10, h⟩ := h
        exact ⟨v1, g1, v2, g2, i1, j1, g3, g4, p1, xs1, k1, v3, g5, g6, g7, g8, g9, b1, g10, hm _ _ h⟩
theorem ix_at {n j : Nat} {i : Int} (h : i = j) (hj : j < n) : ixN n i = some j := by
  subst h
  unfold ixN
  rw [if_pos (by omega), if_pos (by omega)]
  simp
theorem PenC.le {H : Hp} {pn cl : Addr} {n m : Nat} (h : PenC H pn cl n) (le : n ≤ m) : PenC H pn cl m := by
  obtain ⟨ns, a, r, e1, e2, h3, h4, h5⟩ := h
  exact ⟨ns, a, r, e1, e2, h3, h4, by omega⟩
theorem ok_lterms {f : Addr} {fd : FuncData} (F : Fun K "_law_terms" "_law_terms" s_lterms f fd) (T : PTx P K mg C CB fB CP fP CI fI) (D_draw : DefAt P w K mg base CX0 1 "_law_draw" ["_law_pen_here", "_law_many"] spDrawC)
    (D_pick : DefAt P w K mg base CX0 2 "_law_pick" ["_law_pen_here", "_law_some"] spPick) : FnOk P w K mg base CX0 3 f fd ["_law_pen_here", "_law_most"] spTerms := by
  refine F.ok sc_lterms (fun vs H Q E h => ?_) (fun cdv A outer s H vs Q E hr h => ?_)
  · obtain ⟨pn, n, m, rfl, _⟩ := h
    rfl
  · obtain ⟨pn, n, m, rfl, m20, hp, hn, k⟩ := h
    refine ⟨_, (pss_cons (ps_asg (pe_tup (pa_cons (My.pe_d D_draw (hr.mono (by decide)) (by rfl) pass0 (pa_cons (pv 0) (pa_cons (pe_op op_add (pv 1) pe_int) pa_nil))) (pa_cons (My.pe_d D_pick (hr.mono (by decide)) (by rfl) pass0 (pa_cons (pv 0) (pa_cons (pe_lst (pa_cons pe_int (pa_cons pe_int (pa_cons pe_int (pa_cons pe_int (pa_cons (pe_op op_pow pe_int pe_int) pa_nil)))))) pa_nil))) pa_nil))) (pg_tup rfl (pgs_cons (pg_name (i := 2) sc_lterms.nd rfl (Or.inl rfl)) (pgs_cons (pg_name (i := 3) sc_lterms.nd rfl (Or.inr rfl)) pgs_nil))))
      (pss_cons (ps_setLc (i := 4) (own := [("_law_k", 5)]) rfl sc_lterms.nd rfl rfl (sw_true rfl rfl rfl rfl) (pi_range1 rfl T.z_range (pa_cons (pv 2) pa_nil)) (blkOk_by (by show blkC ["_law_pen_here", "_law_most", "_law_many", "_law_wide", "_law_found", "_law_k"] (defScope s_lterms) _ _ = true; decide +kernel)) (fun _ _ _ _ _ => (pg_name (i := 5) sc_lterms.nd rfl (Or.inl rfl))) (fun _ _ _ _ _ => pts_nil) (fun _ _ _ _ _ => (pe_op op_sub (My.pe_d D_draw (hr.mono (by decide)) (by rfl) pass0 (pa_cons (pv 0) (pa_cons (pe_op op_add (pe_op op_mul pe_int (pv 3)) pe_int) pa_nil))) (pv 3))))
      (C8.pss_cut (ps_if (PW.pt (pw_and (pt_cmpR (op_neD hr.units) (pv 4) (pe_lst pa_nil) (nomark _)) (pw_and1 (pt_cmpR op_eq (My.pe_d D_draw (hr.mono (by decide)) (by rfl) pass0 (pa_cons (pv 0) (pa_cons pe_int pa_nil))) pe_int (nomark _))))) (pss_one (ps_asg pe_int (pg_sub (pv 4) (pe_op op_sub (pe_callB call_len (by rfl) T.z_len PySem.boot_len (pa_cons (pv 4) pa_nil)) pe_int) set_list))) pss_nil)
      (C8.pss_cut (ps_if (PW.pt (pw_and (pt_cmpR (op_neD hr.units) (pv 4) (pe_lst pa_nil) (nomark _)) (pw_and1 (pt_cmpR op_eq (My.pe_d D_draw (hr.mono (by decide)) (by rfl) pass0 (pa_cons (pv 0) (pa_cons pe_int pa_nil))) pe_int (nomark _))))) (pss_one (ps_asg (pe_op op_pow pe_int pe_int) (pg_sub (pv 4) (My.pe_d D_draw (hr.mono (by decide)) (by rfl) pass0 (pa_cons (pv 0) (pa_cons (pe_callB call_len (by rfl) T.z_len PySem.boot_len (pa_cons (pv 4) pa_nil)) pa_nil))) set_list))) pss_nil)
      (pss_one (ps_ret (pv 4))))))), ?_⟩
    have l21 : ((m : Int) + 1).natAbs.log2 < 9000 := Nat.lt_of_lt_of_le (PySem.Flt.log2_lt_of (k := 10) (by decide) (by show _ < 1024; omega)) (by decide)
    obtain ⟨cl0, hpc⟩ := hp.cells
    refine ⟨_, rfl, _, rfl, _, _, rfl, rfl, pn, cl0, _, n, rfl, by omega, l21, hpc, by omega, fun d1 H1 a1 b1 p1c u1 => ?_⟩
    have p1 := p1c.pen
    refine ⟨_, rfl, _, _, rfl, rfl, ⟨by decide, by decide, by decide⟩, (by show 5 ≤ sizeLine; decide), fun l2 h2 => ?_⟩
    refine ⟨pn, l2, n + 1, _, rfl, upd_same, pen_ne p1 h2, (by show 0 < 5; decide), (by show 5 ≤ 1000; decide), pen_new p1 h2, by omega, fun v H3 hv p3 u3 => ⟨(by show 2 ≤ sizeLine; decide), fun t4 h4 => ?_⟩⟩
    obtain ⟨wd, rfl, hw⟩ := mem_ints (zs := [2, 4, 10, 1000, 10 ^ Int.toNat 9]) hv
    have w0 : 2 ≤ wd ∧ wd ≤ 10 ^ 9 := by
      have e : (10 : Int) ^ Int.toNat 9 = 1000000000 := by decide
      simp only [List.mem_cons, List.mem_nil_iff, or_false] at hw
      rw [e] at hw
      rcases hw with e | e | e | e | e <;> omega
    refine ⟨t4, _, rfl, SqT.of upd_same, rfl, _, _, rfl, _, _, rfl, rfl, ?_⟩
    have u4 : But pn H (upd H3 t4 (.tup [.int d1, .int wd])) := ((u1.trans (But.new h2)).trans u3).trans (But.new h4)
    have p4 : PenAt (upd H3 t4 (.tup [.int d1, .int wd])) pn (n + 2) := pen_new p3 h4
    generalize (upd H3 t4 (.tup [.int d1, .int wd])) = H4 at u4 p4
    refine ⟨_, rfl, d1, rfl, by omega, by omega, fun D hD => ?_⟩
    have hDH : H D = none := by
      cases z : H D with
      | none => rfl
      | some o =>
        rw [u4 D o z (pen_ne p4 hD)] at hD
        cases hD
    have nD : D ≠ pn := pen_ne p4 hD
    have e9 : (10 : Int) ^ 9 = 1000000000 := rfl
    have e40 : (10 : Int) ^ 40 = 10000000000000000000000000000000000000000 := rfl
    have lw : (2 * wd + 1).natAbs.log2 < 9000 := Nat.lt_of_lt_of_le (PySem.Flt.log2_lt_of (k := 40) (by decide) (by show _ < 1099511627776; omega)) (by decide)
    obtain ⟨cl, q4⟩ := p4.cells
    have ncl : cl ≠ D := by
      obtain ⟨ns, x, r, g1, g2, _⟩ := q4
      exact ne_of_none g2 hD
    refine lc_range (lo := 0) (n := d1.toNat) (fun i Hh => ∃ ts : List Int, Hh D = some (.lst (ts.map V.int)) ∧ ts.length = i ∧ (∀ z ∈ ts, Tm z) ∧ PenC Hh pn cl (n + 2 + i) ∧ But pn H4 Hh) ⟨[], upd_same, rfl, (fun z hz => absurd hz List.not_mem_nil), q4.put (Ne.symm nD) ncl, But.new hD⟩ ?_ ?_
    · rintro i Hh hi ⟨ts, c1, c2, c3, c4, c5⟩
      refine ⟨rfl, yes_go ⟨_, rfl, _, rfl, _, _, rfl, rfl, .inl ⟨by decide, by decide⟩, _, _, rfl, rfl, pn, cl, _, _, rfl, by omega, lw, c4, by omega, fun d Hd ad bd pd ud => ?_⟩⟩
      have cD := ud _ _ c1 nD
      refine ⟨_, rfl, _, _, rfl, rfl, _, cD, by rw [List.length_map, sizeLine_eq]; omega, ts ++ [d - wd], ?_, by rw [List.length_append, c2]; rfl, ?_, pd.put (Ne.symm nD) ncl, ?_⟩
      · rw [List.map_append]
        exact upd_same
      · intro z hz
        rcases List.mem_append.mp hz with hz | hz
        · exact c3 z hz
        · rw [List.mem_singleton.mp hz]
          exact ⟨by omega, by omega⟩
      · intro b o e n
        rw [upd_ne (ne_of_none e hD)]
        exact ud _ _ (c5 b o e n) n
    rintro H5 ⟨ts, c1, c2, c3, c4, c5⟩
    have fin : ∀ (ts : List Int) (Hz : Hp), Hz D = some (.lst (ts.map V.int)) → ts.length ≤ m → (∀ z ∈ ts, Tm z) → PenC Hz pn cl (n + 30) → But pn H4 Hz → Q (.ref D) Hz := fun ts Hz e1 e2 e3 e4 e5 => k D ts Hz e2 e3 hDH e1 e4.pen (u4.trans e5)
    have put : ∀ (ts : List Int) (Hz : Hp) (j : Nat) (x : Int), Hz D = some (.lst (ts.map V.int)) → Tm x → (∀ z ∈ ts, Tm z) → But pn H4 Hz → ((upd Hz D (.lst ((ts.map V.int).set j (.int x)))) D = some (.lst ((ts.set j x).map V.int)) ∧ (ts.set j x).length = ts.length ∧ (∀ z ∈ ts.set j x, Tm z) ∧ But pn H4 (upd Hz D (.lst ((ts.map V.int).set j (.int x))))) := fun ts Hz j x e1 tx e3 e5 => by
      refine ⟨by rw [upd_same, List.map_set], List.length_set .., fun z hz => ?_, fun b o e n => ?_⟩
      · rcases List.mem_or_eq_of_mem_set hz with hz | hz
        · exact e3 z hz
        · rw [hz]
          exact tx
      · rw [upd_ne (ne_of_none e hD)]
        exact e5 b o e n
    refine ⟨fun σ Hz => ∃ ts : List Int, σ = [some (.ref pn), some (.int (m : Nat)), some (.int d1), some (.int wd), some (.ref D), none] ∧ Hz D = some (.lst (ts.map V.int)) ∧ ts.length ≤ m ∧ (∀ z ∈ ts, Tm z) ∧ PenC Hz pn cl (n + 25) ∧ But pn H4 Hz, ?_, ?_⟩
    · refine ⟨_, rfl, (by show 0 ≤ sizeLine; decide), fun l6 h6 => ?_⟩
      have s6 := same_new (o := .lst []) h6
      have q6 := c4.same s6
      have D6 := s6 _ _ c1
      refine ⟨.list (ts.map PyData.int), .list [], .lst (SqL.of D6) (dp_ints ts), .lst (SqL.of upd_same) .nil, shaped_ints ts, rfl, _, rfl, ?_⟩
      generalize (upd H5 l6 (.lst [])) = H6 at s6 q6 D6
      have b6 := c5.trans (but_same s6)
      cases ts with
      | nil => exact iteF (iteF ⟨[], rfl, D6, Nat.zero_le _, c3, q6.le (by omega), b6⟩)
      | cons z0 zs =>
        refine iteT ⟨_, rfl, pn, cl, 4, _, rfl, by decide, by decide, q6, by omega, fun d7 H7 a7 b7 q7 u7 => ⟨rfl, _, rfl, ?_⟩⟩
        have D7 := u7 _ _ D6 nD
        have b7 := b6.trans u7
        refine ite2 (fun g => ?_) (fun g => ⟨_, rfl, D7, by omega, c3, q7.le (by omega), b7⟩)
        refine ⟨_, rfl, _, rfl, _, (z0 :: zs).length, rfl, .inl ⟨_, SqL.of D7, (List.length_map ..).symm⟩, _, _, rfl, rfl, D, _, _, zs.length, rfl, rfl, D7, ?_, ?_⟩
        · exact ix_at (by rw [List.length_cons]; omega) (by rw [List.length_map, List.length_cons]; omega)
        · obtain ⟨y1, y2, y3, y4⟩ := put _ _ zs.length 0 D7 ⟨by decide, by decide⟩ c3 b7
          exact ⟨_, rfl, y1, by rw [y2]; omega, y3, (q7.put (Ne.symm nD) ncl).le (by omega), y4⟩
    · rintro σ H6 ⟨ts, rfl, c1, c2, c3, c4, c5⟩
      refine ⟨fun σ Hz => ∃ ts : List Int, σ = [some (.ref pn), some (.int (m : Nat)), some (.int d1), some (.int wd), some (.ref D), none] ∧ Hz D = some (.lst (ts.map V.int)) ∧ ts.length ≤ m ∧ (∀ z ∈ ts, Tm z) ∧ PenC Hz pn cl (n + 30) ∧ But pn H4 Hz, ?_, ?_⟩
      · refine ⟨_, rfl, (by show 0 ≤ sizeLine; decide), fun l6 h6 => ?_⟩
        have s6 := same_new (o := .lst []) h6
        have q6 := c4.same s6
        have D6 := s6 _ _ c1
        refine ⟨.list (ts.map PyData.int), .list [], .lst (SqL.of D6) (dp_ints ts), .lst (SqL.of upd_same) .nil, shaped_ints ts, rfl, _, rfl, ?_⟩
        generalize (upd H6 l6 (.lst [])) = H7 at s6 q6 D6
        have b6 := c5.trans (but_same s6)
        cases ts with
        | nil => exact iteF (iteF ⟨[], rfl, D6, Nat.zero_le _, c3, q6.le (by omega), b6⟩)
        | cons z0 zs =>
          refine iteT ⟨_, rfl, pn, cl, 8, _, rfl, by decide, by decide, q6, by omega, fun d7 H8 a7 b7 q7 u7 => ⟨rfl, _, rfl, ?_⟩⟩
          have D7 := u7 _ _ D6 nD
          have b7 := b6.trans u7
          refine ite2 (fun g => ?_) (fun g => ⟨_, rfl, D7, c2, c3, q7.le (by omega), b7⟩)
          have ll : (((z0 :: zs).length : Nat) : Int).natAbs.log2 < 9000 := Nat.lt_of_lt_of_le (PySem.Flt.log2_lt_of (k := 10) (by decide) (by show _ < 1024; omega)) (by decide)
          refine ⟨_, _, rfl, rfl, ⟨by decide, by decide, by decide⟩, _, rfl, _, rfl, _, rfl, _, (z0 :: zs).length, rfl, .inl ⟨_, SqL.of D7, (List.length_map ..).symm⟩, pn, cl, _, _, rfl, by rw [List.length_cons]; omega, ll, q7, by omega, fun d9 H9 a9 b9 q9 u9 => ?_⟩
          have D9 := u9 _ _ D7 nD
          have b9' := b7.trans u9
          refine ⟨D, _, _, d9.toNat, rfl, rfl, D9, ix_at (by omega) (by rw [List.length_map]; omega), ?_⟩
          obtain ⟨y1, y2, y3, y4⟩ := put _ _ d9.toNat (10 ^ Int.toNat 40) D9 ⟨by decide, by decide⟩ c3 b9'
          exact ⟨_, rfl, y1, by rw [y2]; exact c2, y3, (q9.put (Ne.symm nD) ncl).le (by omega), y4⟩
      · rintro σ H7 ⟨ts, rfl, c1, c2, c3, c4, c5⟩
        exact ⟨_, rfl, fin ts H7 c1 c2 c3 c4 c5⟩
end
end My
/-! pick, the pen's cells at a known place -/
namespace My
open PySem PySem.Spec PyProof.Rows L2
def spPickC : Sp := fun vs H Q _ => ∃ (pn cl l : Addr) (n : Nat) (xs : List V), vs = [.ref pn, .ref l] ∧ H l = some (.lst xs) ∧ l ≠ pn ∧ 0 < xs.length ∧ xs.length ≤ 1000 ∧ PenC H pn cl n ∧ n < 100000 ∧
  ∀ (v : V) (H' : Hp), v ∈ xs → PenC H' pn cl (n + 1) → But pn H H' → Q v H'
section
variable {P : Program} {w : World} {K : PySem.W.Frag} {mg : Str → Option Value} {base : Heap}
theorem ok_pickC {f : Addr} {fd : FuncData} (F : Fun K "_law_pick" "_law_pick" s_pick f fd) (T : BI mg) (D_draw : DefAt P w K mg base CX0 1 "_law_draw" ["_law_pen_here", "_law_many"] spDrawC) : FnOk P w K mg base CX0 2 f fd ["_law_pen_here", "_law_some"] spPickC := by
  refine F.ok sc_pick (fun vs H Q E h => ?_) (fun cdv A outer s H vs Q E hr h => ?_)
  · obtain ⟨pn, cl, l, n, xs, rfl, _⟩ := h
    rfl
  · obtain ⟨pn, cl, l, n, xs, rfl, hl, nl, h0, h1, hp, hn, k⟩ := h
    refine ⟨_, (pss_one (ps_ret (pe_ix ix_list (pv 1) (My.pe_d D_draw (hr.mono (by decide)) (by rfl) pass0 (pa_cons (pv 0) (pa_cons (pe_callB call_len (by rfl) T.z_len PySem.boot_len (pa_cons (pv 1) pa_nil)) pa_nil))) (fun _ _ => rfl)))), ?_⟩
    refine ⟨_, rfl, _, rfl, _, rfl, _, _, rfl, .inl ⟨_, SqL.of hl, rfl⟩, pn, cl, _, n, rfl, by omega, ?_, hp, hn, fun d H' d0 d1 hp' hb => ?_⟩
    · refine Nat.lt_of_lt_of_le (PySem.Flt.log2_lt_of (k := 10) (by decide) ?_) (by decide)
      show xs.length < 1024
      omega
    · obtain ⟨v, hv⟩ : ∃ v, xs[d.toNat]? = some v := ⟨_, List.getElem?_eq_getElem (by omega)⟩
      refine ⟨l, _, _, v, rfl, rfl, SqL.of (hb l _ hl nl), at_of (j := d.toNat) (by omega) hv, ?_⟩
      exact k v H' (List.mem_of_getElem? hv) hp' hb
end
end My
/-! A list of what was heard: tuples of any values, grown by append while lambdas are made. -/
namespace My
open PySem PySem.Spec PyProof.Rows L2
inductive TupV (H : Hp) : List Addr → List (List V) → Prop where
  | nil : TupV H [] []
  | cons {a : Addr} {zs : List V} {as : List Addr} {ws : List (List V)} (h : H a = some (.tup zs)) (t : TupV H as ws) : TupV H (a :: as) (zs :: ws)
theorem TupV.mono {H H' : Hp} {as : List Addr} {ws : List (List V)} (h : TupV H as ws) (k : ∀ a xs, H a = some (.tup xs) → H' a = some (.tup xs)) : TupV H' as ws := by
  induction h with
  | nil => exact .nil
  | cons e _ ih => exact .cons (k _ _ e) ih
theorem TupV.snoc {H : Hp} {as : List Addr} {ws : List (List V)} {a : Addr} {zs : List V} (h : TupV H as ws) (e : H a = some (.tup zs)) : TupV H (as ++ [a]) (ws ++ [zs]) := by
  induction h with
  | nil => exact .cons e .nil
  | cons e' _ ih => exact .cons e' ih
/-- from the heap H0 on, the list at lh holds what was heard -/
structure GivV (TS : List (Addr × Str)) (H0 : Hp) (lh : Addr) (as : List Addr) (ws : List (List V)) (H : Hp) : Prop where
  new : H0 lh = none
  x : LamX.ExtN H0 H
  t : LamX.Tabs TS H
  l : H lh = some (.lst (as.map V.ref))
  w : TupV H as ws
/-- given = [heard(..)] -/
theorem GivV.first {TS : List (Addr × Str)} {G : Hp} {lh a : Addr} {zs : List V} (t : LamX.Tabs TS G) (e : G a = some (.tup zs)) (hl : G lh = none) : GivV TS G lh [a] [zs] (upd G lh (.lst [.ref a])) :=
  ⟨hl, ext_same (same_new hl), t.ext (same_new hl), upd_same, .cons (same_new hl _ _ e) .nil⟩
theorem GivV.at {TS : List (Addr × Str)} {H0 H G G' : Hp} {lh : Addr} {as : List Addr} {ws : List (List V)} (g : GivV TS H0 lh as ws H) (x : LamX.ExtN H G) (s : Same G G') : G' lh = some (.lst (as.map V.ref)) := s _ _ (x _ _ g.l (by intro ps z; cases z))
/-- given.append(heard(..)) -/
theorem GivV.step {TS : List (Addr × Str)} {H0 H G G' : Hp} {lh a : Addr} {zs : List V} {as : List Addr} {ws : List (List V)} (g : GivV TS H0 lh as ws H) (x : LamX.ExtN H G) (tb : LamX.Tabs TS G) (s : Same G G') (e : G' a = some (.tup zs)) :
    GivV TS H0 lh (as ++ [a]) (ws ++ [zs]) (upd G' lh (.lst (as.map V.ref ++ [.ref a]))) := by
  have l := g.at x s
  have nt : ∀ b xs, G' b = some (.tup xs) → (upd G' lh (.lst (as.map V.ref ++ [.ref a]))) b = some (.tup xs) := fun b xs q => by
    rw [upd_ne (ne_of q l (by intro z; cases z))]
    exact q
  refine ⟨g.new, ext_put g.new ((g.x.trans x).trans (ext_same s)), tabs_put (tb.ext s) l, ?_, ((g.w.mono fun b xs q => s _ _ (x _ _ q (by intro ps z; cases z))).mono nt).snoc (nt _ _ e)⟩
  rw [upd_same, List.map_append]
  rfl
end My
namespace My
open PySem PySem.Spec PyProof.Rows L2
abbrev s_refusedR : Stmt := topS 37
theorem sc_refusedR : FnScope ["_law_pen_here", "_law_odd", "_law_some", "_law_k", "_law_at", "_law_second", "_law_due", "_law_given", "_law_made_here", "_law_wrong"] ["_law_pen_here"] (defScope s_refusedR) := ⟨rfl, rfl, rfl, by decide +kernel, rfl, by decide +kernel, by decide +kernel⟩
theorem poly_ints {C CB : Addr} {H : Hp} (zs : List Int) {R : Addr → Hp → Prop} {E : XK} (hl : zs.length ≤ 1000) (k : ∀ q H', PolyAt C H' q (trim zs) → Same H H' → R q H') (x dx : Addr) (hx : H x = none) (hd : H dx = none) (ne : dx ≠ x) :
    spPoly C CB (.ref x :: zs.map V.int) (upd (upd H dx (.own x)) x (.ins C dx [])) (fun v H2 => v = .non ∧ R x H2) E :=
  poly_at (by rw [List.length_map]; exact hl) (fun v hv => by
    obtain ⟨z, rfl, _⟩ := mem_ints hv
    exact TyL.int C H z) hx hd ne (fun ts e q H' po sm => by
    have e2 : zs = ts := (List.map_inj_right fun a b z => V.int.inj z).mp e
    rw [← e2] at po
    exact k q H' po sm) fun j v h1 h2 h3 => by
    obtain ⟨y, _, rfl⟩ := at_int h1
    cases h2
def oddL (t1 t2 t3 q : Addr) : List V := [V.non, .bl true, .bl false, .str "1", .str "", .ref t1, .ref t2, .ref t3, .ref q]
/-- the list of odd things at l -/
structure OddAt (C : Addr) (H : Hp) (l t1 t2 t3 q : Addr) : Prop where
  l : H l = some (.lst (oddL t1 t2 t3 q))
  t1 : H t1 = some (.tup [.int 1])
  t2 : H t2 = some (.lst [.int 2])
  t3 : H t3 = some (.dK [])
  q : PolyAt C H q (trim [1])
theorem pen_ne_of {H : Hp} {pn b : Addr} {n : Nat} {o : HO} (hp : PenAt H pn n) (e : H b = some o) (h : ∀ x y z, o ≠ .lst [x, y, z]) : b ≠ pn := by
  obtain ⟨cl, ns, a, r, g1, _⟩ := hp
  intro z
  rw [z, g1] at e
  cases e
  exact h _ _ _ rfl
theorem OddAt.keep {C : Addr} {H H' : Hp} {l t1 t2 t3 q pn : Addr} {n : Nat} (h : OddAt C H l t1 t2 t3 q) (hp : PenAt H pn n) (k : ∀ b o, H b = some o → b ≠ pn → (∀ ps, o ≠ .tbl ps) → H' b = some o) : OddAt C H' l t1 t2 t3 q := by
  obtain ⟨a, b, c, d, dx, tt, e, f⟩ := h
  refine ⟨k _ _ a (pen_ne_of hp a ?_) (by intro ps z; cases z), k _ _ b (pen_ne_of hp b ?_) (by intro ps z; cases z), k _ _ c (pen_ne_of hp c ?_) (by intro ps z; cases z), k _ _ d (pen_ne_of hp d ?_) (by intro ps z; cases z), dx, tt, k _ _ e (pen_ne_of hp e ?_) (by intro ps z; cases z), k _ _ f (pen_ne_of hp f ?_) (by intro ps z; cases z)⟩
  all_goals
    intro x y z w
    cases w
theorem OddAt.ty {C : Addr} {H : Hp} {l t1 t2 t3 q : Addr} (h : OddAt C H l t1 t2 t3 q) {v : V} (hv : v ∈ oddL t1 t2 t3 q) : TyL C H v := by
  unfold oddL at hv
  simp only [List.mem_cons, List.mem_nil_iff, or_false] at hv
  rcases hv with rfl | rfl | rfl | rfl | rfl | rfl | rfl | rfl | rfl
  · exact .inl ⟨_, .non⟩
  · exact .inl ⟨_, .bl _⟩
  · exact .inl ⟨_, .bl _⟩
  · exact .inl ⟨_, .str _⟩
  · exact .inl ⟨_, .str _⟩
  · exact .inl ⟨_, .tup h.t1⟩
  · exact .inl ⟨_, .lst h.t2⟩
  · exact .inl ⟨_, .dK h.t3⟩
  · exact h.q.tyl
theorem odd_no {t1 t2 t3 q : Addr} {v : V} (hv : v ∈ oddL t1 t2 t3 q) : isI v = false := by
  unfold oddL at hv
  simp only [List.mem_cons, List.mem_nil_iff, or_false] at hv
  rcases hv with rfl | rfl | rfl | rfl | rfl | rfl | rfl | rfl | rfl <;> rfl
/-- ints but for odd things -/
def Mixd (t1 t2 t3 q : Addr) (xs : List V) : Prop := ∀ v ∈ xs, isI v = true ∨ v ∈ oddL t1 t2 t3 q
theorem OddAt.all {C : Addr} {H : Hp} {l t1 t2 t3 q : Addr} (h : OddAt C H l t1 t2 t3 q) {xs : List V} (m : Mixd t1 t2 t3 q xs) : ∀ v ∈ xs, TyL C H v := fun v hv => by
  rcases m v hv with z | z
  · obtain ⟨i, rfl⟩ := isI_int z
    exact TyL.int C H i
  · exact h.ty z
theorem Mixd.set {t1 t2 t3 q : Addr} {xs : List V} (m : Mixd t1 t2 t3 q xs) {v : V} (hv : isI v = true ∨ v ∈ oddL t1 t2 t3 q) (j : Nat) : Mixd t1 t2 t3 q (xs.set j v) := fun u hu => by
  rcases List.mem_or_eq_of_mem_set hu with z | z
  · exact m u z
  · rw [z]
    exact hv
theorem bad_one {ts : List Int} {a : Nat} {v : V} (ha : a < ts.length) (hv : isI v = false) : Bad ((ts.map V.int).set a v) a := by
  refine ⟨v, ?_, hv, fun j u hj hu => ?_⟩
  · rw [List.getElem?_set_self (by rw [List.length_map]; exact ha)]
  · rw [List.getElem?_set_ne (by omega)] at hu
    obtain ⟨y, _, rfl⟩ := at_int hu
    rfl
theorem Bad.later {xs : List V} {a j : Nat} {v : V} (b : Bad xs a) (h : a < j) : Bad (xs.set j v) a := by
  obtain ⟨u, e1, e2, e3⟩ := b
  refine ⟨u, ?_, e2, fun k w hk hw => ?_⟩
  · rw [List.getElem?_set_ne (by omega)]
    exact e1
  · rw [List.getElem?_set_ne (by omega)] at hw
    exact e3 k w hk hw
theorem PenC.ext {H H' : Hp} {pn cl : Addr} {n : Nat} (h : PenC H pn cl n) (k : LamX.ExtN H H') : PenC H' pn cl n := by
  obtain ⟨ns, a, r, e1, e2, h3⟩ := h
  exact ⟨ns, a, r, k _ _ e1 (by intro ps z; cases z), k _ _ e2 (by intro ps z; cases z), h3⟩
/-- an error of one field, as heard gives it -/
theorem heardB {CB CP CI : Addr} {v : V} {H : Hp} {Q : VK} (k : ∀ t H', Same H H' → H' t = some (.tup [.str "poly", v]) → Q (.ref t) H') : Errs (WHeard CB CP CI Q) CB "at" v H :=
  fun d H' hd hx s => .inl ⟨d, v, rfl, rfl, hx, fun t ht => k t _ (s.trans (same_new ht)) upd_same⟩
theorem heardP {CB CP CI : Addr} {v : V} {H : Hp} {Q : VK} (k : ∀ t H', Same H H' → H' t = some (.tup [.str "place", v]) → Q (.ref t) H') : Errs (WHeard CB CP CI Q) CP "value" v H :=
  fun d H' hd hx s => .inr (.inl ⟨d, v, rfl, rfl, hx, fun t ht => k t _ (s.trans (same_new ht)) upd_same⟩)
theorem heardI {CB CP CI : Addr} {v : V} {H : Hp} {Q : VK} (k : ∀ t H', Same H H' → H' t = some (.tup [.str "index", v]) → Q (.ref t) H') : Errs (WHeard CB CP CI Q) CI "value" v H :=
  fun d H' hd hx s => .inr (.inr (.inl ⟨d, v, rfl, rfl, hx, fun t ht => k t _ (s.trans (same_new ht)) upd_same⟩))
theorem sh_poly (a : Int) : SeqAt.shaped (.list [.tuple [.str "poly", .int a], .tuple [.str "poly", .int a]]) = true := by
  have o : PyData.strOk ("poly" : Str) = true := by decide +kernel
  show (((PyData.strOk ("poly" : Str) && (true && true)) && ((PyData.strOk ("poly" : Str) && (true && true)) && true)) && decide (_ + 1 ≤ 64)) = true
  rw [o]
  rfl
def spRefusedP (C : Addr) (TS : List (Addr × Str)) : Sp := fun vs H Q _ => ∃ (pn : Addr) (n : Nat), vs = [.ref pn] ∧ PenAt H pn n ∧ n < 80000 ∧ LamX.Tabs TS H ∧ ∀ (H' : Hp), PenAt H' pn (n + 20) → Kp pn TS H H' → Q (.bl true) H'
section
variable {P : Program} {w : World} {K : PySem.W.Frag} {mg : Str → Option Value} {base : Heap} {CE C CB fB CP fP CI fI : Addr}
theorem ok_refusedR {f c tb : Addr} {fd : FuncData} {TS : List (Addr × Str)} (F : FunC K "_law_refused" "_law_refused" s_refusedR f fd c) (T : PTx P K mg C CB fB CP fP CI fI) (TH : HTx P K mg CE CB fB CP fP CI fI) (DH : HeardAt K mg)
    (TB : LamX.TabB base mg c tb) (hmT : (tb, (("_law_refused" : Str) ++ ".<locals>.") ++ "<lambda>") ∈ TS) (hu : ∀ p ∈ TS, p.1 = tb → p.2 = (("_law_refused" : Str) ++ ".<locals>.") ++ "<lambda>")
    (D_draw : DefAt P w K mg base CX0 1 "_law_draw" ["_law_pen_here", "_law_many"] spDrawC) (D_pick : DefAt P w K mg base CX0 2 "_law_pick" ["_law_pen_here", "_law_some"] spPickC) (M_Poly : MakeR P w K mg base (L2.CX P w) 3 "Poly" C (spPoly C CB)) (D_lmade : DefAt P w K mg base (L2.CX P w) 5 "_law_made" ["_law_some"] (spLmade C CB))
    (K_of : ClsAt P w K mg base (L2.CX P w) 5 C "of" (spPof K C CB)) (G_Poly : GetAt P w K mg base (L2.CX P w) 2 C ["self", "k"] (spPget C CI)) (C_Poly : CallAt P w K mg base (L2.CX P w) 3 C ["self", "m"] (spPcall C CP)) :
    FnG P w K mg base CX0 11 f fd ["_law_pen_here"] (spRefusedP C TS) := by
  refine okGc F sc_refusedR (fun vs H Q E h => ?_) (fun A outer s H vs Q E hgd hr h => ?_)
  · obtain ⟨pn, n, rfl, _⟩ := h
    rfl
  · obtain ⟨pn, n, rfl, hp, hn, ht, k⟩ := h
    refine ⟨_, (pss_cons (ps_set (i := 1) sc_refusedR.nd rfl (Or.inl rfl) (pe_lst (pa_cons pe_non (pa_cons pe_bl (pa_cons pe_bl (pa_cons pe_str (pa_cons pe_str (pa_cons (pe_tup (pa_cons pe_int pa_nil)) (pa_cons (pe_lst (pa_cons pe_int pa_nil)) (pa_cons pe_dnewK (pa_cons (My.pe_mkR M_Poly (hr.mono (by decide)) (by rfl) passL (pa_cons pe_int pa_nil)) pa_nil)))))))))))
      (pss_cons (ps_set (i := 2) sc_refusedR.nd rfl (Or.inr rfl) (pe_lc (own := [("_law_k", 3)]) rfl sc_refusedR.nd (pi_range1 rfl T.z_range (pa_cons (pe_op op_add pe_int (My.pe_d D_draw (hr.mono (by decide)) (by rfl) pass0 (pa_cons (pv 0) (pa_cons pe_int pa_nil)))) pa_nil)) (blkOk_by (by show blkC ["_law_pen_here", "_law_odd", "_law_some", "_law_k", "_law_at", "_law_second", "_law_due", "_law_given", "_law_made_here", "_law_wrong"] (defScope s_refusedR) _ _ = true; decide +kernel)) (fun _ _ _ _ _ => (pg_name (i := 3) sc_refusedR.nd rfl (Or.inl rfl))) (fun _ _ _ _ _ => pts_nil) (fun _ _ _ _ _ => (pe_op op_sub (My.pe_d D_draw (hr.mono (by decide)) (by rfl) pass0 (pa_cons (pv 0) (pa_cons pe_int pa_nil))) pe_int))))
      (pss_cons (ps_set (i := 4) sc_refusedR.nd rfl (Or.inl rfl) (My.pe_d D_draw (hr.mono (by decide)) (by rfl) pass0 (pa_cons (pv 0) (pa_cons (pe_callB call_len (by rfl) T.z_len PySem.boot_len (pa_cons (pv 2) pa_nil)) pa_nil))))
      (pss_cons (ps_asg (My.pe_d D_pick (hr.mono (by decide)) (by rfl) pass0 (pa_cons (pv 0) (pa_cons (pv 1) pa_nil))) (pg_sub (pv 2) (pv 4) set_list))
      (pss_cons (ps_set (i := 5) sc_refusedR.nd rfl (Or.inl rfl) (My.pe_d D_draw (hr.mono (by decide)) (by rfl) pass0 (pa_cons (pv 0) (pa_cons (pe_callB call_len (by rfl) T.z_len PySem.boot_len (pa_cons (pv 2) pa_nil)) pa_nil))))
      (C8.pss_cut (ps_asg (pe_ifExp (pt_cmpR op_gt (pv 5) (pv 4) (nomark _)) (My.pe_d D_pick (hr.mono (by decide)) (by rfl) pass0 (pa_cons (pv 0) (pa_cons (pv 1) pa_nil))) (pe_ix ix_list (pv 2) (pv 5) (fun _ _ => rfl))) (pg_sub (pv 2) (pv 5) set_list))
      (pss_cons (ps_set (i := 6) sc_refusedR.nd rfl (Or.inl rfl) (pe_tup (pa_cons pe_str (pa_cons (pv 4) pa_nil))))
      (pss_cons (ps_set (i := 7) sc_refusedR.nd rfl (Or.inl rfl) (pe_lst (pa_cons (My.pe_heard (k := 8) DH TH hgd (hr.mono (by decide)) TB rfl hmT hu (by rfl) (LamX.lamS_by (by show LamX.lamSB (defScope s_refusedR) _ = true; decide +kernel)) rfl (fun _ _ _ _ _ => rfl) (fun A outer s H E f c hrl => (My.pe_d D_lmade (hrl.mono (by decide)) (by rfl) (passes_call (takes_of rfl rfl rfl rfl) (fun _ _ _ _ h => h)) (pa_cons (pv 2) pa_nil)))) pa_nil)))
      (pss_cons (ps_expr (pe_bm PySem.F.plainAttrs_list PySem.F.slot_list_append PySem.F.type_list_append mt_append (pv 7) (pa_cons (My.pe_heard (k := 8) DH TH hgd (hr.mono (by decide)) TB rfl hmT hu (by rfl) (LamX.lamS_by (by show LamX.lamSB (defScope s_refusedR) _ = true; decide +kernel)) rfl (fun _ _ _ _ _ => rfl) (fun A outer s H E f c hrl => (My.pe_cm K_of (hrl.mono (by decide)) (passes_call (takes_of rfl rfl rfl rfl) (fun _ _ _ _ h => h)) (pe_glob (v := .ref C) (by rfl) T.gP rfl) (pa_cons (pv 2) pa_nil)))) pa_nil)))
      (pss_cons (ps_if (pt_cmpR (op_neD hr.units) (pv 7) (pe_lst (pa_cons (pv 6) (pa_cons (pv 6) pa_nil))) (nomark _)) (pss_one (ps_ret pe_bl)) pss_nil)
      (pss_cons (ps_asg (pe_tup (pa_cons (My.pe_mkR M_Poly (hr.mono (by decide)) (by rfl) passL (pa_cons pe_int (pa_cons pe_int (pa_cons (pe_un un_neg pe_int) pa_nil)))) (pa_cons (My.pe_d D_pick (hr.mono (by decide)) (by rfl) pass0 (pa_cons (pv 0) (pa_cons (pv 1) pa_nil))) pa_nil))) (pg_tup rfl (pgs_cons (pg_name (i := 8) sc_refusedR.nd rfl (Or.inr rfl)) (pgs_cons (pg_name (i := 9) sc_refusedR.nd rfl (Or.inr rfl)) pgs_nil))))
      (pss_cons (ps_set (i := 7) sc_refusedR.nd rfl (Or.inl rfl) (pe_lst (pa_cons (My.pe_heard (k := 8) DH TH hgd (hr.mono (by decide)) TB rfl hmT hu (by rfl) (LamX.lamS_by (by show LamX.lamSB (defScope s_refusedR) _ = true; decide +kernel)) rfl (fun _ _ _ _ _ => rfl) (fun A outer s H E f c hrl => (My.pe_clI C_Poly (hrl.mono (by decide)) (passes_call (takes_of rfl rfl rfl rfl) (fun _ _ _ _ h => h)) (pv 8) (pa_cons (pv 9) pa_nil)))) pa_nil)))
      (pss_cons (ps_expr (pe_bm PySem.F.plainAttrs_list PySem.F.slot_list_append PySem.F.type_list_append mt_append (pv 7) (pa_cons (My.pe_heard (k := 8) DH TH hgd (hr.mono (by decide)) TB rfl hmT hu (by rfl) (LamX.lamS_by (by show LamX.lamSB (defScope s_refusedR) _ = true; decide +kernel)) rfl (fun _ _ _ _ _ => rfl) (fun A outer s H E f c hrl => (My.pe_get G_Poly (hrl.mono (by decide)) (passes_call (takes_of rfl rfl rfl rfl) (fun _ _ _ _ h => h)) (pv 8) (pv 9)))) pa_nil)))
      (pss_cons (ps_expr (pe_bm PySem.F.plainAttrs_list PySem.F.slot_list_append PySem.F.type_list_append mt_append (pv 7) (pa_cons (My.pe_heard (k := 8) DH TH hgd (hr.mono (by decide)) TB rfl hmT hu (by rfl) (LamX.lamS_by (by show LamX.lamSB (defScope s_refusedR) _ = true; decide +kernel)) rfl (fun _ _ _ _ _ => rfl) (fun A outer s H E f c hrl => (My.pe_get G_Poly (hrl.mono (by decide)) (passes_call (takes_of rfl rfl rfl rfl) (fun _ _ _ _ h => h)) (pv 8) (pe_un un_neg pe_int)))) pa_nil)))
      (pss_one (ps_ret (pe_cmpR (My.op_eqTs hr) (pv 7) (pe_lst (pa_cons (pe_tup (pa_cons pe_str (pa_cons (pv 9) pa_nil))) (pa_cons (pe_tup (pa_cons pe_str (pa_cons (pv 9) pa_nil))) (pa_cons (pe_tup (pa_cons pe_str (pa_cons (pe_un un_neg pe_int) pa_nil))) pa_nil)))) (nomark _)))))))))))))))))), ?_⟩
    refine ⟨(by show 1 ≤ sizeLine; decide), fun t1 h1 => ⟨(by show 1 ≤ sizeLine; decide), fun t2 h2 => fun t3 h3 => ?_⟩⟩
    have w1 : (upd (upd (upd H t1 (.tup [.int 1])) t2 (.lst [.int 2])) t3 (.dK [])) t1 = some (.tup [.int 1]) := same_new h3 _ _ (same_new h2 _ _ upd_same)
    have w2 : (upd (upd (upd H t1 (.tup [.int 1])) t2 (.lst [.int 2])) t3 (.dK [])) t2 = some (.lst [.int 2]) := same_new h3 _ _ upd_same
    have w3 : (upd (upd (upd H t1 (.tup [.int 1])) t2 (.lst [.int 2])) t3 (.dK [])) t3 = some (.dK []) := upd_same
    have s1 : Same H (upd (upd (upd H t1 (.tup [.int 1])) t2 (.lst [.int 2])) t3 (.dK [])) := ((same_new h1).trans (same_new h2)).trans (same_new h3)
    generalize (upd (upd (upd H t1 (.tup [.int 1])) t2 (.lst [.int 2])) t3 (.dK [])) = H1 at w1 w2 w3 s1
    refine poly_ints [1] (by decide) fun q H2 r1 s2 => ⟨(by show 9 ≤ sizeLine; decide), fun l4 h4 => ?_⟩
    have O4 : OddAt C (upd H2 l4 (.lst [V.non, .bl true, .bl false, .str "1", .str "", .ref t1, .ref t2, .ref t3, .ref q])) l4 t1 t2 t3 q := ⟨upd_same, same_new h4 _ _ (s2 _ _ w1), same_new h4 _ _ (s2 _ _ w2), same_new h4 _ _ (s2 _ _ w3), r1.same (same_new h4)⟩
    have S4 := (s1.trans s2).trans (same_new (o := .lst [V.non, .bl true, .bl false, .str "1", .str "", .ref t1, .ref t2, .ref t3, .ref q]) h4)
    generalize (upd H2 l4 (.lst [V.non, .bl true, .bl false, .str "1", .str "", .ref t1, .ref t2, .ref t3, .ref q])) = H4 at O4 S4
    clear w1 w2 w3 s1 r1 s2 h4
    have p4 := pen_same hp S4
    obtain ⟨cl, q4⟩ := p4.cells
    -- some
    refine ⟨_, rfl, pn, cl, 4, n, rfl, by decide, by decide, q4, by omega, fun d0 H5 a0 b0 q5 u5 => ⟨_, _, rfl, rfl, _, rfl, by omega, by omega, fun D hD => ?_⟩⟩
    have p5 := q5.pen
    have nD : D ≠ pn := pen_ne p5 hD
    have ncl : cl ≠ D := by
      obtain ⟨ns, x, r, g1, g2, _⟩ := q5
      exact ne_of_none g2 hD
    refine lc_range (lo := 0) (n := (1 + d0).toNat) (fun i Hh => ∃ ts : List Int, Hh D = some (.lst (ts.map V.int)) ∧ ts.length = i ∧ PenC Hh pn cl (n + 1 + i) ∧ But pn H5 Hh) ⟨[], upd_same, rfl, q5.put (Ne.symm nD) ncl, But.new hD⟩ ?_ ?_
    · rintro i Hh hi ⟨ts, c1, c2, c4, c5⟩
      refine ⟨rfl, yes_go ⟨_, rfl, pn, cl, 9, _, rfl, by decide, by decide, c4, by omega, fun d Hd ad bd pd ud => ?_⟩⟩
      have cD := ud _ _ c1 nD
      refine ⟨_, _, rfl, rfl, _, cD, by rw [List.length_map, sizeLine_eq]; omega, ts ++ [d - 4], ?_, by rw [List.length_append, c2]; rfl, pd.put (Ne.symm nD) ncl, ?_⟩
      · rw [List.map_append]
        exact upd_same
      · intro b o e n
        rw [upd_ne (ne_of_none e hD)]
        exact ud _ _ (c5 b o e n) n
    rintro H6 ⟨ts, D6, ln, q6, u6⟩
    have el : (ts.map V.int).length = ts.length := List.length_map ..
    have O5 := O4.keep p4 fun b o e n _ => u5 b o e n
    have kD : ∀ {Hz : Hp} (xs : List V), But pn H5 Hz → But pn H5 (upd Hz D (.lst xs)) := fun {Hz} xs hb b o e n => by
      rw [upd_ne (ne_of_none e hD)]
      exact hb b o e n
    have nl4 : l4 ≠ pn := pen_ne_of p5 O5.l (by intro x y z w; cases w)
    have odd : ∀ {Hz : Hp}, But pn H5 Hz → OddAt C Hz l4 t1 t2 t3 q := fun {Hz} hb => O5.keep p5 fun b o e n _ => hb b o e n
    have ll : ((ts.length : Nat) : Int).natAbs.log2 < 9000 := Nat.lt_of_lt_of_le (PySem.Flt.log2_lt_of (k := 10) (by decide) (by show _ < 1024; omega)) (by decide)
    -- one odd thing
    refine ⟨_, rfl, _, rfl, _, ts.length, rfl, .inl ⟨_, SqL.of D6, el.symm⟩, pn, cl, _, _, rfl, by omega, ll, q6, by omega, fun a H7 a0' a1' q7 u7 => ?_⟩
    have U7 := u6.trans u7
    have D7 := u7 _ _ D6 nD
    refine ⟨_, rfl, _, rfl, pn, cl, l4, _, _, rfl, (odd U7).l, nl4, (by show 0 < 9; decide), (by show 9 ≤ 1000; decide), q7, by omega, fun v1 H8 hv1 q8 u8 => ?_⟩
    have U8 := U7.trans u8
    have D8 := u8 _ _ D7 nD
    refine ⟨_, rfl, _, rfl, D, _, _, a.toNat, rfl, rfl, D8, ix_at (by omega) (by omega), ?_⟩
    have U9 := kD ((ts.map V.int).set a.toNat v1) U8
    have q9 : PenC (upd H8 D (.lst ((ts.map V.int).set a.toNat v1))) pn cl _ := q8.put (Ne.symm nD) ncl
    have D9 : (upd H8 D (.lst ((ts.map V.int).set a.toNat v1))) D = some (.lst ((ts.map V.int).set a.toNat v1)) := upd_same
    generalize (upd H8 D (.lst ((ts.map V.int).set a.toNat v1))) = H9 at U9 q9 D9
    have B9 : Bad ((ts.map V.int).set a.toNat v1) a.toNat := bad_one (by omega) (odd_no hv1)
    have M9 : Mixd t1 t2 t3 q ((ts.map V.int).set a.toNat v1) := Mixd.set (fun v hv => by
      obtain ⟨z, rfl, _⟩ := mem_ints hv
      exact .inl rfl) (.inr hv1) _
    have l9 : ((ts.map V.int).set a.toNat v1).length = ts.length := by rw [List.length_set, el]
    generalize (ts.map V.int).set a.toNat v1 = xs at D9 B9 M9 l9
    refine ⟨_, rfl, _, rfl, _, ts.length, rfl, .inl ⟨_, SqL.of D9, l9.symm⟩, pn, cl, _, _, rfl, by omega, ll, q9, by omega, fun b H10 b0' b1' q10 u10 => ?_⟩
    have U10 := U9.trans u10
    have D10 := u10 _ _ D9 nD
    refine ⟨fun σ Hz => ∃ ys : List V, σ = [some (.ref pn), some (.ref l4), some (.ref D), none, some (.int a), some (.int b), none, none, none, none] ∧ Hz D = some (.lst ys) ∧ ys.length = ts.length ∧ Bad ys a.toNat ∧ Mixd t1 t2 t3 q ys ∧ PenC Hz pn cl (n + 15) ∧ But pn H5 Hz, ?_, ?_⟩
    · refine ⟨_, rfl, _, rfl, _, _, rfl, rfl, _, rfl, ?_⟩
      refine ite2 (fun c => ?_) (fun c => ?_)
      · have lt : a < b := of_decide_eq_true c
        refine ⟨_, rfl, _, rfl, pn, cl, l4, _, _, rfl, (odd U10).l, nl4, (by show 0 < 9; decide), (by show 9 ≤ 1000; decide), q10, by omega, fun v2 H11 hv2 q11 u11 => ?_⟩
        have D11 := u11 _ _ D10 nD
        refine ⟨_, rfl, _, rfl, D, _, _, b.toNat, rfl, rfl, D11, ix_at (by omega) (by omega), ?_⟩
        exact ⟨_, rfl, upd_same, by rw [List.length_set, l9], B9.later (by omega), M9.set (.inr hv2) _, (q11.put (Ne.symm nD) ncl).le (by omega), kD _ (U10.trans u11)⟩
      · obtain ⟨y, hy⟩ : ∃ y, xs[b.toNat]? = some y := ⟨_, List.getElem?_eq_getElem (by omega)⟩
        refine ⟨_, rfl, _, rfl, D, _, _, y, rfl, rfl, SqL.of D10, at_of (j := b.toNat) (by omega) hy, ?_⟩
        refine ⟨_, rfl, _, rfl, D, _, _, b.toNat, rfl, rfl, D10, ix_at (by omega) (by omega), ?_⟩
        have es : xs.set b.toNat y = xs := by
          obtain ⟨hb, hy⟩ := List.getElem?_eq_some_iff.mp hy
          rw [← hy]
          exact List.set_getElem_self hb
        rw [es]
        exact ⟨_, rfl, upd_same, l9, B9, M9, (q10.put (Ne.symm nD) ncl).le (by omega), kD _ U10⟩
    rintro σ H11 ⟨ys, rfl, D11, l11, B11, M11, q11, U11⟩
    have O11 := odd U11
    have T5 : LamX.Tabs TS H5 := tabs_but (ht.ext S4) p4 u5
    have T11 : LamX.Tabs TS H11 := tabs_but T5 p5 U11
    have K11 : Kp pn TS H H11 := (Kp.same ht S4).trans ((Kp.but (ht.ext S4) p4 u5).trans (Kp.but T5 p5 U11))
    clear U11 U10 U9 U8 U7 D10 D9 D8 D7 D6 q10 q9 q8 q7 q6
    have ea : ((a.toNat : Nat) : Int) = a := by omega
    -- what is heard
    refine ⟨_, rfl, (by show 2 ≤ sizeLine; decide), fun du hdu => ?_⟩
    have s12 := same_new (o := .tup [.str "poly", .int a]) hdu
    have d12 : (upd H11 du (.tup [.str "poly", .int a])) du = some (.tup [.str "poly", .int a]) := upd_same
    generalize (upd H11 du (.tup [.str "poly", .int a])) = H12 at s12 d12
    have q12 := q11.same s12
    have O12 := O11.keep q11.pen fun b o e _ _ => s12 b o e
    have D12 := s12 _ _ D11
    have K12 := K11.trans (Kp.same K11.tabs s12)
    refine ⟨K12.tabs, fun G1 x1 tb1 => ?_⟩
    have O13 := O12.keep q12.pen fun b o e _ m => x1 b o e m
    refine ⟨_, rfl, D, ys, a.toNat, rfl, x1 _ _ D12 (by intro ps z; cases z), by omega, by omega, O13.all M11, B11, heardB fun ta Ha sa wa => ⟨(by show 1 ≤ sizeLine; decide), fun lh hlh => ?_⟩⟩
    rw [ea] at wa
    have xA : LamX.ExtN H12 Ha := x1.trans (ext_same sa)
    have g1 := GivV.first (tb1.ext sa) wa hlh
    generalize (upd Ha lh (.lst [.ref ta])) = H13 at g1
    refine ⟨_, rfl, .inl ⟨rfl, _, SqL.of g1.l⟩, g1.t, fun G2 x2 tb2 => ?_⟩
    have y2 := (xA.trans g1.x).trans x2
    have O14 := O12.keep q12.pen fun b o e _ m => y2 b o e m
    refine ⟨rfl, _, rfl, D, ys, rfl, .inr (SqL.of (y2 _ _ D12 (by intro ps z; cases z))), by omega, O14.all M11, fun zs e _ _ _ _ => (B11.noInts e).elim, fun j v e1 e2 e3 => ?_⟩
    have ej := B11.uniq e1 e2 e3
    subst ej
    refine heardB fun tb' Hb sb wb => ⟨lh, _, _, rfl, rfl, g1.at x2 sb, (by show 1 < sizeLine; decide), ?_⟩
    rw [ea] at wb
    have g2 := g1.step x2 tb2 sb wb
    generalize (upd Hb lh _) = H15 at g2
    have Y15 : LamX.ExtN H12 H15 := xA.trans g2.x
    have d15 := Y15 _ _ d12 (by intro ps z; cases z)
    refine ⟨_, rfl, _, rfl, _, rfl, (by show 2 ≤ sizeLine; decide), fun z1 k1 => ?_⟩
    have s16 := same_new (o := .lst [.ref du, .ref du]) k1
    have sh := sh_poly a
    have dat : DpAll K (upd H15 z1 (.lst [.ref du, .ref du])) [.str "poly", .int a] [.str "poly", .int a] := .cons (.str _) (.cons (.int _) .nil)
    obtain ⟨ga, gb, gl⟩ : ∃ ga gb, H15 ga = some (.tup [.str "poly", .int a]) ∧ H15 gb = some (.tup [.str "poly", .int a]) ∧ H15 lh = some (.lst [.ref ga, .ref gb]) := by
      have gl := g2.l
      have gw := g2.w
      cases gw with
      | cons h1 t => cases t with
        | cons h2 t2 => exact ⟨_, _, h1, h2, gl⟩
    obtain ⟨w1, w2, gl⟩ := gl
    refine ⟨.list [.tuple [.str "poly", .int a], .tuple [.str "poly", .int a]], .list [.tuple [.str "poly", .int a], .tuple [.str "poly", .int a]], .lst (SqL.of (s16 _ _ gl)) (.cons (.tup (SqT.of (s16 _ _ w1)) dat) (.cons (.tup (SqT.of (s16 _ _ w2)) dat) .nil)), .lst (SqL.of upd_same) (.cons (.tup (SqT.of (s16 _ _ d15)) dat) (.cons (.tup (SqT.of (s16 _ _ d15)) dat) .nil)), sh, sh, _, rfl, ?_⟩
    rw [SeqAt.eqv_refl _ (SeqAt.canLay_of_shaped sh)]
    refine iteF ?_
    clear dat
    generalize (upd H15 z1 (.lst [.ref du, .ref du])) = H16 at s16
    have Y16 : LamX.ExtN H12 H16 := Y15.trans (ext_same s16)
    have T16 : LamX.Tabs TS H16 := g2.t.ext s16
    have K16 : Kp pn TS H H16 := K12.trans (Kp.ext T16 Y16)
    have q16 := q12.ext Y16
    have O16 := O12.keep q12.pen fun b o e _ m => Y16 b o e m
    clear g1 g2 O13 O14 d15
    -- a poly and a wrong place
    refine ⟨_, rfl, poly_ints [3, 0, -2] (by decide) fun p H17 P17 s17 => ?_⟩
    have q17 := q16.same s17
    have O17 := O16.keep q16.pen fun b o e _ _ => s17 b o e
    refine ⟨_, rfl, _, rfl, pn, cl, l4, _, _, rfl, O17.l, nl4, (by show 0 < 9; decide), (by show 9 ≤ 1000; decide), q17, by omega, fun v H18 hv q18 u18 => ⟨(by show 2 ≤ sizeLine; decide), fun t19 h19 => ?_⟩⟩
    refine ⟨t19, _, rfl, SqT.of upd_same, rfl, _, _, rfl, _, _, rfl, rfl, ?_⟩
    have U19 := u18.trans (But.new (pn := pn) (o := .tup [.ref p, v]) h19)
    have q19 := q18.same (same_new (o := .tup [.ref p, v]) h19)
    generalize (upd H18 t19 (.tup [.ref p, v])) = H19 at U19 q19
    have P19 := P17.but q17.pen U19
    have O19 := O17.keep q17.pen fun b o e n _ => U19 b o e n
    have K17 := K16.trans (Kp.same K16.tabs s17)
    have K19 : Kp pn TS H H19 := K17.trans (Kp.but K17.tabs q17.pen U19)
    have ni := odd_no hv
    have pl : (trim [3, 0, -2]).length ≤ 1000 := Nat.le_trans (trim_le _) (by decide)
    refine ⟨K19.tabs, fun G1 x1 tb1 => ?_⟩
    have P20 := P19.ext x1
    obtain ⟨dx, tt, ep, _⟩ := id P20
    have ty20 := (O19.ty hv).ext x1
    refine ⟨_, rfl, p, rfl, _, rfl, ⟨dx, _, ep⟩, p, _, v, rfl, P20, pl, ty20, (fun m e => by subst e; cases ni), fun _ => heardP fun ta Ha sa wa => ⟨(by show 1 ≤ sizeLine; decide), fun lh hlh => ?_⟩⟩
    have xA : LamX.ExtN H19 Ha := x1.trans (ext_same sa)
    have g1 := GivV.first (tb1.ext sa) wa hlh
    generalize (upd Ha lh (.lst [.ref ta])) = H21 at g1
    refine ⟨_, rfl, .inl ⟨rfl, _, SqL.of g1.l⟩, g1.t, fun G2 x2 tb2 => ?_⟩
    have y2 := (xA.trans g1.x).trans x2
    have P21 := P19.ext y2
    obtain ⟨dx1, tt1, ep1, _⟩ := id P21
    refine ⟨_, rfl, _, rfl, p, dx1, _, rfl, ep1, p, _, v, rfl, P21, (O19.ty hv).ext y2, (fun k e _ => by subst e; cases ni), fun _ => heardI fun tb' Hb sb wb => ⟨lh, _, _, rfl, rfl, g1.at x2 sb, (by show 1 < sizeLine; decide), ?_⟩⟩
    have g2 := g1.step x2 tb2 sb wb
    generalize (upd Hb lh _) = H22 at g2
    refine ⟨_, rfl, .inl ⟨rfl, _, SqL.of g2.l⟩, g2.t, fun G3 x3 tb3 => ?_⟩
    have y3 := (xA.trans g2.x).trans x3
    have P22 := P19.ext y3
    obtain ⟨dx2, tt2, ep2, _⟩ := id P22
    refine ⟨_, rfl, _, rfl, p, dx2, _, rfl, ep2, p, _, .int (-1), rfl, P22, TyL.int C _ _, (fun k e h0 => by cases e; exact absurd h0 (by decide)), fun _ => heardI fun tc Hc sc wc => ⟨lh, _, _, rfl, rfl, g2.at x3 sc, (by show 2 < sizeLine; decide), ?_⟩⟩
    have g3 := g2.step x3 tb3 sc wc
    generalize (upd Hc lh _) = H23 at g3
    have Y23 : LamX.ExtN H19 H23 := xA.trans g3.x
    obtain ⟨ga, gb, gc, e1, e2, e3, gl⟩ : ∃ ga gb gc, H23 ga = some (.tup [.str "place", v]) ∧ H23 gb = some (.tup [.str "index", v]) ∧ H23 gc = some (.tup [.str "index", .int (-1)]) ∧ H23 lh = some (.lst [.ref ga, .ref gb, .ref gc]) := by
      have gl := g3.l
      have gw := g3.w
      cases gw with
      | cons h1 t => cases t with
        | cons h2 t => cases t with
          | cons h3 t2 => exact ⟨_, _, _, h1, h2, h3, gl⟩
    have vf := (O19.ty hv).flat
    refine ⟨_, rfl, _, rfl, (by show 2 ≤ sizeLine; decide), fun z1 k1 => ⟨_, rfl, (by show 2 ≤ sizeLine; decide), fun z2 k2 => ⟨_, rfl, (by show 2 ≤ sizeLine; decide), fun z3 k3 => ⟨(by show 3 ≤ sizeLine; decide), fun z4 k4 => ?_⟩⟩⟩⟩
    have S27 : Same H23 (upd (upd (upd (upd H23 z1 (.tup [.str "place", v])) z2 (.tup [.str "index", v])) z3 (.tup [.str "index", .int (-1)])) z4 (.lst [.ref z1, .ref z2, .ref z3])) := (((same_new k1).trans (same_new k2)).trans (same_new k3)).trans (same_new k4)
    have f1 : (upd (upd (upd (upd H23 z1 (.tup [.str "place", v])) z2 (.tup [.str "index", v])) z3 (.tup [.str "index", .int (-1)])) z4 (.lst [.ref z1, .ref z2, .ref z3])) z1 = some (.tup [.str "place", v]) := same_new k4 _ _ (same_new k3 _ _ (same_new k2 _ _ upd_same))
    have f2 : (upd (upd (upd (upd H23 z1 (.tup [.str "place", v])) z2 (.tup [.str "index", v])) z3 (.tup [.str "index", .int (-1)])) z4 (.lst [.ref z1, .ref z2, .ref z3])) z2 = some (.tup [.str "index", v]) := same_new k4 _ _ (same_new k3 _ _ upd_same)
    have f3 : (upd (upd (upd (upd H23 z1 (.tup [.str "place", v])) z2 (.tup [.str "index", v])) z3 (.tup [.str "index", .int (-1)])) z4 (.lst [.ref z1, .ref z2, .ref z3])) z3 = some (.tup [.str "index", .int (-1)]) := same_new k4 _ _ upd_same
    have f4 : (upd (upd (upd (upd H23 z1 (.tup [.str "place", v])) z2 (.tup [.str "index", v])) z3 (.tup [.str "index", .int (-1)])) z4 (.lst [.ref z1, .ref z2, .ref z3])) z4 = some (.lst [.ref z1, .ref z2, .ref z3]) := upd_same
    generalize (upd (upd (upd (upd H23 z1 (.tup [.str "place", v])) z2 (.tup [.str "index", v])) z3 (.tup [.str "index", .int (-1)])) z4 (.lst [.ref z1, .ref z2, .ref z3])) = H27 at S27 f1 f2 f3 f4
    have two : ∀ (x : Str) (u : V), (flatV u = true ∨ ∃ a, u = .ref a) → Prs DSelf [.str x, u] [.str x, u] H27 := fun x u hu => Prs.self fun y hy => by
      simp only [List.mem_cons, List.mem_nil_iff, or_false] at hy
      rcases hy with rfl | rfl
      · exact .inl rfl
      · exact hu
    refine ⟨⟨lh, z4, _, _, rfl, rfl, S27 _ _ gl, f4, .cons ⟨ga, z1, _, _, rfl, rfl, SqT.of (S27 _ _ e1), SqT.of f1, two _ _ vf⟩ (.cons ⟨gb, z2, _, _, rfl, rfl, SqT.of (S27 _ _ e2), SqT.of f2, two _ _ vf⟩ (.cons ⟨gc, z3, _, _, rfl, rfl, SqT.of (S27 _ _ e3), SqT.of f3, two _ _ (.inl rfl)⟩ .nil))⟩, fun H28 s28 => ?_⟩
    have Z : LamX.ExtN H19 H28 := Y23.trans (ext_same (S27.trans s28))
    exact k H28 (((q19.ext Z).le (by omega)).pen) (K19.trans (Kp.ext (g3.t.ext (S27.trans s28)) Z))
end
end My
set_option exponentiation.threshold 5000
/-! Terms without zeros at the end; values by Horner's way. -/
namespace My
theorem tl_app (ts us : List Int) : ∀ k, k ≤ ts.length → tl (ts ++ us) k = tl ts k
  | 0, _ => rfl
  | k + 1, h => by
    unfold tl
    rw [List.getElem?_append_left (by omega), tl_app ts us k (by omega)]
theorem trim_zeros (ts : List Int) : trim (ts ++ [0, 0]) = trim ts := by
  unfold trim
  have e : tl (ts ++ [0, 0]) (ts ++ [0, 0]).length = tl ts ts.length := by
    rw [List.length_append]
    show tl (ts ++ [0, 0]) (ts.length + 1 + 1) = _
    have h1 : (ts ++ [0, 0])[ts.length + 1]? = some 0 := by
      rw [List.getElem?_append_right (by omega)]
      simp
    have h2 : (ts ++ [0, 0])[ts.length]? = some 0 := by
      rw [List.getElem?_append_right (by omega)]
      simp
    rw [tl, if_pos h1, tl, if_pos h2, tl_app ts _ _ (Nat.le_refl _)]
  rw [e, List.take_append_of_le_length (tl_le ts _)]
theorem trim_one (ts : List Int) : trim (ts ++ [1]) = ts ++ [1] := by
  unfold trim
  have e : tl (ts ++ [1]) (ts ++ [1]).length = (ts ++ [1]).length := by
    rw [List.length_append]
    show tl (ts ++ [1]) (ts.length + 1) = ts.length + 1
    have h1 : (ts ++ [1])[ts.length]? = some 1 := by
      rw [List.getElem?_append_right (by omega)]
      simp
    rw [tl, if_neg (by rw [h1]; intro z; cases z)]
  rw [e, List.take_length]
theorem tl_last (ts : List Int) : ∀ k j, tl ts k = j + 1 → ts[j]? ≠ some 0
  | 0, j, h => by cases h
  | k + 1, j, h => by
    unfold tl at h
    split at h
    · exact tl_last ts k j h
    · rename_i c
      have e : k = j := by omega
      rw [← e]
      exact c
theorem trim_trim (ts : List Int) : trim (trim ts) = trim ts := by
  have hl := trim_len ts
  have key : tl (trim ts) (trim ts).length = (trim ts).length := by
    cases n : (trim ts).length with
    | zero => rfl
    | succ j =>
      have h1 : tl ts ts.length = j + 1 := by rw [← hl, n]
      have h2 := tl_last ts _ j h1
      have h3 : (trim ts)[j]? = ts[j]? := by
        unfold trim
        rw [List.getElem?_take, if_pos (by omega)]
      rw [tl, if_neg (by rw [h3]; exact h2)]
  show (trim ts).take (tl (trim ts) (trim ts).length) = trim ts
  rw [key, List.take_length]
theorem trim_ne_one (ts : List Int) : trim ts ≠ ts ++ [1] := fun z => by
  have h := trim_le ts
  rw [z, List.length_append] at h
  have e : ([1] : List Int).length = 1 := rfl
  omega
theorem evl_snoc (l : List Int) (m : Int) : evl (l ++ [0]) m = evl l m := by
  unfold evl
  rw [List.reverse_append]
  show List.foldl _ (0 * m + 0) l.reverse = _
  rw [Int.zero_mul, Int.add_zero]
theorem evl_tl (ts : List Int) (m : Int) : ∀ k, k ≤ ts.length → evl (ts.take (tl ts k)) m = evl (ts.take k) m
  | 0, _ => rfl
  | k + 1, h => by
    unfold tl
    split
    · rename_i c
      rw [evl_tl ts m k (by omega), List.take_add_one, c]
      exact (evl_snoc _ _).symm
    · rfl
theorem evl_trim (ts : List Int) (m : Int) : evl (trim ts) m = evl ts m := by
  unfold trim
  rw [evl_tl ts m _ (Nat.le_refl _), List.take_length]
theorem trim_mem {ts : List Int} {z : Int} (h : z ∈ trim ts) : z ∈ ts := List.mem_of_mem_take h
theorem horner_bd {m : Int} (hm : m.natAbs < 2 ^ 41) : ∀ (l : List Int) (a : Int) (B : Nat), 140 ≤ B → a.natAbs < 2 ^ B → (∀ z ∈ l, z.natAbs < 2 ^ 140) → (l.foldl (fun f t => f * m + t) a).natAbs < 2 ^ (B + 42 * l.length)
  | [], a, B, _, ha, _ => ha
  | z :: l, a, B, hB, ha, hl => by
    have h1 : (a * m).natAbs < 2 ^ (B + 41) := by
      rw [Int.natAbs_mul, Nat.pow_add]
      exact Nat.mul_lt_mul_of_lt_of_lt ha hm
    have h2 : z.natAbs < 2 ^ (B + 41) := Nat.lt_of_lt_of_le (hl z List.mem_cons_self) (Nat.pow_le_pow_right (by decide) (by omega))
    have h3 : (a * m + z).natAbs < 2 ^ (B + 42) := by
      have := Int.natAbs_add_le (a * m) z
      have e : (2 : Nat) ^ (B + 42) = 2 ^ (B + 41) * 2 := Nat.pow_succ ..
      omega
    have h4 := horner_bd hm l (a * m + z) (B + 42) (by omega) h3 fun x hx => hl x (List.mem_cons_of_mem _ hx)
    have e : B + 42 * (z :: l).length = B + 42 + 42 * l.length := by
      rw [List.length_cons]
      omega
    rw [e]
    exact h4
theorem take_bd {m : Int} {ts : List Int} (hm : m.natAbs < 2 ^ 41) (hl : ts.length ≤ 12) (ht : ∀ z ∈ ts, z.natAbs < 2 ^ 140) (k : Nat) : ((ts.reverse.take k).foldl (fun f t => f * m + t) 0).natAbs < 2 ^ 700 := by
  refine Nat.lt_of_lt_of_le (horner_bd hm (ts.reverse.take k) 0 140 (by decide) (by decide) fun z hz => ht z (List.mem_reverse.mp (List.mem_of_mem_take hz))) (Nat.pow_le_pow_right (by decide) ?_)
  have : (ts.reverse.take k).length ≤ ts.length := by
    rw [List.length_take, List.length_reverse]
    omega
  omega
theorem evl_bd {m : Int} {ts : List Int} (hm : m.natAbs < 2 ^ 41) (hl : ts.length ≤ 12) (ht : ∀ z ∈ ts, z.natAbs < 2 ^ 140) : (evl ts m).natAbs < 2 ^ 700 := by
  have h := take_bd hm hl ht ts.length
  rw [List.take_of_length_le (by rw [List.length_reverse]; exact Nat.le_refl _)] at h
  exact h
end My
namespace My
open PySem PySem.Spec PyProof.Rows L2
theorem int_show {K : PySem.W.Frag} {H : Hp} {i : Int} (h : i.natAbs.log2 < 1920) : Dr K H (.int i) (.int i) ∧ (PyData.int i).showable = true ∧ (PyData.int i).depth ≤ 60 ∧ (PyData.int i).shown.length ≤ sizeLine := by
  refine ⟨.inl (.int i), ?_, Nat.zero_le _, ?_⟩
  · show decide (i.natAbs.log2 < 1920) = true
    exact decide_eq_true h
  · have := num_len h
    show ((toString i : String) : Str).length ≤ sizeLine
    rw [sizeLine_eq]
    omega
theorem shaped_tupI (ns : List Int) : SeqAt.shaped (.tuple (ns.map PyData.int)) = true := by
  show (PyData.canLayAll0 (ns.map PyData.int) && decide (PyData.depthAll (ns.map PyData.int) + 1 ≤ 64)) = true
  rw [lay_ints, dep_ints]
  rfl
theorem bl_len (b : Bool) : (PyData.bool b).shown.length ≤ 5 := by cases b <;> decide +kernel
theorem dep_2 (us ts : List Int) (n : Int) (b : Bool) : PyData.depthAll [PyData.tuple (us.map PyData.int), .int n, .bool b, .list (ts.map PyData.int)] ≤ 10 := by
  show max (PyData.depthAll (us.map PyData.int) + 1) (max 0 (max 0 (max (PyData.depthAll (ts.map PyData.int) + 1) 0))) ≤ 10
  rw [dep_ints, dep_ints]
  decide
/-- [tuple, int, bool, list] shown -/
theorem seen_show {K : PySem.W.Frag} {H : Hp} {l t q : Addr} (us ts : List Int) (n : Int) (b : Bool) (hu : ∀ z ∈ us, z.natAbs.log2 < 1920) (ht : ∀ z ∈ ts, z.natAbs.log2 < 1920) (hn : n.natAbs.log2 < 1920) (lu : us.length ≤ 100) (lt : ts.length ≤ 100) (h : H l = some (.lst [.ref t, .int n, .bl b, .ref q])) (h1 : H t = some (.tup (us.map V.int))) (h2 : H q = some (.lst (ts.map V.int))) :
    Dr K H (.ref l) (.list [.tuple (us.map .int), .int n, .bool b, .list (ts.map .int)]) ∧ (PyData.list [.tuple (us.map .int), .int n, .bool b, .list (ts.map .int)]).showable = true ∧ (PyData.list [.tuple (us.map .int), .int n, .bool b, .list (ts.map .int)]).depth ≤ 60 ∧ (PyData.list [.tuple (us.map .int), .int n, .bool b, .list (ts.map .int)]).shown.length ≤ sizeLine := by
  refine ⟨.inl (.lst (SqL.of h) (.cons (.tup (SqT.of h1) (dp_ints us)) (.cons (.int n) (.cons (.bl b) (.cons (.lst (SqL.of h2) (dp_ints ts)) .nil))))), ?_, ?_, ?_⟩
  · show (PyData.showableAll (us.map PyData.int) && (decide (n.natAbs.log2 < 1920) && (true && (PyData.showableAll (ts.map PyData.int) && true)))) = true
    rw [showable_ints us hu, showable_ints ts ht, decide_eq_true hn]
    rfl
  · have := dep_2 us ts n b
    show _ + 1 ≤ 60
    omega
  · have a1 := tupleText_len_le (PyData.shownAll (us.map PyData.int))
    obtain ⟨a2, a3⟩ := shown_sum us hu
    have b1 := listText_len_le (PyData.shownAll (ts.map PyData.int))
    obtain ⟨b2, b3⟩ := shown_sum ts ht
    have c1 := num_len hn
    have d1 := bl_len b
    have e1 := listText_len_le [(PyData.tuple (us.map PyData.int)).shown, (PyData.int n).shown, (PyData.bool b).shown, (PyData.list (ts.map PyData.int)).shown]
    show (listText [(PyData.tuple (us.map PyData.int)).shown, (PyData.int n).shown, (PyData.bool b).shown, (PyData.list (ts.map PyData.int)).shown]).length ≤ sizeLine
    have e2 : ([(PyData.tuple (us.map PyData.int)).shown, (PyData.int n).shown, (PyData.bool b).shown, (PyData.list (ts.map PyData.int)).shown].map (·.length)).sum = (tupleText (PyData.shownAll (us.map PyData.int))).length + (((toString n : String) : Str).length + ((PyData.bool b).shown.length + ((listText (PyData.shownAll (ts.map PyData.int))).length + 0))) := rfl
    have e3 : [(PyData.tuple (us.map PyData.int)).shown, (PyData.int n).shown, (PyData.bool b).shown, (PyData.list (ts.map PyData.int)).shown].length = 4 := rfl
    rw [e2, e3] at e1
    rw [sizeLine_eq]
    omega
end My
namespace My
open PySem PySem.Spec PyProof.Rows L2
abbrev s_rightR : Stmt := topS 35
theorem sc_rightR : FnScope ["_law_pen_here", "_law_terms_here", "_law_made_here", "_law_kept", "_law_due", "_law_seen", "_law_k", "_law_m", "_law_others", "_law_things", "_law_one", "_law_thing"] ["_law_pen_here", "_law_terms_here"] (defScope s_rightR) := ⟨rfl, rfl, rfl, by decide +kernel, rfl, by decide +kernel, by decide +kernel⟩
def spRightP : Sp := fun vs H Q _ => ∃ (pn l : Addr) (n : Nat) (ts : List Int), vs = [.ref pn, .ref l] ∧ PenAt H pn n ∧ n < 80000 ∧ H l = some (.lst (ts.map V.int)) ∧ l ≠ pn ∧ ts.length ≤ 7 ∧ (∀ z ∈ ts, Tm z) ∧ ∀ H', PenAt H' pn (n + 2) → But pn H H' → Q (.bl true) H'
theorem Tm.log {z : Int} (h : Tm z) : z.natAbs.log2 < 1920 := Nat.lt_of_lt_of_le (PySem.Flt.log2_lt_of (k := 140) (by decide) h.abs) (by decide)
theorem evl_log {m : Int} {ts : List Int} (hm : m.natAbs < 2 ^ 41) (hl : ts.length ≤ 12) (ht : ∀ z ∈ ts, z.natAbs < 2 ^ 140) : (evl ts m).natAbs.log2 < 1920 := Nat.lt_of_lt_of_le (PySem.Flt.log2_lt_of (k := 700) (by decide) (evl_bd hm hl ht)) (by decide)
theorem ite_same {a b : Str} (e : a = b) {A B : Prop} (h : B) : if (!decide (V.str a = V.str b)) = true then A else B := by
  rw [e, decide_eq_true rfl]
  exact h
theorem due_ne (us : List Int) : (!(PyData.tuple (us.map PyData.int)).eqv (.tuple [])) = !us.isEmpty := by cases us <;> rfl
section
variable {P : Program} {w : World} {K : PySem.W.Frag} {mg : Str → Option Value} {base : Heap} {C CB fB CP fP CI fI : Addr}
theorem ok_rightR {f : Addr} {fd : FuncData} (F : Fun K "_law_right" "_law_right" s_rightR f fd) (T : PTx P K mg C CB fB CP fP CI fI) (ne0 : PySem.W.findIn K (.ref C) "__ne__" = some (some (.builtin "object.__ne__")))
    (D_draw : DefAt P w K mg base CX0 1 "_law_draw" ["_law_pen_here", "_law_many"] spDrawC) (D_lcut : DefAt P w K mg base CX0 1 "_law_cut" ["_law_terms_here"] (spCut K)) (D_lvalue : DefAt P w K mg base CX0 1 "_law_value" ["_law_terms_here", "_law_m"] spValue)
    (K_of : ClsAt P w K mg base (L2.CX P w) 5 C "of" (spPof K C CB)) (G_Poly : GetAt P w K mg base (L2.CX P w) 2 C ["self", "k"] (spPget C CI)) (C_Poly : CallAt P w K mg base (L2.CX P w) 3 C ["self", "m"] (spPcall C CP))
    (CE_eq : CmpAt P w K mg base CX0 1 C "__eq__" ["self", "other"] (spPeq C)) (BO_bool : CmpAt P w K mg base CX0 1 C "__bool__" ["self"] (spPbool C)) (ST_str : CmpAt P w K mg base CX0 3 C "__str__" ["self"] (spPstr C)) :
    FnG P w K mg base CX0 7 f fd ["_law_pen_here", "_law_terms_here"] spRightP := by
  refine okG F sc_rightR (fun vs H Q E h => ?_) (fun cdv A outer s H vs Q E hf hgd hr h => ?_)
  · obtain ⟨pn, l, n, ts, rfl, _⟩ := h
    rfl
  · obtain ⟨pn, l, n, ts, rfl, hp, hn, hl, nl, ln, tm, k⟩ := h
    refine ⟨_, (pss_cons (ps_asg (pe_tup (pa_cons (My.pe_cm K_of (hr.mono (by decide)) passL (pe_glob (v := .ref C) (by rfl) T.gP rfl) (pa_cons (pv 1) pa_nil)) (pa_cons (pe_callTy call_list_of (by rfl) T.z_list boot_list (pa_cons (pv 1) pa_nil)) (pa_cons (My.pe_d D_lcut (hr.mono (by decide)) (by rfl) pass0 (pa_cons (pv 1) pa_nil)) pa_nil)))) (pg_tup rfl (pgs_cons (pg_name (i := 2) sc_rightR.nd rfl (Or.inr rfl)) (pgs_cons (pg_name (i := 3) sc_rightR.nd rfl (Or.inl rfl)) (pgs_cons (pg_name (i := 4) sc_rightR.nd rfl (Or.inl rfl)) pgs_nil)))))
      (pss_cons (ps_set (i := 5) sc_rightR.nd rfl (Or.inl rfl) (pe_lst (pa_cons (pe_fld (pv 2) rfl) (pa_cons (pe_fld (pv 2) rfl) (pa_cons (pe_callTy (My.call_boolO BO_bool (hr.mono (by decide)) pass0) (by rfl) T.z_bool boot_bool (pa_cons (pv 2) pa_nil)) (pa_cons (pv 1) pa_nil))))))
      (pss_cons (ps_if (pt_cmpR op_ne (pe_callB (My.call_repr hgd hr) (by rfl) T.z_repr boot_repr (pa_cons (pv 5) pa_nil)) (pe_callB (My.call_repr hgd hr) (by rfl) T.z_repr boot_repr (pa_cons (pe_lst (pa_cons (pv 4) (pa_cons (pe_op op_sub (pe_callB call_len (by rfl) T.z_len PySem.boot_len (pa_cons (pv 4) pa_nil)) pe_int) (pa_cons (pe_cmpR (op_neD hr.units) (pv 4) (pe_tup pa_nil) (nomark _)) (pa_cons (pv 3) pa_nil))))) pa_nil)) (nomark _)) (pss_one (ps_ret pe_bl)) pss_nil)
      (pss_cons (ps_for PassesOwn.never rfl (pi_range1 rfl T.z_range (pa_cons (pe_op op_add (pe_callB call_len (by rfl) T.z_len PySem.boot_len (pa_cons (pv 1) pa_nil)) pe_int) pa_nil)) (pg_name (i := 6) sc_rightR.nd rfl (Or.inl rfl)) (pss_one (ps_if (pt_cmpR op_ne (pe_callB (My.call_repr hgd hr) (by rfl) T.z_repr boot_repr (pa_cons (My.pe_get G_Poly (hr.mono (by decide)) passL (pv 2) (pv 6)) pa_nil)) (pe_callB (My.call_repr hgd hr) (by rfl) T.z_repr boot_repr (pa_cons (pe_ifExp (pt_cmpR op_lt (pv 6) (pe_callB call_len (by rfl) T.z_len PySem.boot_len (pa_cons (pv 4) pa_nil)) (nomark _)) (pe_ix ix_tup (pv 4) (pv 6) (fun _ _ => rfl)) pe_int) pa_nil)) (nomark _)) (pss_one (ps_ret pe_bl)) pss_nil)))
      (pss_cons (ps_for PassesOwn.never rfl (pi_list (pe_lst (pa_cons pe_int (pa_cons pe_int (pa_cons (pe_un un_neg pe_int) (pa_cons pe_int (pa_cons (pe_op op_sub (My.pe_d D_draw (hr.mono (by decide)) (by rfl) pass0 (pa_cons (pv 0) (pa_cons pe_int pa_nil))) pe_int) (pa_cons (pe_op op_sub (pe_op op_pow pe_int pe_int) (My.pe_d D_draw (hr.mono (by decide)) (by rfl) pass0 (pa_cons (pv 0) (pa_cons pe_int pa_nil)))) (pa_cons (pe_op op_sub pe_int (pe_op op_pow pe_int pe_int)) pa_nil))))))))) (pg_name (i := 7) sc_rightR.nd rfl (Or.inl rfl)) (pss_one (ps_if (pt_cmpR op_ne (pe_callB (My.call_repr hgd hr) (by rfl) T.z_repr boot_repr (pa_cons (My.pe_clI C_Poly (hr.mono (by decide)) passL (pv 2) (pa_cons (pv 7) pa_nil)) pa_nil)) (pe_callB (My.call_repr hgd hr) (by rfl) T.z_repr boot_repr (pa_cons (My.pe_d D_lvalue (hr.mono (by decide)) (by rfl) pass0 (pa_cons (pv 1) (pa_cons (pv 7) pa_nil))) pa_nil)) (nomark _)) (pss_one (ps_ret pe_bl)) pss_nil)))
      (pss_cons (ps_set (i := 8) sc_rightR.nd rfl (Or.inl rfl) (pe_lst (pa_cons (My.pe_cm K_of (hr.mono (by decide)) passL (pe_glob (v := .ref C) (by rfl) T.gP rfl) (pa_cons (pe_callTy call_tuple_of (by rfl) T.z_tuple boot_tuple (pa_cons (pv 1) pa_nil)) pa_nil)) (pa_cons (My.pe_cm K_of (hr.mono (by decide)) passL (pe_glob (v := .ref C) (by rfl) T.gP rfl) (pa_cons (pe_op op_cat (pv 1) (pe_lst (pa_cons pe_int (pa_cons pe_int pa_nil)))) pa_nil)) (pa_cons (My.pe_cm K_of (hr.mono (by decide)) passL (pe_glob (v := .ref C) (by rfl) T.gP rfl) (pa_cons (pv 4) pa_nil)) pa_nil)))))
      (pss_cons (ps_set (i := 9) sc_rightR.nd rfl (Or.inl rfl) (pe_lst (pa_cons pe_non (pa_cons pe_int (pa_cons (pv 4) (pa_cons (pe_callTy call_list_of (by rfl) T.z_list boot_list (pa_cons (pv 4) pa_nil)) (pa_cons pe_str (pa_cons (pe_callTy (My.call_strO ST_str (hr.mono (by decide)) pass0) (by rfl) T.z_str boot_str (pa_cons (pv 2) pa_nil)) (pa_cons pe_bl (pa_cons (My.pe_clI C_Poly (hr.mono (by decide)) passL (pv 2) (pa_cons pe_int pa_nil)) pa_nil))))))))))
      (pss_cons (ps_if (pt_cmpR op_ne (pe_callB (My.call_repr hgd hr) (by rfl) T.z_repr boot_repr (pa_cons (pe_lc (own := [("_law_one", 10)]) rfl sc_rightR.nd (pi_list (pv 8)) (blkOk_by (by show blkC ["_law_pen_here", "_law_terms_here", "_law_made_here", "_law_kept", "_law_due", "_law_seen", "_law_k", "_law_m", "_law_others", "_law_things", "_law_one", "_law_thing"] (defScope s_rightR) _ _ = true; decide +kernel)) (fun _ _ _ _ _ => (pg_name (i := 10) sc_rightR.nd rfl (Or.inl rfl))) (fun _ _ _ _ _ => pts_nil) (fun _ _ _ _ _ => (pe_cmpR (My.op_cmpB (K := K) (op := .Eq) (k := 1) (C := C) (sp := spPeq C) (CX := CX0) rfl CE_eq (hr.mono (by decide)) pass0) (pv 2) (pv 10) (nomark _)))) pa_nil)) (pe_callB (My.call_repr hgd hr) (by rfl) T.z_repr boot_repr (pa_cons (pe_op op_rep (pe_lst (pa_cons pe_bl pa_nil)) pe_int) pa_nil)) (nomark _)) (pss_one (ps_ret pe_bl)) pss_nil)
      (pss_one (ps_ret (pe_and (pe_cmpR op_eq (pe_callB (My.call_repr hgd hr) (by rfl) T.z_repr boot_repr (pa_cons (pe_lc (own := [("_law_thing", 11)]) rfl sc_rightR.nd (pi_list (pv 9)) (blkOk_by (by show blkC ["_law_pen_here", "_law_terms_here", "_law_made_here", "_law_kept", "_law_due", "_law_seen", "_law_k", "_law_m", "_law_others", "_law_things", "_law_one", "_law_thing"] (defScope s_rightR) _ _ = true; decide +kernel)) (fun _ _ _ _ _ => (pg_name (i := 11) sc_rightR.nd rfl (Or.inl rfl))) (fun _ _ _ _ _ => pts_nil) (fun _ _ _ _ _ => (pe_cmpR (My.op_cmpB (K := K) (op := .Eq) (k := 1) (C := C) (sp := spPeq C) (CX := CX0) rfl CE_eq (hr.mono (by decide)) pass0) (pv 2) (pv 11) (nomark _)))) pa_nil)) (pe_callB (My.call_repr hgd hr) (by rfl) T.z_repr boot_repr (pa_cons (pe_op op_rep (pe_lst (pa_cons pe_bl pa_nil)) (pe_callB call_len (by rfl) T.z_len PySem.boot_len (pa_cons (pv 9) pa_nil))) pa_nil)) (nomark _)) (pe_one (pe_cmpR (My.op_neO CE_eq T.hm ne0 (hr.mono (by decide)) pass0) (pv 2) (My.pe_cm K_of (hr.mono (by decide)) passL (pe_glob (v := .ref C) (by rfl) T.gP rfl) (pa_cons (pe_op op_cat (pv 1) (pe_lst (pa_cons pe_int pa_nil))) pa_nil)) (nomark _)))))))))))))), ?_⟩
    have el : (ts.map V.int).length = ts.length := List.length_map ..
    have tyI : ∀ (Hz : Hp) (us : List Int), ∀ v ∈ us.map V.int, TyL C Hz v := fun Hz us v hv => by
      obtain ⟨z, rfl, _⟩ := mem_ints hv
      exact TyL.int C Hz z
    have noI : ∀ (us : List Int) (i : Nat) (v : V), (us.map V.int)[i]? = some v → isI v = false → False := fun us i v hi hv => by
      obtain ⟨y, _, rfl⟩ := at_int hi
      cases hv
    have abs : ∀ z ∈ ts, z.natAbs < 2 ^ 140 := fun z hz => (tm z hz).abs
    have log : ∀ z ∈ ts, z.natAbs.log2 < 1920 := fun z hz => (tm z hz).log
    have tln := trim_le ts
    have tlog : ∀ z ∈ trim ts, z.natAbs.log2 < 1920 := fun z hz => log z (trim_mem hz)
    have inj : ∀ {us zs : List Int}, us.map V.int = zs.map V.int → us = zs := fun e => (List.map_inj_right fun a b z => V.int.inj z).mp e
    refine ⟨rfl, _, rfl, l, ts.map V.int, rfl, .inr (SqL.of hl), by omega, tyI _ _, fun zs ez p H1 P1 s1 => ?_, fun i v h1 h2 _ => (noI ts i v h1 h2).elim⟩
    rw [← inj ez] at P1
    refine ⟨_, rfl, l, _, rfl, .inl (SqL.of (s1 _ _ hl)), fun lk hk => ?_⟩
    refine ⟨_, rfl, l, ts, rfl, same_new hk _ _ (s1 _ _ hl), by omega, fun du H2 hdu s2 => ⟨(by show 3 ≤ sizeLine; decide), fun t3 h3 => ?_⟩⟩
    refine ⟨t3, _, rfl, SqT.of upd_same, rfl, _, _, rfl, _, _, rfl, _, _, rfl, rfl, ?_⟩
    have S3 : Same H1 (upd H2 t3 (.tup [.ref p, .ref lk, .ref du])) := ((same_new hk).trans s2).trans (same_new h3)
    have K3 : (upd H2 t3 (.tup [.ref p, .ref lk, .ref du])) lk = some (.lst (ts.map V.int)) := same_new h3 _ _ (s2 _ _ upd_same)
    have D3 := same_new (o := .tup [.ref p, .ref lk, .ref du]) h3 _ _ hdu
    have P3 := P1.same S3
    have L3 := S3 _ _ (s1 _ _ hl)
    have B3 : Same H (upd H2 t3 (.tup [.ref p, .ref lk, .ref du])) := s1.trans S3
    generalize (upd H2 t3 (.tup [.ref p, .ref lk, .ref du])) = H3 at S3 K3 D3 P3 L3 B3
    clear s1 S3 P1
    obtain ⟨dx, tt, ep, et⟩ := id P3
    refine ⟨_, rfl, p, C, dx, _, .ref tt, rfl, ep, T.cl, T.nT, pfs_terms _ _, _, rfl, p, C, dx, _, .int (((trim ts).length : Int) - 1), rfl, ep, T.cl, T.nD, pfs_deg _ _, _, rfl, p, dx, _, rfl, ep, p, trim ts, rfl, P3, _, rfl, ?_⟩
    refine ⟨_, rfl, (by show 4 ≤ sizeLine; decide), fun l4 h4 => ?_⟩
    have dl : (((trim ts).length : Int) - 1).natAbs.log2 < 1920 := Nat.lt_of_lt_of_le (PySem.Flt.log2_lt_of (k := 10) (by decide) (by show _ < 1024; omega)) (by decide)
    obtain ⟨i1, i2, i3, i4⟩ := seen_show (K := K) (trim ts) ts (((trim ts).length : Int) - 1) (!(trim ts).isEmpty) tlog log dl (by omega) (by omega) (upd_same (H := H3) (a := l4)) (same_new h4 _ _ et) (same_new h4 _ _ L3)
    refine ⟨_, rfl, _, _, rfl, i1, i2, i3, i4, ?_⟩
    have S4 := same_new (o := .lst [.ref tt, .int (((trim ts).length : Int) - 1), .bl (!(trim ts).isEmpty), .ref l]) h4
    have D4 := S4 _ _ D3
    have lenD : (((trim ts).map V.int).length : Nat) = (trim ts).length := List.length_map ..
    refine ⟨_, rfl, _, rfl, _, (trim ts).length, rfl, .inr ⟨_, SqT.of D4, lenD.symm⟩, _, _, rfl, rfl, _, rfl, (by show 0 ≤ sizeLine; decide), fun t5 h5 => ?_⟩
    have S5 := same_new (o := .tup []) h5
    refine ⟨.tuple ((trim ts).map PyData.int), .tuple [], .tup (SqT.of (S5 _ _ D4)) (dp_ints _), .tup (SqT.of upd_same) .nil, shaped_tupI _, rfl, _, rfl, (by show 4 ≤ sizeLine; decide), fun l6 h6 => ?_⟩
    rw [due_ne]
    have S6 := same_new (o := .lst [.ref du, .int (((trim ts).length : Int) - 1), .bl (!(trim ts).isEmpty), .ref lk]) h6
    obtain ⟨i1, i2, i3, i4⟩ := seen_show (K := K) (trim ts) ts (((trim ts).length : Int) - 1) (!(trim ts).isEmpty) tlog log dl (by omega) (by omega) (upd_same (a := l6)) (S6 _ _ (S5 _ _ D4)) (S6 _ _ (S5 _ _ (S4 _ _ K3)))
    refine ⟨_, _, rfl, i1, i2, i3, i4, rfl, _, rfl, ite_same rfl ?_⟩
    clear i1 i2 i3 i4
    have SA := (S4.trans S5).trans S6
    generalize (upd (upd (upd H3 l4 (.lst [.ref tt, .int (((trim ts).length : Int) - 1), .bl (!(trim ts).isEmpty), .ref l])) t5 (.tup [])) l6 (.lst [.ref du, .int (((trim ts).length : Int) - 1), .bl (!(trim ts).isEmpty), .ref lk])) = H6 at SA
    have P6 := P3.same SA
    have D6 := SA _ _ D3
    have L6 := SA _ _ L3
    have B6 := B3.trans SA
    have ep6 := SA _ _ ep
    clear S4 S5 S6 D4 SA
    -- each term
    refine ⟨_, rfl, _, ts.length, rfl, .inl ⟨_, SqL.of L6, el.symm⟩, _, _, rfl, rfl, _, rfl, by omega, by omega, for_range (fun i σ H' => ∃ v6, σ = [some (.ref pn), some (.ref l), some (.ref p), some (.ref lk), some (.ref du), some (.ref l4), v6, none, none, none, none, none] ∧ H' = H6) ⟨none, rfl, rfl⟩ ?_ ?_⟩
    · rintro i σ H' hi ⟨v6, rfl, rfl⟩
      refine ⟨_, rfl, _, rfl, p, dx, _, rfl, ep6, p, trim ts, _, rfl, P6, TyL.int C _ _, fun k' ek k0 => ?_, fun z => ?_⟩
      case refine_2 =>
        rcases z with z | ⟨k', ek, z⟩
        · cases z
        · cases ek
          omega
      have e0 : k' = ((i : Nat) : Int) := by
        cases ek
        omega
      subst e0
      obtain ⟨y, hy⟩ : ∃ y, y = ((trim ts)[(((i : Nat) : Int)).toNat]?).getD 0 := ⟨_, rfl⟩
      rw [← hy]
      have yt : y.natAbs.log2 < 1920 := by
        rw [hy]
        cases e : (trim ts)[(((i : Nat) : Int)).toNat]? with
        | none => decide
        | some z => exact tlog z (List.mem_of_getElem? e)
      obtain ⟨i1, i2, i3, i4⟩ := int_show (K := K) (H := H') yt
      refine ⟨_, _, rfl, i1, i2, i3, i4, ?_⟩
      refine ⟨_, rfl, _, rfl, _, (trim ts).length, rfl, .inr ⟨_, SqT.of D6, lenD.symm⟩, _, _, rfl, rfl, _, rfl, ?_⟩
      rw [Int.toNat_natCast] at hy
      refine ite2 (fun c => ?_) (fun c => ?_)
      · have lt : i < (trim ts).length := by
          have := of_decide_eq_true c
          omega
        have ey : (trim ts)[i]? = some y := by
          rw [List.getElem?_eq_getElem lt] at hy ⊢
          rw [hy]
          rfl
        have ea : atI ((trim ts).map V.int) (0 + ((i : Nat) : Int)) = some (.int y) := at_of (j := i) (by omega) (by rw [List.getElem?_map, ey]; rfl)
        exact ⟨_, rfl, _, rfl, du, _, _, .int y, rfl, rfl, SqT.of D6, ea, _, _, rfl, i1, i2, i3, i4, rfl, _, rfl, ite_same rfl ⟨_, rfl, rfl⟩⟩
      · have ge : ¬ i < (trim ts).length := fun z => c (decide_eq_true (by omega))
        have y0 : y = 0 := by
          rw [List.getElem?_eq_none (by omega)] at hy
          exact hy
        subst y0
        exact ⟨_, _, rfl, i1, i2, i3, i4, rfl, _, rfl, ite_same rfl ⟨_, rfl, rfl⟩⟩
    rintro σ H' ⟨v6, rfl, rfl⟩
    -- each place
    have p6 := pen_same hp B6
    obtain ⟨cl, q6⟩ := p6.cells
    refine ⟨_, rfl, _, rfl, pn, cl, 100, n, rfl, by decide, by decide, q6, by omega, fun d1 H7 a1 b1 q7 u7 => ⟨_, _, rfl, rfl, ?_⟩⟩
    refine ⟨_, _, rfl, rfl, ⟨by decide, by decide, by decide⟩, _, rfl, pn, cl, 9, n + 1, rfl, by decide, by decide, q7, by omega, fun d2 H8 a2 b2 q8 u8 => ⟨_, _, rfl, rfl, ?_⟩⟩
    refine ⟨_, _, rfl, rfl, ⟨by decide, by decide, by decide⟩, _, _, rfl, rfl, (by show 7 ≤ sizeLine; decide), fun l9 h9 => ?_⟩
    have U9 := (u7.trans u8).trans (But.new (pn := pn) (o := .lst ([0, 1, -1, 2, d1 - 50, 10 ^ Int.toNat 12 - d2, 0 - 10 ^ Int.toNat 9].map V.int)) h9)
    have p9 : PenAt (upd H8 l9 (.lst ([0, 1, -1, 2, d1 - 50, 10 ^ Int.toNat 12 - d2, 0 - 10 ^ Int.toNat 9].map V.int))) pn (n + 2) := pen_new q8.pen h9
    have P9 := P6.but p6 U9
    have L9 := U9 _ _ L6 nl
    have D9 : _ = some (HO.tup _) := U9 _ _ D6 (by
      obtain ⟨cl', ns', a', r', g1, _⟩ := p6
      exact ne_of D6 g1 (by intro z; cases z))
    have M9 : (upd H8 l9 (.lst ([0, 1, -1, 2, d1 - 50, 10 ^ Int.toNat 12 - d2, 0 - 10 ^ Int.toNat 9].map V.int))) l9 = some (.lst ([0, 1, -1, 2, d1 - 50, 10 ^ Int.toNat 12 - d2, 0 - 10 ^ Int.toNat 9].map V.int)) := upd_same
    have ms : ∀ m ∈ [0, 1, -1, 2, d1 - 50, 10 ^ Int.toNat 12 - d2, 0 - 10 ^ Int.toNat 9], m.natAbs < 2 ^ 41 := fun m hm => by
      have e1 : (10 : Int) ^ Int.toNat 12 = 1000000000000 := by decide
      have e2 : (10 : Int) ^ Int.toNat 9 = 1000000000 := by decide
      have e3 : (2 : Nat) ^ 41 = 2199023255552 := by decide
      rw [e1, e2] at hm
      simp only [List.mem_cons, List.mem_nil_iff, or_false] at hm
      rw [e3]
      rcases hm with e | e | e | e | e | e | e <;> omega
    have B9 : But pn H _ := (but_same B6).trans U9
    have at0 : ∀ {us : List Int} {m : Int}, us.length ≤ 12 → (∀ z ∈ us, z.natAbs < 2 ^ 140) → m.natAbs < 2 ^ 41 → ∀ k, k ≤ us.length → CMulW ((us.reverse.take k).foldl (fun f t => f * m + t) 0) m := fun h1 h2 h3 k _ => Sm.mul (take_bd h3 h1 h2 k) h3
    have tab : ∀ z ∈ trim ts, z.natAbs < 2 ^ 140 := fun z hz => abs z (trim_mem hz)
    refine ⟨l9, rfl, ⟨_, SqL.of upd_same⟩, for_list (K := K) (a := l9) (xs := [0, 1, -1, 2, d1 - 50, 10 ^ Int.toNat 12 - d2, 0 - 10 ^ Int.toNat 9].map V.int) (fun i σ H' => (∃ v7, σ = [some (.ref pn), some (.ref l), some (.ref p), some (.ref lk), some (.ref du), some (.ref l4), v6, v7, none, none, none, none]) ∧ PenAt H' pn (n + 2) ∧ PolyAt C H' p (trim ts) ∧ H' l = some (.lst (ts.map V.int)) ∧ H' du = some (.tup ((trim ts).map V.int)) ∧ H' l9 = some (.lst ([0, 1, -1, 2, d1 - 50, 10 ^ Int.toNat 12 - d2, 0 - 10 ^ Int.toNat 9].map V.int)) ∧ But pn H H') ⟨⟨none, rfl⟩, p9, P9, L9, D9, M9, B9⟩ (fun i σ H' _ hh => SqL.of hh.2.2.2.2.2.1) ?_ ?_⟩
    · rintro i x σ Ha hi ⟨⟨v7, rfl⟩, pa, Pa, La, Da, Ma, Ba⟩
      obtain ⟨m, hm, rfl⟩ := at_int hi
      have mm := ms m (List.mem_of_getElem? hm)
      obtain ⟨dxa, tta, epa, _⟩ := id Pa
      refine ⟨_, rfl, p, rfl, _, rfl, ⟨dxa, _, epa⟩, p, trim ts, .int m, rfl, Pa, by omega, TyL.int C _ _, fun m' em => ⟨?_, fun Hb sb => ?_⟩, fun z => Bool.noConfusion z⟩
      · cases em
        exact at0 (by omega) tab mm
      cases em
      rw [evl_trim]
      have vl := evl_log mm (by omega) abs
      obtain ⟨i1, i2, i3, i4⟩ := int_show (K := K) (H := Hb) vl
      refine ⟨_, _, rfl, i1, i2, i3, i4, ?_⟩
      refine ⟨_, rfl, _, rfl, l, ts, m, rfl, sb _ _ La, by omega, at0 (by omega) abs mm, fun Hc sc => ?_⟩
      obtain ⟨i1, i2, i3, i4⟩ := int_show (K := K) (H := Hc) vl
      have s' := sb.trans sc
      exact ⟨_, _, rfl, i1, i2, i3, i4, rfl, _, rfl, ite_same rfl ⟨⟨_, rfl⟩, pen_same pa s', Pa.same s', s' _ _ La, s' _ _ Da, s' _ _ Ma, Ba.trans (but_same s')⟩⟩
    rintro σ Ha ⟨⟨v7, rfl⟩, pa, Pa, La, Da, _, Ba⟩
    clear P9 L9 D9 M9 B9 p9 U9
    -- the others
    refine ⟨rfl, _, rfl, l, _, rfl, .inl ⟨SqL.of La, fun tp htp => ?_⟩⟩
    refine ⟨tp, ts.map V.int, rfl, .inl (SqT.of upd_same), by omega, tyI _ _, fun zs ez o1 Hb O1 sb => ?_, fun i v h1 h2 _ => (noI ts i v h1 h2).elim⟩
    rw [← inj ez] at O1
    have Sb := (same_new htp).trans sb
    refine ⟨rfl, _, rfl, (by show 2 ≤ sizeLine; decide), fun l0 hl0 => ⟨l, l0, _, _, rfl, rfl, same_new hl0 _ _ (Sb _ _ La), upd_same, ?_, fun lz hlz => ?_⟩⟩
    · rw [el, sizeLine_eq]
      show ts.length + 2 ≤ _
      omega
    have ez2 : ts.map V.int ++ [.int 0, .int 0] = (ts ++ [0, 0]).map V.int := by
      rw [List.map_append]
      rfl
    rw [ez2]
    refine ⟨lz, (ts ++ [0, 0]).map V.int, rfl, .inr (SqL.of upd_same), ?_, tyI _ _, fun zs ez o2 Hc O2 sc => ?_, fun i v h1 h2 _ => (noI _ i v h1 h2).elim⟩
    · rw [List.length_map, List.length_append]
      show ts.length + 2 ≤ _
      omega
    rw [← inj ez, trim_zeros] at O2
    have Sc := ((Sb.trans (same_new hl0)).trans (same_new hlz)).trans sc
    refine ⟨rfl, _, rfl, du, (trim ts).map V.int, rfl, .inl (SqT.of (Sc _ _ Da)), by omega, tyI _ _, fun zs ez o3 Hd O3 sd => ?_, fun i v h1 h2 _ => (noI _ i v h1 h2).elim⟩
    rw [← inj ez, trim_trim] at O3
    refine ⟨(by show 3 ≤ sizeLine; decide), fun l10 h10 => ?_⟩
    have Se := (Sc.trans sd).trans (same_new (o := .lst [.ref o1, .ref o2, .ref o3]) h10)
    have Oall : ∀ v ∈ [V.ref o1, .ref o2, .ref o3], ∃ q, v = .ref q ∧ PolyAt C (upd Hd l10 (.lst [.ref o1, .ref o2, .ref o3])) q (trim ts) := fun v hv => by
      simp only [List.mem_cons, List.mem_nil_iff, or_false] at hv
      rcases hv with rfl | rfl | rfl
      · exact ⟨_, rfl, ((O1.same (((same_new hl0).trans (same_new hlz)).trans sc)).same sd).same (same_new h10)⟩
      · exact ⟨_, rfl, (O2.same sd).same (same_new h10)⟩
      · exact ⟨_, rfl, O3.same (same_new h10)⟩
    have L10 : (upd Hd l10 (.lst [.ref o1, .ref o2, .ref o3])) l10 = some (.lst [.ref o1, .ref o2, .ref o3]) := upd_same
    generalize (upd Hd l10 (.lst [.ref o1, .ref o2, .ref o3])) = He at Se Oall L10
    have Pe := Pa.same Se
    have De := Se _ _ Da
    have Le := Se _ _ La
    have pe := pen_same pa Se
    have Be := Ba.trans (but_same Se)
    clear Se Sc Sb sd O1 O2 O3
    obtain ⟨dxe, tte, epe, _⟩ := id Pe
    -- the things
    refine ⟨_, rfl, _, rfl, du, _, rfl, .inr (SqT.of De), fun ld hld => ?_⟩
    have S1 := same_new (o := .lst ((trim ts).map V.int)) hld
    refine ⟨_, rfl, p, dxe, _, rfl, S1 _ _ epe, p, trim ts, rfl, Pe.same S1, by omega, tlog, fun z => ⟨z, rfl, ?_⟩⟩
    refine ⟨_, rfl, p, rfl, ⟨dxe, _, S1 _ _ epe⟩, p, trim ts, .int 0, rfl, Pe.same S1, by omega, TyL.int C _ _, fun m' em => ⟨?_, fun Hf sf => ?_⟩, fun z => Bool.noConfusion z⟩
    · cases em
      exact at0 (by omega) tab (by decide)
    cases em
    refine ⟨(by show 8 ≤ sizeLine; decide), fun l11 h11 => ?_⟩
    obtain ⟨xv, hxv⟩ : ∃ xv, xv = evl (trim ts) 0 := ⟨_, rfl⟩
    rw [← hxv]
    have S2 := (S1.trans sf).trans (same_new (o := .lst [.non, .int 0, .ref du, .ref ld, .str "0", .str z, .bl true, .int xv]) h11)
    have T11 : (upd Hf l11 (.lst [.non, .int 0, .ref du, .ref ld, .str "0", .str z, .bl true, .int xv])) l11 = some (.lst [.non, .int 0, .ref du, .ref ld, .str "0", .str z, .bl true, .int xv]) := upd_same
    have T12 : (upd Hf l11 (.lst [.non, .int 0, .ref du, .ref ld, .str "0", .str z, .bl true, .int xv])) ld = some (.lst ((trim ts).map V.int)) := same_new h11 _ _ (sf _ _ upd_same)
    generalize (upd Hf l11 (.lst [.non, .int 0, .ref du, .ref ld, .str "0", .str z, .bl true, .int xv])) = Hg at S2 T11 T12
    have odd : ∀ v ∈ [V.non, .int 0, .ref du, .ref ld, .str "0", .str z, .bl true, .int xv], ∃ ty, Ty0 Hg v ty := fun v hv => by
      simp only [List.mem_cons, List.mem_nil_iff, or_false] at hv
      rcases hv with rfl | rfl | rfl | rfl | rfl | rfl | rfl | rfl
      · exact ⟨_, .non⟩
      · exact ⟨_, .int _⟩
      · exact ⟨_, .tup (S2 _ _ De)⟩
      · exact ⟨_, .lst T12⟩
      · exact ⟨_, .str _⟩
      · exact ⟨_, .str _⟩
      · exact ⟨_, .bl _⟩
      · exact ⟨_, .int _⟩
    have tt : decide (trim ts = trim ts) = true := decide_eq_true rfl
    -- equal to the others
    refine ⟨_, rfl, l10, rfl, ⟨_, SqL.of (S2 _ _ L10)⟩, fun D2 hD2 => ?_⟩
    refine lc_list (K := K) (a := l10) (xs := [.ref o1, .ref o2, .ref o3]) (fun i Hh => Hh D2 = some (.lst ((List.replicate i true).map V.bl)) ∧ Same Hg Hh) ⟨upd_same, same_new hD2⟩ (fun i Hh _ hh => SqL.of (hh.2 _ _ (S2 _ _ L10))) ?_ ?_
    · rintro i v Hh hi ⟨c1, c2⟩
      obtain ⟨q, rfl, hq⟩ := Oall v (List.mem_of_getElem? hi)
      have i4 : i < 3 := (List.getElem?_eq_some_iff.mp hi).1
      have S' := S2.trans c2
      refine ⟨rfl, yes_go ⟨_, rfl, _, rfl, p, dxe, _, _, rfl, S' _ _ epe, T.ty (hq.same S'), T.sf, p, _, _, rfl, Pe.same S', by omega, .inl ⟨q, trim ts, rfl, hq.same S', by omega, ?_⟩⟩⟩
      rw [tt]
      refine ⟨_, c1, ?_, ?_, ?_⟩
      · rw [List.length_map, List.length_replicate, sizeLine_eq]
        omega
      · rw [List.replicate_succ', List.map_append]
        exact upd_same
      · intro b' o e
        rw [upd_ne (ne_of_none e hD2)]
        exact c2 _ _ e
    rintro H13 ⟨c1, c2⟩
    have S13 := S2.trans c2
    obtain ⟨i1, i2, i3, i4⟩ := bls_show (K := K) (H := H13) (l := D2) (List.replicate 3 true) (by decide) c1
    refine ⟨_, _, rfl, i1, i2, i3, i4, (by show 1 ≤ sizeLine; decide), fun l14 h14 => ⟨l14, 3, _, rfl, rfl, upd_same, by decide, by decide, (by show 1 * 3 ≤ sizeLine; decide), fun l15 h15 => ?_⟩⟩
    obtain ⟨j1, j2, j3, j4⟩ := bls_show (K := K) (H := upd (upd H13 l14 (.lst [.bl true])) l15 (.lst (List.replicate (Int.toNat 3) [.bl true]).flatten)) (l := l15) (List.replicate 3 true) (by decide) upd_same
    refine ⟨_, _, rfl, j1, j2, j3, j4, rfl, _, rfl, iteNS rfl ?_⟩
    have S15 : Same Hg (upd (upd H13 l14 (.lst [.bl true])) l15 (.lst (List.replicate (Int.toNat 3) [.bl true]).flatten)) := (c2.trans (same_new h14)).trans (same_new h15)
    generalize (upd (upd H13 l14 (.lst [.bl true])) l15 (.lst (List.replicate (Int.toNat 3) [.bl true]).flatten)) = H15 at S15
    -- unlike the things
    refine ⟨_, rfl, l11, rfl, ⟨_, SqL.of (S15 _ _ T11)⟩, fun D4 hD4 => ?_⟩
    refine lc_list (K := K) (a := l11) (xs := [.non, .int 0, .ref du, .ref ld, .str "0", .str z, .bl true, .int xv]) (fun i Hh => Hh D4 = some (.lst ((List.replicate i false).map V.bl)) ∧ Same H15 Hh) ⟨upd_same, same_new hD4⟩ (fun i Hh _ hh => SqL.of (hh.2 _ _ (S15 _ _ T11))) ?_ ?_
    · rintro i v Hh hi ⟨c1, c2⟩
      obtain ⟨ty, hty⟩ := odd v (List.mem_of_getElem? hi)
      have i4 : i < 8 := (List.getElem?_eq_some_iff.mp hi).1
      have S' := (S2.trans S15).trans c2
      have hty' := (hty.same S15).same c2
      refine ⟨rfl, yes_go ⟨_, rfl, _, rfl, p, dxe, _, _, rfl, S' _ _ epe, hty'.tyx, (T.kn _ hty'.mem).2, p, _, _, rfl, Pe.same S', by omega, .inr ⟨⟨ty, hty'⟩, _, c1, ?_, ?_, ?_⟩⟩⟩
      · rw [List.length_map, List.length_replicate, sizeLine_eq]
        omega
      · rw [List.replicate_succ', List.map_append]
        exact upd_same
      · intro b' o e
        rw [upd_ne (ne_of_none e hD4)]
        exact c2 _ _ e
    rintro H38 ⟨c1, c2⟩
    obtain ⟨i1, i2, i3, i4⟩ := bls_show (K := K) (H := H38) (l := D4) (List.replicate 8 false) (by decide) c1
    refine ⟨_, _, rfl, i1, i2, i3, i4, (by show 1 ≤ sizeLine; decide), fun l39 h39 => ⟨_, rfl, _, _, rfl, .inl ⟨_, SqL.of (same_new h39 _ _ (c2 _ _ (S15 _ _ T11))), rfl⟩, l39, 8, _, rfl, rfl, upd_same, by decide, by decide, (by show 1 * 8 ≤ sizeLine; decide), fun l40 h40 => ?_⟩⟩
    obtain ⟨i1, i2, i3, i4⟩ := bls_show (K := K) (H := upd (upd H38 l39 (.lst [.bl false])) l40 (.lst (List.replicate (Int.toNat 8) [.bl false]).flatten)) (l := l40) (List.replicate 8 false) (by decide) upd_same
    refine ⟨_, _, rfl, i1, i2, i3, i4, rfl, ?_⟩
    clear i1 i2 i3 i4
    generalize (PyData.list (List.map PyData.bool (List.replicate 8 false))).shown = zz
    have S40 := ((((S2.trans S15).trans c2).trans (same_new (o := .lst [.bl false]) h39)).trans (same_new (o := .lst (List.replicate (Int.toNat 8) [.bl false]).flatten) h40))
    generalize (upd (upd H38 l39 (.lst [.bl false])) l40 (.lst (List.replicate (Int.toNat 8) [.bl false]).flatten)) = H40 at S40
    refine ⟨true, by rw [decide_eq_true (rfl : V.str zz = V.str zz)], ?_⟩
    refine iteT ⟨_, rfl, rfl, _, rfl, (by show 1 ≤ sizeLine; decide), fun l41 h41 => ⟨l, l41, _, _, rfl, rfl, same_new h41 _ _ (S40 _ _ Le), upd_same, ?_, fun l42 h42 => ?_⟩⟩
    · rw [el, sizeLine_eq]
      show ts.length + 1 ≤ _
      omega
    have ez1 : ts.map V.int ++ [.int 1] = (ts ++ [1]).map V.int := by
      rw [List.map_append]
      rfl
    have l1 : (ts ++ [1]).length = ts.length + 1 := List.length_append ..
    rw [ez1]
    refine ⟨l42, (ts ++ [1]).map V.int, rfl, .inr (SqL.of upd_same), ?_, tyI _ _, fun zs ez o4 H43 O4 s43 => ?_, fun i v h1 h2 _ => (noI _ i v h1 h2).elim⟩
    · rw [List.length_map, l1]
      omega
    rw [← inj ez, trim_one] at O4
    have S43 := ((S40.trans (same_new h41)).trans (same_new h42)).trans s43
    refine ⟨p, dxe, _, _, rfl, S43 _ _ epe, T.ty O4, T.sf, p, _, _, rfl, Pe.same S43, by omega, .inl ⟨o4, ts ++ [1], rfl, O4, by omega, ?_⟩⟩
    rw [decide_eq_false (trim_ne_one ts)]
    exact ⟨_, rfl, k _ (pen_same pe S43) (Be.trans (but_same S43))⟩
end
end My
namespace My
open PySem PySem.Spec PyProof.Rows L2
abbrev s_law : Stmt := topS 38
theorem sc_law : FnScope ["_law_script", "_law_pen_here", "_law_turn"] ["_law_script"] (defScope s_law) := ⟨rfl, rfl, rfl, by decide +kernel, rfl, by decide +kernel, by decide +kernel⟩
def spLaw (K : PySem.W.Frag) (TS : List (Addr × Str)) : Sp := fun vs H Q _ => ∃ (a : Addr) (ns : List Int), vs = [.ref a] ∧ SqL K H a (ns.map V.int) ∧ LamX.Tabs TS H ∧ ∀ (H' : Hp), Q (.bl true) H'
section
variable {P : Program} {w : World} {K : PySem.W.Frag} {mg : Str → Option Value} {base : Heap} {CE C CB fB CP fP CI fI : Addr}
theorem ok_law {f : Addr} {fd : FuncData} {TS : List (Addr × Str)} (F : Fun K "law" "law" s_law f fd) (T : PTx P K mg C CB fB CP fP CI fI)
    (D_pen : DefAt P w K mg base CX0 1 "_law_pen" ["_law_script"] (spPen K)) (D_lterms : DefAt P w K mg base CX0 3 "_law_terms" ["_law_pen_here", "_law_most"] spTerms)
    (M_Poly : MakeR P w K mg base (L2.CX P w) 3 "Poly" C (spPoly C CB)) (G_Poly : GetAt P w K mg base (L2.CX P w) 2 C ["self", "k"] (spPget C CI)) (CE_eq : CmpAt P w K mg base CX0 1 C "__eq__" ["self", "other"] (spPeq C))
    (D_rightR : DefG P w K mg base CX0 7 "_law_right" ["_law_pen_here", "_law_terms_here"] spRightP) (D_refusedR : DefG P w K mg base CX0 11 "_law_refused" ["_law_pen_here"] (spRefusedP C TS)) : FnG P w K mg base CX0 13 f fd ["_law_script"] (spLaw K TS) := by
  refine okG F sc_law (fun vs H Q E h => ?_) (fun cdv A outer s H vs Q E hf hgd hr h => ?_)
  · obtain ⟨a, ns, rfl, _⟩ := h
    rfl
  · obtain ⟨sc, ns, rfl, hs, ht, k⟩ := h
    refine ⟨_, (pss_cons (ps_set (i := 1) sc_law.nd rfl (Or.inl rfl) (My.pe_d D_pen (hr.mono (by decide)) (by rfl) pass0 (pa_cons (pv 0) pa_nil)))
      (pss_cons (ps_for PassesOwn.never rfl (pi_range1 rfl T.z_range (pa_cons pe_int pa_nil)) (pg_name (i := 2) sc_law.nd rfl (Or.inl rfl)) (pss_one (ps_if (PW.pt (pw_or (pt_not (pt_val (My.pe_dG D_rightR hgd (hr.mono (by decide)) (by rfl) pass0 (pa_cons (pv 1) (pa_cons (My.pe_d D_lterms (hr.mono (by decide)) (by rfl) pass0 (pa_cons (pv 1) (pa_cons pe_int pa_nil))) pa_nil))))) (pw_or1 (pt_not (pt_val (My.pe_dG D_refusedR hgd (hr.mono (by decide)) (by rfl) pass0 (pa_cons (pv 1) pa_nil))))))) (pss_one (ps_ret pe_bl)) pss_nil)))
      (pss_cons (ps_if (pt_cmpR op_ne (My.pe_get G_Poly (hr.mono (by decide)) passL (My.pe_mkR M_Poly (hr.mono (by decide)) (by rfl) passL (pa_cons pe_int (pa_cons pe_int pa_nil))) (pe_op op_pow pe_int pe_int)) pe_int (nomark _)) (pss_one (ps_ret pe_bl)) pss_nil)
      (pss_one (ps_ret (pe_and (pe_cmpR op_eq (pe_fld (My.pe_mkR0 M_Poly (hr.mono (by decide)) (by rfl) passL) rfl) (pe_un un_neg pe_int) (nomark _)) (pe_and (pe_cmpR (My.op_cmpO CE_eq (hr.mono (by decide)) pass0) (My.pe_mkR M_Poly (hr.mono (by decide)) (by rfl) passL (pa_cons pe_int (pa_cons pe_int pa_nil))) (My.pe_mkR0 M_Poly (hr.mono (by decide)) (by rfl) passL) (nomark _)) (pe_one (pe_cmpR op_eq (pe_fld (My.pe_mkR M_Poly (hr.mono (by decide)) (by rfl) passL (pa_cons pe_int pa_nil)) rfl) pe_int (nomark _)))))))))), ?_⟩
    refine ⟨_, rfl, sc, ns, rfl, hs, fun pn H1 h1 p1 s1 => ?_⟩
    refine ⟨10, rfl, by decide, by decide, for_range (fun i σ H' => ∃ v2, σ = [some (.ref sc), some (.ref pn), v2] ∧ PenAt H' pn (60 * i) ∧ LamX.Tabs TS H') ⟨none, rfl, p1, ht.ext s1⟩ ?_ ?_⟩
    · rintro i σ H' hi ⟨v2, rfl, hp, htb⟩
      have hi6 : i < 10 := hi
      refine ⟨_, rfl, _, rfl, pn, 60 * i, 7, rfl, by decide, hp, by omega, fun l ts H2 ln tm nl hl p2 u2 => ?_⟩
      have t2 := tabs_but htb hp u2
      refine ⟨pn, l, _, ts, rfl, p2, by omega, hl, pen_ne hp nl, ln, tm, fun H3 p3 u3 => ⟨_, rfl, iteF ?_⟩⟩
      have t3 := tabs_but t2 p2 u3
      refine ⟨_, rfl, pn, _, rfl, p3, by omega, t3, fun H4 p4 k4 => ⟨_, rfl, iteF ?_⟩⟩
      exact ⟨_, rfl, p4.le (by omega), k4.tabs⟩
    · rintro σ H' ⟨v2, rfl, hp, htb⟩
      refine poly_ints [3, 4] (by decide) fun q H2 r2 s2 => ?_
      obtain ⟨dx, tt, ep, _⟩ := id r2
      refine ⟨_, _, rfl, rfl, ⟨by decide, by decide, by decide⟩, q, dx, _, rfl, ep, q, _, _, rfl, r2, TyL.int C _ _, fun k' ek k0 => ?_, fun z => ?_⟩
      case refine_2 =>
        rcases z with z | ⟨k', ek, z⟩
        · cases z
        · cases ek
          exact absurd z (by decide)
      have e20 : (10 : Int) ^ Int.toNat 20 = 100000000000000000000 := by decide
      have tl2 : (trim [3, 4]).length ≤ 2 := trim_le _
      have kk : 2 ≤ k'.toNat := by
        have := V.int.inj ek
        rw [e20] at this
        omega
      rw [List.getElem?_eq_none (by omega)]
      refine ⟨rfl, _, rfl, iteNS rfl ?_⟩
      refine poly_ints [] (by decide) fun q1 H3 r3 s3 => ?_
      obtain ⟨dx1, tt1, ep1, _⟩ := id r3
      refine ⟨q1, C, dx1, _, _, rfl, ep1, T.cl, T.nD, pfs_deg _ _, _, rfl, rfl, true, by decide, iteT ?_⟩
      refine poly_ints [0, 0] (by decide) fun q2 H4 r4 s4 => ?_
      refine poly_ints [] (by decide) fun q3 H5 r5 s5 => ?_
      have r4' := r4.same s5
      obtain ⟨dx2, tt2, ep2, _⟩ := id r4'
      refine ⟨q2, dx2, _, _, rfl, ep2, T.ty r5, T.sf, q2, _, _, rfl, r4', Nat.le_trans (trim_le _) (by decide), .inl ⟨q3, _, rfl, r5, Nat.le_trans (trim_le _) (by decide), true, by decide, iteT ?_⟩⟩
      refine poly_ints [5] (by decide) fun q4 H6 r6 s6 => ?_
      obtain ⟨dx3, tt3, ep3, _⟩ := id r6
      refine ⟨q4, C, dx3, _, _, rfl, ep3, T.cl, T.nD, pfs_deg _ _, rfl, ?_⟩
      rw [show decide (V.int (((trim [5]).length : Int) - 1) = V.int 0) = true by decide]
      exact k _
end
end My
namespace My
open PySem PySem.Spec PyProof.Rows L2
theorem all_mk {l : PySem.W.OpenLaw} {w : World} {K : PySem.W.Frag} {h : Heap} {mg : Str → Option Value} {fa CE C CB fB CP fP CI fI : Addr} {c1 t1 : Addr} {e1 : Value} {dd1 : Option Addr} {vs1 : Array Value} {sx1 : Array (Option Value)} (hfa : mg "law" = some (.ref fa))
    (_gP : mg "Poly" = some (.ref C))
    (_gB : mg "BadPoly" = some (.ref CB))
    (_gPl : mg "BadPlace" = some (.ref CP))
    (_gI : mg "NoIndex" = some (.ref CI))
    (_gE : mg "ClipError" = some (.ref CE))
    (_iCB : PySem.W.findIn K (.ref CB) "__init__" = some (some (.ref fB)))
    (_iCP : PySem.W.findIn K (.ref CP) "__init__" = some (some (.ref fP)))
    (_iCI : PySem.W.findIn K (.ref CI) "__init__" = some (some (.ref fI)))
    (T : PTx l.prog K mg C CB fB CP fP CI fI)
    (mk : PySem.W.makesIn K C = true)
    (kp : PySem.W.keepIn K (.ref C) = true)
    (A_pinit : HasM K C "__init__" "Poly.__init__" s_pinit)
    (A_pof : HasCM K C "of" "Poly.of" s_pof)
    (A_whole0 : Has K mg "is_whole" s_whole0)
    (A_needint : Has K mg "need_integer" s_needint)
    (A_wend : Has K mg "without_end" s_wend)
    (A_termof : Has K mg "term_of" s_termof)
    (A_pen : Has K mg "_law_pen" s_pen)
    (A_draw : Has K mg "_law_draw" s_draw)
    (A_pick : Has K mg "_law_pick" s_pick)
    (TH : HTx l.prog K mg CE CB fB CP fP CI fI)
    (ne0 : PySem.W.findIn K (.ref C) "__ne__" = some (some (.builtin "object.__ne__")))
    (A_peq : HasM K C "__eq__" "Poly.__eq__" s_peq)
    (A_pbool : HasM K C "__bool__" "Poly.__bool__" s_pbool)
    (A_pstr : HasM K C "__str__" "Poly.__str__" s_pstr)
    (A_ttext : Has K mg "term_text" s_ttext)
    (A_tstext : Has K mg "terms_text" s_tstext)
    (A_heard : Has K mg "_law_heard" s_heard)
    (A_lterms : Has K mg "_law_terms" s_lterms)
    (A_lcut : Has K mg "_law_cut" s_lcut)
    (A_lvalue : Has K mg "_law_value" s_lvalue)
    (A_rightR : Has K mg "_law_right" s_rightR)
    (A_lmade : Has K mg "_law_made" s_lmade)
    (A_law : Has K mg "law" s_law)
    (A_pget : HasM K C "__getitem__" "Poly.__getitem__" s_pget)
    (A_pcall : HasM K C "__call__" "Poly.__call__" s_pcall)
    (A_refusedR : HasC K mg "_law_refused" s_refusedR c1) (_p1 : K.lookup c1 = some ⟨e1, dd1, .fields vs1, sx1⟩) (_q1 : vs1[11]? = some (.ref t1)) (T1 : TabF K h (c1, t1))
    : LawG l w K 13 63 "_law_script" mg fa h := by
  obtain ⟨fl, fdl, hl, Fl⟩ := A_law.ex
  have e := hfa.symm.trans hl
  cases e
  obtain ⟨f_1, oc_1, od_1, kV_1, dc_1, pm_1, an_1, ct_1, sl_1, m_1, l_1, d_1, k_1⟩ := A_refusedR.ex
  obtain ⟨fh, fdh, hh, Fh⟩ := A_heard.ex
  refine ⟨fdl, [(c1, t1)], spLaw K [(t1, (("_law_refused" : Str) ++ ".<locals>.") ++ "<lambda>")], fun p hp => ?_, fun s u => ?_, fun H a ns hn hb ht hs => ?_, fun base hK hN hT => ?_⟩
  · simp only [List.mem_cons, List.mem_nil_iff, or_false] at hp
    rcases hp with rfl
    · exact T1
  · obtain ⟨oc, od, kV, doc, pm, an, cdv, ct, osl, rfl, _⟩ := Fl.ex
    exact .of_eq rfl
  · refine ⟨a, ns, rfl, hs, fun p hp => ?_, fun _ => rfl⟩
    simp only [List.mem_cons, List.mem_nil_iff, or_false] at hp
    rcases hp with rfl
    · exact LamX.TabS.nil (ht (c1, t1) (.head _))
  · have TB1 := hT (c1, t1) (.head _)
    have D_whole0 : DefAt l.prog w K mg base CX0 1 "is_whole" ["value"] (spWhole0 C) := def_at A_whole0 (fun f fd F => ok_whole0 F T) fun _ _ _ _ _ _ us hl => match us, hl with | [_], _ => rfl
    have D_needint : DefAt l.prog w K mg base (L2.CX l.prog w) 2 "need_integer" ["value"] (spNeed C CP) := def_at A_needint (fun f fd F => ok_needint F T D_whole0) fun _ _ _ _ _ _ us hl => match us, hl with | [_], _ => rfl
    have D_wend : DefAt l.prog w K mg base CX0 1 "without_end" ["terms"] spWend := def_at A_wend (fun f fd F => ok_wend F T) fun _ _ _ _ _ _ us hl => match us, hl with | [_], _ => rfl
    have D_termof : DefAt l.prog w K mg base CX0 1 "term_of" ["terms", "k"] (spTermof K) := def_at A_termof (fun f fd F => ok_termof F T) fun _ _ _ _ _ _ us hl => match us, hl with | [_, _], _ => rfl
    have D_pen : DefAt l.prog w K mg base CX0 1 "_law_pen" ["_law_script"] (spPen K) := def_at A_pen (fun f fd F => ok_pen F T.toBI) fun _ _ _ _ _ _ us hl => match us, hl with | [_], _ => rfl
    have D_draw : DefAt l.prog w K mg base CX0 1 "_law_draw" ["_law_pen_here", "_law_many"] spDrawC := def_at A_draw (fun f fd F => ok_drawC F T.toBI) fun _ _ _ _ _ _ us hl => match us, hl with | [_, _], _ => rfl
    have M_Poly : MakeR l.prog w K mg base (L2.CX l.prog w) 3 "Poly" C (spPoly C CB) := makeR_at A_pinit T.gP mk kp fun f _ _ _ _ _ _ _ _ _ lk hcd => ok_pinit (fd := PySem.W.fnOf "" "" default [] default .none .none .none .none none .none .none) lk hcd T D_whole0 D_wend
    have K_of : ClsAt l.prog w K mg base (L2.CX l.prog w) 5 C "of" (spPof K C CB) := cls_at A_pof (fun f fd F => ok_pof F T M_Poly) fun _ _ _ _ _ _ us hl => match us, hl with | [_, _], _ => rfl
    have G_Poly : GetAt l.prog w K mg base (L2.CX l.prog w) 2 C ["self", "k"] (spPget C CI) := get_at A_pget (fun f fd F => ok_pget F T D_whole0 D_termof) fun _ _ _ _ _ _ us hl => match us, hl with | [_, _], _ => rfl
    have C_Poly : CallAt l.prog w K mg base (L2.CX l.prog w) 3 C ["self", "m"] (spPcall C CP) := call_at A_pcall (fun f fd F => ok_pcall F T D_needint) fun _ _ _ _ _ _ us hl => match us, hl with | [_, _], _ => rfl
    have D_pick0 : DefAt l.prog w K mg base CX0 2 "_law_pick" ["_law_pen_here", "_law_some"] spPick := def_at A_pick (fun f fd F => ok_pick F T.toBI (def_at A_draw (fun f fd F => ok_draw F T.toBI) fun _ _ _ _ _ _ us hl => match us, hl with | [_, _], _ => rfl)) fun _ _ _ _ _ _ us hl => match us, hl with | [_, _], _ => rfl
    have D_pick : DefAt l.prog w K mg base CX0 2 "_law_pick" ["_law_pen_here", "_law_some"] spPickC := def_at A_pick (fun f fd F => ok_pickC F T.toBI D_draw) fun _ _ _ _ _ _ us hl => match us, hl with | [_, _], _ => rfl
    have D_ttext : DefAt l.prog w K mg base CX0 1 "term_text" ["term", "power"] spTtext := def_at A_ttext (fun f fd F => ok_ttext F T) fun _ _ _ _ _ _ us hl => match us, hl with | [_, _], _ => rfl
    have D_tstext : DefAt l.prog w K mg base CX0 2 "terms_text" ["terms"] spTstext := def_at A_tstext (fun f fd F => ok_tstext F T D_ttext) fun _ _ _ _ _ _ us hl => match us, hl with | [_], _ => rfl
    have CE_eq : CmpAt l.prog w K mg base CX0 1 C "__eq__" ["self", "other"] (spPeq C) := cmp_at A_peq (fun f fd F => ok_peq F T) fun _ _ _ _ _ _ us hl => match us, hl with | [_, _], _ => rfl
    have BO_bool : CmpAt l.prog w K mg base CX0 1 C "__bool__" ["self"] (spPbool C) := cmp_at A_pbool (fun f fd F => ok_pbool F T) fun _ _ _ _ _ _ us hl => match us, hl with | [_], _ => rfl
    have ST_str : CmpAt l.prog w K mg base CX0 3 C "__str__" ["self"] (spPstr C) := cmp_at A_pstr (fun f fd F => ok_pstr F T D_tstext) fun _ _ _ _ _ _ us hl => match us, hl with | [_], _ => rfl
    have D_lterms : DefAt l.prog w K mg base CX0 3 "_law_terms" ["_law_pen_here", "_law_most"] spTerms := def_at A_lterms (fun f fd F => ok_lterms F T D_draw D_pick0) fun _ _ _ _ _ _ us hl => match us, hl with | [_, _], _ => rfl
    have D_lcut : DefAt l.prog w K mg base CX0 1 "_law_cut" ["_law_terms_here"] (spCut K) := def_at A_lcut (fun f fd F => ok_lcut F T) fun _ _ _ _ _ _ us hl => match us, hl with | [_], _ => rfl
    have D_lvalue : DefAt l.prog w K mg base CX0 1 "_law_value" ["_law_terms_here", "_law_m"] spValue := def_at A_lvalue (fun f fd F => ok_lvalue F T) fun _ _ _ _ _ _ us hl => match us, hl with | [_, _], _ => rfl
    have D_rightR : DefG l.prog w K mg base CX0 7 "_law_right" ["_law_pen_here", "_law_terms_here"] spRightP := def_atG A_rightR (fun f fd F => ok_rightR F T ne0 D_draw D_lcut D_lvalue K_of G_Poly C_Poly CE_eq BO_bool ST_str) fun _ _ _ _ _ _ us hl => match us, hl with | [_, _], _ => rfl
    have D_lmade : DefAt l.prog w K mg base (L2.CX l.prog w) 5 "_law_made" ["_law_some"] (spLmade C CB) := def_at A_lmade (fun f fd F => ok_lmade F T M_Poly) fun _ _ _ _ _ _ us hl => match us, hl with | [_], _ => rfl
    have DH : HeardAt K mg := ⟨⟨fh, fdh, Fh, hh, Fh.binds fun _ _ _ _ _ _ us hl => match us, hl with | [_], _ => rfl⟩⟩
    have un1 : ∀ p ∈ [(t1, (("_law_refused" : Str) ++ ".<locals>.") ++ "<lambda>")], p.1 = t1 → p.2 = (("_law_refused" : Str) ++ ".<locals>.") ++ "<lambda>" := by
      intro p hp e
      simp only [List.mem_cons, List.mem_nil_iff, or_false] at hp
      rcases hp with rfl
      · exact rfl
    have D_refusedR : DefG l.prog w K mg base CX0 11 "_law_refused" ["_law_pen_here"] (spRefusedP C [(t1, (("_law_refused" : Str) ++ ".<locals>.") ++ "<lambda>")]) := ⟨f_1, _, ok_refusedR ⟨⟨oc_1, od_1, kV_1, dc_1, pm_1, an_1, ct_1, sl_1, rfl, l_1, d_1⟩, k_1⟩ T TH DH TB1 (.head _) un1 D_draw D_pick M_Poly D_lmade K_of G_Poly C_Poly, m_1, k_1, .all fun us hl => match us, hl with | [_], _ => rfl⟩
    exact ok_law Fl T D_pen D_lterms M_Poly G_Poly CE_eq D_rightR D_refusedR
end My
open PySem PySem.W PyProof.Rows
set_option maxRecDepth 100000 in
set_option maxHeartbeats 0 in
theorem PySem.Challenge.cw_clipfades_k05_polys_made_holds : PySem.Challenge.rw_clipfades_k05_polys_made.Holds := by
  w_on; o_law; k_head; (case hw => w_witness2)
  k_fill
  refine My.walk_G (l := PySem.Challenge.rw_clipfades_k05_polys_made) (n := 63) (k := 13) (x := "_law_script") rfl (by decide) rfl ⟨rfl, by decide, by decide⟩ (fun w h Y => by first | exact PySem.W.km_in_of Y | exact PySem.W.kIn_of Y) ?F
  case F =>
    intro w mg fa h Y KX G hmg tf
    have bi : My.BI mg := ⟨mg_none_of KX G (by k_is), mg_none_of KX G (by k_is), mg_none_of KX G (by k_is), mg_none_of KX G (by k_is), mg_none_of KX G (by k_is), mg_none_of KX G (by k_is), mg_none_of KX G (by k_is), mg_none_of KX G (by k_is)⟩
    refine' My.all_mk hmg ?gP ?gB ?gPl ?gI ?gE ?iCB ?iCP ?iCI ?T ?mk ?kp ?A_pinit ?A_pof ?A_whole0 ?A_needint ?A_wend ?A_termof ?A_pen ?A_draw ?A_pick ?TH ?ne0 ?A_peq ?A_pbool ?A_pstr ?A_ttext ?A_tstext ?A_heard ?A_lterms ?A_lcut ?A_lvalue ?A_rightR ?A_lmade ?A_law ?A_pget ?A_pcall ?A_refusedR ?p1 ?q1 ?T1
    case gP => exact mg_of KX G (by k_is)
    case gB => exact mg_of KX G (by k_is)
    case gPl => exact mg_of KX G (by k_is)
    case gI => exact mg_of KX G (by k_is)
    case gE => exact mg_of KX G (by k_is)
    case iCB => k_is
    case iCP => k_is
    case iCI => k_is
    case T => exact ⟨bi, ⟨by k_is, by k_is, by k_is, by k_is⟩, show PySem.W.findIn _ (.ref _) "terms" = some none by k_is, show PySem.W.findIn _ (.ref _) "degree" = some none by k_is, mg_of KX G (by k_is), by k_is, by k_is, by k_is, by k_is, by kernel_rfl,
      ⟨mg_of KX G (by k_is), ⟨⟨_, _, _, _, _, _, _, _, _, _, _, _, _, _, _, by k_is, by decide⟩, by k_is, by k_is, by k_is, by k_is⟩, ⟨by k_is, by k_is, by k_is, by k_is⟩, by k_is, My.nm_at, by k_is, by k_is,
      ⟨_, _, _, _, _, _, _, _, _, _, _, _, _, _, _, _, _, _, _, _, _, _, by k_is, by k_is, ⟨_, _, _, by k_is⟩, _, _, _, _, _, _, by k_is, rfl, by decide +kernel, rfl⟩, by ks_is, by k_is, by k_is, mg_none_of KX G (by k_is), by k_is, by decide +kernel⟩, ⟨mg_of KX G (by k_is), ⟨⟨_, _, _, _, _, _, _, _, _, _, _, _, _, _, _, by k_is, by decide⟩, by k_is, by k_is, by k_is, by k_is⟩, ⟨by k_is, by k_is, by k_is, by k_is⟩, by k_is, My.nm_value, by k_is, by k_is,
      ⟨_, _, _, _, _, _, _, _, _, _, _, _, _, _, _, _, _, _, _, _, _, _, by k_is, by k_is, ⟨_, _, _, by k_is⟩, _, _, _, _, _, _, by k_is, rfl, by decide +kernel, rfl⟩, by ks_is, by k_is, by k_is, mg_none_of KX G (by k_is), by k_is, by decide +kernel⟩, ⟨mg_of KX G (by k_is), ⟨⟨_, _, _, _, _, _, _, _, _, _, _, _, _, _, _, by k_is, by decide⟩, by k_is, by k_is, by k_is, by k_is⟩, ⟨by k_is, by k_is, by k_is, by k_is⟩, by k_is, My.nm_value, by k_is, by k_is,
      ⟨_, _, _, _, _, _, _, _, _, _, _, _, _, _, _, _, _, _, _, _, _, _, by k_is, by k_is, ⟨_, _, _, by k_is⟩, _, _, _, _, _, _, by k_is, rfl, by decide +kernel, rfl⟩, by ks_is, by k_is, by k_is, mg_none_of KX G (by k_is), by k_is, by decide +kernel⟩, mg_none_of KX G (by k_is), mg_none_of KX G (by k_is), mg_none_of KX G (by k_is), by kernel_rfl, My.kinds7 (by kernel_rfl) (by k_is) (by kernel_rfl) (by k_is) (by kernel_rfl) (by k_is) (by kernel_rfl) (by k_is) (by kernel_rfl) (by k_is) (by kernel_rfl) (by k_is) (by kernel_rfl) (by k_is), by k_is⟩
    case mk => k_is
    case kp => k_is
    case A_pinit => exact ⟨_, _, by k_is, by k_is, L2.fun_mk (by k_is) (by k_is) (by k_is)⟩
    case A_pof => exact ⟨.type "type", _, _, _, ⟨by k_is, by k_is⟩, ⟨by k_is, ⟨_, by k_is⟩, by k_is⟩, L2.fun_mk (by k_is) (by k_is) (by k_is)⟩
    case A_whole0 => exact ⟨_, _, mg_of KX G (by k_is), L2.fun_mk (by k_is) (by k_is) (by k_is)⟩
    case A_needint => exact ⟨_, _, mg_of KX G (by k_is), L2.fun_mk (by k_is) (by k_is) (by k_is)⟩
    case A_wend => exact ⟨_, _, mg_of KX G (by k_is), L2.fun_mk (by k_is) (by k_is) (by k_is)⟩
    case A_termof => exact ⟨_, _, mg_of KX G (by k_is), L2.fun_mk (by k_is) (by k_is) (by k_is)⟩
    case A_pen => exact ⟨_, _, mg_of KX G (by k_is), L2.fun_mk (by k_is) (by k_is) (by k_is)⟩
    case A_draw => exact ⟨_, _, mg_of KX G (by k_is), L2.fun_mk (by k_is) (by k_is) (by k_is)⟩
    case A_pick => exact ⟨_, _, mg_of KX G (by k_is), L2.fun_mk (by k_is) (by k_is) (by k_is)⟩
    case TH => exact ⟨bi, mg_of KX G (by k_is), ⟨mg_of KX G (by k_is), ⟨⟨_, _, _, _, _, _, _, _, _, _, _, _, _, _, _, by k_is, by decide⟩, by k_is, by k_is, by k_is, by k_is⟩, ⟨by k_is, by k_is, by k_is, by k_is⟩, by k_is, My.nm_at, by k_is, by k_is,
      ⟨_, _, _, _, _, _, _, _, _, _, _, _, _, _, _, _, _, _, _, _, _, _, by k_is, by k_is, ⟨_, _, _, by k_is⟩, _, _, _, _, _, _, by k_is, rfl, by decide +kernel, rfl⟩, by ks_is, by k_is, by k_is, mg_none_of KX G (by k_is), by k_is, by decide +kernel⟩, ⟨mg_of KX G (by k_is), ⟨⟨_, _, _, _, _, _, _, _, _, _, _, _, _, _, _, by k_is, by decide⟩, by k_is, by k_is, by k_is, by k_is⟩, ⟨by k_is, by k_is, by k_is, by k_is⟩, by k_is, My.nm_value, by k_is, by k_is,
      ⟨_, _, _, _, _, _, _, _, _, _, _, _, _, _, _, _, _, _, _, _, _, _, by k_is, by k_is, ⟨_, _, _, by k_is⟩, _, _, _, _, _, _, by k_is, rfl, by decide +kernel, rfl⟩, by ks_is, by k_is, by k_is, mg_none_of KX G (by k_is), by k_is, by decide +kernel⟩, ⟨mg_of KX G (by k_is), ⟨⟨_, _, _, _, _, _, _, _, _, _, _, _, _, _, _, by k_is, by decide⟩, by k_is, by k_is, by k_is, by k_is⟩, ⟨by k_is, by k_is, by k_is, by k_is⟩, by k_is, My.nm_value, by k_is, by k_is,
      ⟨_, _, _, _, _, _, _, _, _, _, _, _, _, _, _, _, _, _, _, _, _, _, by k_is, by k_is, ⟨_, _, _, by k_is⟩, _, _, _, _, _, _, by k_is, rfl, by decide +kernel, rfl⟩, by ks_is, by k_is, by k_is, mg_none_of KX G (by k_is), by k_is, by decide +kernel⟩, by kernel_rfl, by kernel_rfl, by kernel_rfl, by kernel_rfl, by kernel_rfl, by kernel_rfl⟩
    case ne0 => k_is
    case A_peq => exact ⟨_, _, by k_is, by k_is, L2.fun_mk (by k_is) (by k_is) (by k_is)⟩
    case A_pbool => exact ⟨_, _, by k_is, by k_is, L2.fun_mk (by k_is) (by k_is) (by k_is)⟩
    case A_pstr => exact ⟨_, _, by k_is, by k_is, L2.fun_mk (by k_is) (by k_is) (by k_is)⟩
    case A_ttext => exact ⟨_, _, mg_of KX G (by k_is), L2.fun_mk (by k_is) (by k_is) (by k_is)⟩
    case A_tstext => exact ⟨_, _, mg_of KX G (by k_is), L2.fun_mk (by k_is) (by k_is) (by k_is)⟩
    case A_heard => exact ⟨_, _, mg_of KX G (by k_is), L2.fun_mk (by k_is) (by k_is) (by k_is)⟩
    case A_lterms => exact ⟨_, _, mg_of KX G (by k_is), L2.fun_mk (by k_is) (by k_is) (by k_is)⟩
    case A_lcut => exact ⟨_, _, mg_of KX G (by k_is), L2.fun_mk (by k_is) (by k_is) (by k_is)⟩
    case A_lvalue => exact ⟨_, _, mg_of KX G (by k_is), L2.fun_mk (by k_is) (by k_is) (by k_is)⟩
    case A_rightR => exact ⟨_, _, mg_of KX G (by k_is), L2.fun_mk (by k_is) (by k_is) (by k_is)⟩
    case A_lmade => exact ⟨_, _, mg_of KX G (by k_is), L2.fun_mk (by k_is) (by k_is) (by k_is)⟩
    case A_law => exact ⟨_, _, mg_of KX G (by k_is), L2.fun_mk (by k_is) (by k_is) (by k_is)⟩
    case A_pget => exact ⟨_, _, by k_is, by k_is, L2.fun_mk (by k_is) (by k_is) (by k_is)⟩
    case A_pcall => exact ⟨_, _, by k_is, by k_is, L2.fun_mk (by k_is) (by k_is) (by k_is)⟩
    case A_refusedR => exact ⟨_, _, _, _, _, _, _, _, _, mg_of KX G (by k_is), by k_is, by k_is, by k_is⟩
    (case p1 => k_is); (case q1 => rfl)
    case T1 => exact tf "_law_refused" _ _ (by decide +kernel) (by kernel_rfl) (by kernel_rfl)
