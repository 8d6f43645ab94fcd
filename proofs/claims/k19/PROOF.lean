import PyProof.Rows.All
import Wide.All
import OpenK.AllK
import Wide.FinOn
import HandS.ForMost
import HandS.ForExc
import HandS.ExcInit
import HandS.ExcField
import HandS.Lambda
import HandS.IsInst
import KE.KExcIs
import PyProof.Rows.NestShow
import KE.KExcSuper
import HandS.Wide
import HandS.Star
import HandS.Defaults
import HandS.EndTab
import PyProof.ListMulRight
import KE.KOpsOwn
import KE.KCallOwn
import KE.KFmtOwn
import PyProof.InstNe
import HandS.ClsMeth
import HandS.TupLe
import HandS.MakeKwOnly
import HandS.MakeKw
import HandS.Small
import HandS.Style
import HandS.TupAny
import KE.GoesEnum
import KE.GoesMore
import KE.KTupTruth
import KE.KStateDown
import KE.KNestM
import HandS.Head0
import HandS.Head1
import HandS.Head2
import HandS.HeadHook1
import HandS.HeadHook2
import HandS.HeadHook4
import HandS.Property
import HandS.GenList
import HandS.Walk
import HandS.Codes
import HandS.FStr
import HandS.RaiseMore
import HandS.Dict
import HandS.Comp
import PyProof.ReprLen
import PyProof.LongRange
import PyProof.WalksMore
import HandS.Base
import KE.DataEq
import HandS.Conv
import PySem.Challenge.RW_clipfades_k19_whole_classes_of_lengths
set_option Elab.async false
set_option linter.all false
set_option maxRecDepth 100000
set_option maxHeartbeats 4000000
/-! Rules of our own over the hand layer: defs whose guards are told (for repr), repr of data, an error kept behind its except suite. -/
namespace My
open PySem PySem.Spec PyProof.Rows L2
/-! ### a def that is run where no repr is under way -/
structure FnG (P : Program) (w : World) (K : PySem.W.Frag) (mg : Str → Option Value) (base : Heap) (CX : CXT) (k : Nat) (f : Addr) (fd : FuncData) (ps : List Str) (sp : Sp) : Prop where
  len : ∀ vs H Q E, sp vs H Q E → vs.length = ps.length
  run : ∀ (A : Around) (outer : List Env) (s : Shared) (H : Hp) (args : Args) (us : List Value) (vs : List V) (Q : VK) (E : XK), A.guards = some [] → Room k A → Env0 P w K mg base A outer s H → BindsTo s fd args (ps.zip us) → Vals vs us → sp vs H Q E →
    codeAny (model P w) A (.call (.ref f) args) (CR CX outer P w H s Q E) s
section
variable {P : Program} {w : World} {K : PySem.W.Frag} {mg : Str → Option Value} {base : Heap}
theorem okG {x qual : Str} {st : Stmt} {f : Addr} {fd : FuncData} {N ps : List Str} {k : Nat} {sp : Sp} (F : Fun K x qual st f fd) (S : FnScope N ps (defScope st)) (len : ∀ vs H Q E, sp vs H Q E → vs.length = ps.length)
    (hbody : ∀ (cdv : Value) (A : Around) (outer : List Env) (s : Shared) (H : Hp) (vs : List V) (Q : VK) (E : XK), K.lookup f ≠ none → A.guards = some [] → Room k (A.deeper (envOfC qual (defScope st) s.heap.objs.size f cdv)) → sp vs H Q E →
      ∃ t, PSs (cxOf CX0 P w K mg base N qual (defScope st) f cdv A outer s H E).nox (defBody st) t ∧ t { nx := fun _ H' => Q .non H', rt := Q } (start N vs) H) : FnG P w K mg base CX0 (k + 1) f fd ps sp := by
  obtain ⟨oc, od, kV, doc, pm, an, cdv, ct, osl, rfl, lk, hcd⟩ := F.ex
  refine ⟨len, fun A outer s H args us vs Q E hg hr e0 hb r hsp => LamX.run_ofS lk hcd S hr e0 hb r (len _ _ _ _ hsp) fun hr' => ?_⟩
  obtain ⟨t, h, q⟩ := hbody cdv A outer s H vs Q E (by rw [lk]; exact fun z => nomatch z) hg hr' hsp
  exact ⟨t, h.nox, q⟩
end
section
variable {X : Cx} {CX : CXT} {k : Nat} {f : Addr} {fd : FuncData} {ps : List Str} {sp : Sp} {E : XK} {x : Str} {e : Expr} {es : List Expr} {t : TA} {p pos : Pos} {ds : List Value} {dvs : List V}
/-- x(e, ..) -/
theorem pe_callG (F : FnG X.prog X.w X.K X.mg X.base CX k f fd ps sp) (hgd : X.A.guards = some []) (hr : Room k X.A) (hg : Gl X x) (hm : X.mg x = some (.ref f)) (hk : PySem.W.keepIn X.K (.ref f) = true) (hb : Binds X.K fd ps []) (hx : Passes CX X E)
    (ha : PA X (e :: es) t) (hdb : (x == ("__debug__" : Str)) = false := by decide) (hs : starEach (e :: es) X.env = (false, eval e X.env) :: starEach es X.env := by rfl) (hpl : (backTo pos (starEach es X.env)).any (·.1) = false := by rfl) :
    PE X (.Call (.Name x p) (e :: es) [] pos) (tCall sp [] E t) := by
  refine ⟨fun pins s σ H Q I h => ?_⟩
  refine wpAny_Call_Name_kw (ld_glob I hg hm ?_ hdb)
  refine PySem.W.callWith_K (h₀ := X.base) I.ok.mod.kin hk (thn (ha.run pos pins s σ H _ I h) fun us s1 ⟨vs, H1, I1, r, q⟩ => ⟨I1.kIn, ?_⟩) hs hpl
  have q' : sp vs H1 Q E := by
    have z : sp (vs ++ []) H1 Q E := q
    rw [List.append_nil] at z
    exact z
  have hl : us.length = ps.length := by rw [← r.length]; exact F.len _ _ _ _ q'
  have hb' : BindsTo s1 fd ⟨us, []⟩ (ps.zip us) := by
    have z := hb s1 us I1.kIn (by rw [List.append_nil]; exact hl)
    rw [List.append_nil] at z
    exact z
  refine wpAny_call (codeAny_mono (F.run X.A X.stack s1 H1 ⟨us, []⟩ us vs Q E hgd hr I1.env0 hb' r q') fun res s2 hq => ?_)
  cases res with
  | error er => exact hx pins σ H1 s1 er s2 I1 hq
  | ok fl =>
    cases fl with
    | ret u => exact I1.after hq
    | next => exact False.elim hq
    | brk => exact False.elim hq
    | cont => exact False.elim hq
end
/-! ### repr of data -/
theorem sqt_same {K : PySem.W.Frag} {H H' : Hp} {a : Addr} {xs : List V} (e : Same H H') (h : SqT K H a xs) : SqT K H' a xs := by
  rcases h with (h | ⟨o, h⟩) | h
  · exact .inl (.inl (e _ _ h))
  · exact .inl (.inr ⟨o, e _ _ h⟩)
  · exact .inr h
/-- data that repr shows: as for ==, and the empty dict -/
def Dr (K : PySem.W.Frag) (H : Hp) (v : V) (d : PyData) : Prop := Dp K H v d ∨ (∃ a, v = .ref a ∧ d = .dict [] ∧ H a = some (.dK []))
mutual
theorem dp_same {K : PySem.W.Frag} {H H' : Hp} (k : Same H H') : ∀ (d : PyData) (v : V), Dp K H v d → Dp K H' v d
  | _, _, .non => .non
  | _, _, .bl b => .bl b
  | _, _, .int i => .int i
  | _, _, .str x => .str x
  | .list ds, _, .lst h ha => .lst (k.seq h) (dp_sameAll k ds _ ha)
  | .tuple ds, _, .tup h ha => .tup (sqt_same k h) (dp_sameAll k ds _ ha)
theorem dp_sameAll {K : PySem.W.Frag} {H H' : Hp} (k : Same H H') : ∀ (ds : List PyData) (vs : List V), DpAll K H vs ds → DpAll K H' vs ds
  | [], _, .nil => .nil
  | d :: ds, _, .cons h1 h2 => .cons (dp_same k d _ h1) (dp_sameAll k ds _ h2)
end
theorem dr_same {K : PySem.W.Frag} {H H' : Hp} {v : V} {d : PyData} (k : Same H H') (h : Dr K H v d) : Dr K H' v d := by
  rcases h with h | ⟨a, e1, e2, e3⟩
  · exact .inl (dp_same k d v h)
  · exact .inr ⟨a, e1, e2, k _ _ e3⟩
def rRepr (K : PySem.W.Frag) : List V → Hp → VK → Prop := fun xs H Q => ∃ (v : V) (d : PyData), xs = [v] ∧ Dr K H v d ∧ d.showable = true ∧ d.depth ≤ 60 ∧ d.shown.length ≤ sizeLine ∧ Q (.str d.shown) H
mutual
theorem noDict {K : PySem.W.Frag} {H : Hp} : ∀ (d : PyData) (v : V), Dp K H v d → d.hasDict = false
  | .none, _, _ => rfl
  | .bool _, _, _ => rfl
  | .int _, _, _ => rfl
  | .str _, _, _ => rfl
  | .list ds, _, h => by
    cases h with
    | lst _ ha => exact noDictAll ds _ ha
  | .tuple ds, _, h => by
    cases h with
    | tup _ ha => exact noDictAll ds _ ha
  | .dict _, _, h => by cases h
theorem noDictAll {K : PySem.W.Frag} {H : Hp} : ∀ (ds : List PyData) (vs : List V), DpAll K H vs ds → PyData.hasDictAll ds = false
  | [], _, _ => rfl
  | d :: ds, _, h => by
    cases h with
    | cons h1 h2 =>
      show (d.hasDict || PyData.hasDictAll ds) = false
      rw [noDict d _ h1, noDictAll ds _ h2]
      rfl
end
section
variable {X : Cx} {k : Nat}
theorem call_repr (hgd : X.A.guards = some []) (hr : Room k X.A) : CallR X (.builtin "repr") (rRepr X.K) := by
  intro pins s σ H xs us Q I r h
  obtain ⟨v, d, rfl, hd, hs, hdp, hz, q⟩ := h
  obtain ⟨u, rfl, r1⟩ := vals1 r
  have hu : X.A.units + (d.depth + 1) < cLine := by
    have := hr.units
    omega
  have fin : ∀ (h' : Heap) (t : Tok) (tk : Nat), (∀ b o, s.heap.get? b = some o → h'.get? b = some o) → EP X pins σ Q (.str d.shown t) { s with heap := h', toks := tk } :=
    fun h' t tk hk => ⟨.str d.shown, H, I.kept (t' := tk) hk, ⟨t, rfl⟩, q⟩
  rcases hd with hd | ⟨a, rfl, rfl, ha⟩
  · have hn := noDict d v hd
    obtain ⟨as, rd⟩ := Dp.reads I d v u hd r1
    cases hd with
    | non => cases (show u = Value.none from r1); exact PySem.P.repr_of_none (fin s.heap _ _ fun _ _ e => e)
    | bl b => cases (show u = Value.bool b from r1); exact PySem.P.repr_of_bool (fin s.heap _ _ fun _ _ e => e)
    | int i =>
      obtain ⟨t, e⟩ := (show ∃ t, u = Value.int i t from r1)
      cases e
      exact PySem.P.repr_of_int (of_decide_eq_true hs) (fin s.heap _ _ fun _ _ e => e)
    | str z =>
      obtain ⟨t, e⟩ := (show ∃ t, u = Value.str z t from r1)
      cases e
      exact PySem.P.repr_of_str (fin s.heap _ _ fun _ _ e => e) hz
    | @lst a xs ds _ _ =>
      cases (show u = Value.ref a from r1)
      exact repr_of_reads' rd hs (PyData.noDict_hsm hn) hgd hu (fun _ _ e => e) (fun h' t tk hk => fin h' t tk hk) hz
    | @tup a xs ds _ _ =>
      cases (show u = Value.ref a from r1)
      exact repr_of_reads' rd hs (PyData.noDict_hsm hn) hgd hu (fun _ _ e => e) (fun h' t tk hk => fin h' t tk hk) hz
  · cases (show u = Value.ref a from r1)
    obtain ⟨_, hne, vs, kv, o, es, ep, e1, e2, e3, e4⟩ := (show ObjOk X.prog X.w H s.heap a (.dK []) from I.hok a _ ha)
    cases kv
    have hes : es.toList = [] := by
      obtain ⟨_, pr, _⟩ := e4
      revert pr
      generalize es.toList = l
      intro pr
      cases pr
      rfl
    have rd : Reads s.heap (.ref a) (.dict []) (a :: [] ++ []) := .dict e1 e2.1 e3 (by rw [hes]; exact .nil) (by rw [hes]; exact .nil)
    exact repr_of_reads' rd hs (fun _ hm => by simp at hm; simp [hm] at hne) hgd hu (fun _ _ e => e) (fun h' t tk hk => fin h' t tk hk) hz
end
/-! ### an error that stands behind its except suite -/
/-- at a: an error of the class cls, its own dict at d -/
def ExA (cls : Value) (d : Option Addr) (a : Addr) : HO := .ext fun h => ∃ (oe : Obj) (vs : Array Value), h.get? a = some oe ∧ Zc cls d oe ∧ oe.data = .fields vs
theorem exA_ok {P : Program} {w : World} {H : Hp} {h : Heap} {a : Addr} {cls : Value} {d : Option Addr} {oe : Obj} {vs : Array Value} (e : h.get? a = some oe) (z : Zc cls d oe) (hd : oe.data = .fields vs) : ObjOk P w H h a (ExA cls d a) :=
  ⟨⟨oe, vs, e, z, hd⟩, ⟨oe, e⟩, fun _ _ ⟨o, v, q, r⟩ k => ⟨o, v, k o q, r⟩⟩
section
variable {X : Cx} {pins : List (Addr × Obj)} {σ : L2.St} {H : Hp} {s : Shared}
/-- an object of the heap that was not there at the entry, tracked from now on -/
theorem track {a : Addr} {o : HO} (I : Inv X pins σ H s) (h0 : X.s_0.heap.get? a = none) (na : H a = none) (nL : a ≠ X.env.locals) (nC : ∀ x c, X.env.cells.lookup x = some c → c ≠ a) (nP : ∀ p ∈ X.pn ++ pins, p.1 ≠ a)
    (new : ObjOk X.prog X.w (upd H a o) s.heap a o) : Inv X pins σ (upd H a o) s := by
  have ne0 : ∀ b ob, X.s_0.heap.get? b = some ob → b ≠ a := fun b ob e z => by rw [z, h0] at e; cases e
  refine ⟨I.ok, I.os, I.bare, ⟨I.base.keep, I.base.slot, fun b ob e n hx => ?_, I.base.there, fun b xs e => ?_, fun b ob u e => ?_, fun b ps e => ?_⟩, I.loc, I.cell, ?_, fun x c e => ?_, fun p hp => ?_, fun b u e => ?_, I.len⟩
  · rw [upd_ne (ne0 b ob e)]
    exact I.base.free b ob e n hx
  · have z := I.base.tups b xs e
    rw [upd_ne (ne_of_none z na)]
    exact z
  · have z := I.base.frzs b ob u e
    rw [upd_ne (ne_of_none z na)]
    exact z
  · obtain ⟨m, z⟩ := I.base.tbls b ps e
    exact ⟨m, by rw [upd_ne (ne_of_none z na)]; exact z⟩
  · rw [upd_ne (Ne.symm nL)]
    exact I.free
  · rw [upd_ne (nC x c e)]
    exact I.freeC x c e
  · obtain ⟨e, n, r⟩ := I.pin p hp
    exact ⟨e, by rw [upd_ne (nP p hp)]; exact n, r⟩
  · by_cases hb : b = a
    · subst hb
      rw [upd_same] at e
      cases e
      exact new
    · rw [upd_ne hb] at e
      exact (I.hok b u e).stay (fun _ _ _ q => q) (fun c q => by rw [upd_ne (ne_of_none q na)]; exact q) fun c xs q => by rw [upd_ne (ne_of_none q na)]; exact q
end
/-- the wish of «except c as n: y = n»: slot i is n's, slot j is y's -/
def wKeep (K : PySem.W.Frag) (c : Value) (i j n : Nat) (Wout : WX) (D : Ends) : WX := fun cls d σ H =>
  ∃ b, PySem.W.exmOne K cls c = some b ∧ (b = true → ∀ a, H a = none → σ.length = n → D.nx (((σ.set i (some (.ref a))).set j (some (.ref a))).set i none) (upd H a (ExA cls d a))) ∧ (b = false → Wout cls d σ H)
section
variable {X : Cx} {x n y : Str} {c : Value} {i j : Nat} {body : List Stmt} {np p1 p2 p3 pos pos' : Pos} {tb : WX → TS} {Wout : WX}
theorem ps_try_keep (hs : X.stack = X.env :: X.outer) (hf : X.env.frame = some X.env.locals) (hN : X.N.Nodup) (hi : X.N[i]? = some n) (hln : X.env.kindOf n = some .local) (hj : X.N[j]? = some y) (hly : X.env.kindOf y = some .local) (hex : X.ex = []) (hc : Names X x c) (tk : Takes X Wout)
    (hb : ∀ (W : WX) (pn : List (Addr × Obj)) (xe : Value → Shared → Prop), Takes (X.tr pn xe) W → PassesOwn (model X.prog X.w) X.A X.env xe → PSs (X.tr pn xe) body (tb W)) (hd1 : (n == ("__debug__" : Str)) = false := by decide) (hd2 : (n == ("__classdict__" : Str)) = false := by decide) :
    PS X (.Try body [.ExceptHandler (some (.Name x np)) (some n) [.Assign [.Name y p1] (.Name n p2) p3] pos'] [] [] pos) (fun D σ H => tb (wKeep X.K c i j X.N.length Wout D) D σ H) := by
  refine ⟨fun pins s σ H D I h => ?_⟩
  have ok := I.ok
  have hfr : X.A.frames = some (X.env :: X.outer) := by rw [ok.frames, hs]
  refine wpAny_Try_except ?_
  refine wpAny_mono ((hb (wKeep X.K c i j X.N.length Wout D) (X.pn ++ pins) (fun e t1 => wpAny (model X.prog X.w) X.A (noteFrame e X.env) (fun _ t2 => wpAny (model X.prog X.w) X.A (setFlight e none) (fun _ t3 =>
    wpAny (model X.prog X.w) X.A (handleBy e X.env [.ExceptHandler (some (.Name x np)) (some n) [.Assign [.Name y p1] (.Name n p2) p3] pos']) (SP X pins D) X.xe t3) X.xe t2) X.xe t1) (fun u s' xx => ?_) PassesOwn.looking).run [] s σ H D (I.toTry _) h) (fun fl t1 hsp => ?_) (fun _ _ he => he)
  · obtain ⟨a, B, sI, pins', σ1, H1, cls, d, rfl, J0, nb, up, sky, na, os, ag, b, hb1, hyes, hno⟩ := xx
    have J : Inv X pins σ1 H1 sI := J0.ofTry ok
    have sky' : Sky B (X.env :: X.outer) a (Zc cls d) X.env.locals s'.heap := by rw [← hs]; exact sky
    show wpAny (model X.prog X.w) X.A (noteFrame (.ref a) X.env) _ _ _
    refine Sky.land Zc.steady hfr hf sky' fun h3 fl3 up3 => ?_
    have J3 : Inv X pins σ1 H1 { s' with heap := h3 } := J.landed nb fl3.1 (up.trans up3) os ag
    obtain ⟨oe3, vs3, he3, hz3, hd3⟩ := fl3.there
    have nfr : a ∉ frs (X.env :: X.outer) := fun hm => by
      obtain ⟨_, o', e', hnf⟩ := fl3.2.2.1.mem hm
      rw [he3] at e'
      cases e'
      exact hnf _ hd3
    have nL : a ≠ X.env.locals := fun z => nfr (List.mem_filterMap.mpr ⟨X.env, List.mem_cons_self, by rw [hf, z]⟩)
    have nF : a ∉ X.fs := fun hm => by
      obtain ⟨e1, he1, q1⟩ := List.mem_filterMap.mp hm
      exact nfr (List.mem_filterMap.mpr ⟨e1, List.mem_cons_of_mem _ he1, q1⟩)
    -- the error was not there at the entry, and is no pin
    have Ba : B.get? a = none := fl3.2.1
    have sIa : sI.heap.get? a = none := by
      cases z : sI.heap.get? a with
      | none => rfl
      | some o =>
        have y := nb a o z (by rw [hs]; exact nfr)
        rw [Ba] at y
        cases y
    have s0a : X.s_0.heap.get? a = none := by
      cases z : X.s_0.heap.get? a with
      | none => rfl
      | some o =>
        obtain ⟨o', y⟩ := J.base.there a o z (by rw [hex]; exact fun w => nomatch w)
        rw [sIa] at y
        cases y
    have nPin : ∀ p ∈ X.pn ++ pins, p.1 ≠ a := fun p hp z => by
      have y := (J.pin p hp).1
      rw [z, sIa] at y
      cases y
    have S3 := J3.suite he3 hd3 na nL nF
    refine wpAny_handleBy_cons (codeAny_handlers_test ?_) (by intro q; cases q)
    have LT : PySem.W.Looks (model X.prog X.w) h3 (typeOf (.ref a)) cls := fun A Q E s k q => wpAny_typeOf_ref (k _ _ he3) (by rw [hz3.1]; exact q)
    have LM := PySem.W.exm_one (M := model X.prog X.w) (J3.kIn) LT hb1
    have test : ∀ {Q : Value → Shared → Prop} {E : Value → Shared → Prop}, Q c { s' with heap := h3 } → wpAny (model X.prog X.w) (X.A.mark (some (.ref a))) (eval (.Name x np) X.env) Q E { s' with heap := h3 } := fun {Q E} q => by
      obtain ⟨hg, hdbg, hm | ⟨hm, hv, hnn⟩⟩ := hc
      · exact ld_glob (X := X.suite a ((a, oe3) :: (X.pn ++ pins))) S3 hg hm q hdbg
      · exact ld_blt (X := X.suite a ((a, oe3) :: (X.pn ++ pins))) S3 hg hm hv q hnn hdbg
    refine test (LM.here ?_)
    cases b with
    | true =>
      refine codeAny_handlers_suite_as ?_
      refine HandSPX.lands_againZ fl3 fun h4 fl4 up4 => ?_
      have J4 : Inv X pins σ1 H1 { s' with heap := h4 } := J.landed nb fl4.1 ((up.trans up3).trans up4) os ag
      obtain ⟨oe4, vs4, he4, hz4, hd4⟩ := fl4.there
      have S4 := J4.suite he4 hd4 na nL nF
      refine store_ok (X := X.suite a ((a, oe4) :: (X.pn ++ pins))) (v := .ref a) S4 hN hi (.inl hln) rfl (fun s5 S5 => ?_) (.inr hln)
      have suite : PSs (X.suite a ((a, oe4) :: (X.pn ++ pins))) [.Assign [.Name y p1] (.Name n p2) p3] (tAsg (tVar i) (gName j)) :=
        pss_one (ps_asg (pe_var (i := i) hi (.inl hln) hd1 hd2) (pg_name (i := j) hN hj (.inl hly) (hf := .inr hly)))
      have hlen : i < σ1.length := by
        rw [J.len]
        exact (List.getElem?_eq_some_iff.mp hi).1
      refine wpAny_mono (suite.run [] s5 _ H1 { nx := fun σ' H' => σ' = (σ1.set i (some (.ref a))).set j (some (.ref a)) ∧ H' = H1, rt := fun _ _ => False } S5 ⟨.ref a, by rw [List.getElem?_set_self hlen], rfl, rfl⟩) (fun fl s6 hsp => ?_) (fun _ _ z => False.elim z)
      cases fl with
      | next =>
        obtain ⟨σ6, H6, S6, eσ, eH⟩ := hsp
        subst eσ
        subst eH
        refine gone_ok (X := X.suite a ((a, oe4) :: (X.pn ++ pins))) S6 hN hi hln fun s7 S7 => ?_
        have ha7 : s7.heap.get? a = some oe4 := (S7.pin (a, oe4) (List.mem_append_left _ List.mem_cons_self)).1
        have J7 := S7.unsuite ok
        have nC : ∀ (x : Str) (c : Addr), X.env.cells.lookup x = some c → c ≠ a := fun x c e z => by
          obtain ⟨v, o, ho, hdc⟩ := J7.cell x c e
          rw [z, ha7] at ho
          cases ho
          rw [hd4] at hdc
          cases hdc
        exact ⟨_, _, track J7 s0a na nL nC nPin (exA_ok ha7 hz4 hd4), hyes rfl a na J.len⟩
      | brk => obtain ⟨_, _, _, z⟩ := hsp; exact z.elim
      | cont => obtain ⟨_, _, _, z⟩ := hsp; exact z.elim
      | ret u => obtain ⟨_, _, _, _, _, z⟩ := hsp; exact z.elim
    | false =>
      show wpAny _ X.A (handleBy (.ref a) X.env []) _ _ _
      refine wpAny_handleBy_nil ?_
      obtain ⟨w1, w2, w3, oe, vs, T, oT, ts', he, hz, hdd, h1, hr⟩ := id fl3
      unfold PySem.passOn
      refine wpAny_bind (wpAny_field he hdd h1 ?_)
      rw [if_neg (show ¬ ((Value.ref T == Value.none) = true) from by simp)]
      have fin : wpAny (model X.prog X.w) X.A (setFlight (.ref a) X.env.frame) (fun _ s4 => wpAny (model X.prog X.w) X.A (throw (.ref a) : Sem Flow) (SP X pins D) X.xe s4) X.xe { s' with heap := h3 } := by
        rw [hf]
        refine HandSPX.setFlight_upZ fl3 fun h4 hh4 up4 => wpAny_throw (tk _ _ ?_)
        exact ⟨a, B, sI, pins, σ1, H1, cls, d, rfl, J, nb, (up.trans up3).trans up4, .inr (.inr (by rw [hs]; exact hh4)), na, os, ag, hno rfl⟩
      first
        | exact wpAny_bind (wpAny_pure (wpAny_bind fin))
        | exact wpAny_bind fin
  · cases fl with
    | next =>
      obtain ⟨σ', H', J', q⟩ := hsp
      exact wpAny_execs_nil ⟨σ', H', J'.ofTry ok, q⟩
    | brk =>
      obtain ⟨σ', H', J', q⟩ := hsp
      exact ⟨σ', H', J'.ofTry ok, q⟩
    | cont =>
      obtain ⟨σ', H', J', q⟩ := hsp
      exact ⟨σ', H', J'.ofTry ok, q⟩
    | ret u =>
      obtain ⟨v, σ', H', J', r, q⟩ := hsp
      exact ⟨v, σ', H', J'.ofTry ok, r, q⟩
end
/-! ### isinstance and fields of such an error -/
structure ExcK (K : PySem.W.Frag) (C : Addr) : Prop where
  cl : (PySem.W.clsIn K C).isSome = true
  ga : PySem.W.findIn K (.ref C) "__getattribute__" = some (some (.builtin "BaseException.__getattribute__"))
  gg : PySem.W.findIn K (.ref C) "__getattr__" = some none
  sb : PySem.W.subIn K (.ref C) (.type "BaseException") = some true
  ha : PySem.W.findIn K (.ref C) "__class__" = some (some (.builtin "object.__class__"))
  hn : PySem.W.specialIn K (.builtin "object.__class__") "__get__" = some (some (.builtin "getset_descriptor.__get__"))
  ht : PySem.W.takesIn K (.builtin "object.__class__") = some true
  hm : PySem.W.mroIn K C (.type "object") = some true
/-- isinstance(e, D) -/
def rIsA (K : PySem.W.Frag) : List V → Hp → VK → Prop := fun xs H Q => ∃ (a C d : Addr) (fs : List (Str × V)) (c : V) (cv : Value) (b : Bool), xs = [.ref a, c] ∧ ClsV c cv ∧ ExcK K C ∧ H a = some (ExA (.ref C) (some d) a) ∧ H d = some (.xd fs) ∧ PySem.W.kitOne K (.ref C) cv = some b ∧ Q (.bl b) H
section
variable {X : Cx} {pins : List (Addr × Obj)} {σ : L2.St} {H : Hp} {s : Shared}
theorem exA_at {a C d : Addr} {fs : List (Str × V)} (I : Inv X pins σ H s) (ha : H a = some (ExA (.ref C) (some d) a)) (hd : H d = some (.xd fs)) :
    ∃ (oe od : Obj) (mA : Str → Option Value), PySem.W.InstAt s.heap a oe C (some od) ∧ (∀ name, PySem.W.lookIn name od = some (mA name)) ∧ ∀ f, RelO (fs.lookup f) (mA f) := by
  obtain ⟨⟨oe, vs, ho, hz, hdat⟩, _, _⟩ := I.hok a _ ha
  obtain ⟨mA, hns, hr⟩ := (show ObjOk X.prog X.w H s.heap d (.xd fs) from I.hok d _ hd)
  obtain ⟨od, hod, hl⟩ := lookIn_ns hns
  exact ⟨oe, od, mA, ⟨ho, hz.1, by unfold PySem.W.notCls; rw [hdat] <;> rfl, by rw [hz.2]; exact hod⟩, hl, hr⟩
theorem call_isA : CallR X (.builtin "isinstance") (rIsA X.K) := by
  intro pins s σ H xs us Q I r h
  obtain ⟨a, C, d, fs, c, cv, b, rfl, k, T, ha, hd, e, q⟩ := h
  obtain ⟨u1, u2, rfl, r1, r2⟩ := vals2 r
  cases (show u1 = Value.ref a from r1)
  have e2 := k.eq r2
  subst e2
  obtain ⟨oe, od, mA, J, _, _⟩ := exA_at I ha hd
  exact PySem.W.kia_one (PySem.W.kitx_exc T.cl T.ga T.gg T.sb T.ha T.hn T.ht T.hm) I.kIn J e (fun z => nomatch z) fun t => ⟨.bl b, H, I.tok t, rfl, q⟩
/-- e.f -/
def tXa (K : PySem.W.Frag) (f : Str) (te : TE) : TE := fun σ H Q => te σ H fun x H1 => ∃ (a C d : Addr) (fs : List (Str × V)) (v : V), x = .ref a ∧ H1 a = some (ExA (.ref C) (some d) a) ∧ H1 d = some (.xd fs) ∧ XfC K C ∧ PySem.W.findIn K (.ref C) f = some none ∧ fs.lookup f = some v ∧ Q v H1
theorem pe_xa {e : Expr} {te : TE} {n : Str} {pos : Pos} (he : PE X e te) (hb : attributeBase e n X.env (eval e X.env) = eval e X.env := by rfl) : PE X (.Attribute e n pos) (tXa X.K n te) := by
  refine ⟨fun pins s σ H Q I h => ?_⟩
  refine attr_of hb (thn (he.run pins s σ H _ I h) fun u s1 hh => ?_)
  obtain ⟨x, H1, I1, rx, a, C, d, fs, v, ex, ha, hd, T, hno, l, q⟩ := hh
  subst ex
  obtain rfl : u = Value.ref a := rx
  obtain ⟨oe, od, mA, J, hl, hr⟩ := exA_at I1 ha hd
  obtain ⟨u, hu, ru⟩ := RelO.some_of (v := v) (o := mA n) (by rw [← l]; exact hr n)
  exact HandSPX.exc_get I1.kIn J T.ga T.gg T.exC (PySem.W.findObj_own T.hdC hno rfl (by rw [hl, hu])) (handed_of ru) ⟨v, H1, I1.tok _, ru, q⟩
end
end My
/-! An own error class E(Base(ValueError)) whose __init__ says super().__init__(f) and self.f = f. -/
namespace Sup
open PySem PySem.W PySem.Calls PyProof.Rows PySem.HandSPX
def a1 (f : Str) (p1 p2 : Pos) : Arguments :=
  { posonlyargs := [], args := [{ arg := "self", annotation := none, pos := p1 }, { arg := f, annotation := none, pos := p2 }], vararg := none, kwonlyargs := [], kw_defaults := [], kwarg := none, defaults := [] }
def b1 (f : Str) (q1 q2 q3 q4 q5 q6 r1 r2 r3 r4 : Pos) : List Stmt :=
  [.Expr (.Call (.Attribute (.Call (.Name "super" q1) [] [] q2) "__init__" q3) [.Name f q4] [] q5) q6, .Assign [.Attribute (.Name "self" r1) f r2] (.Name f r3) r4]
def s1 (f : Str) : Scope :=
  { kind := .function, names := [(PySem.Str.ofString "self", .local), (f, .local), (PySem.Str.ofString "__class__", .free), (PySem.Str.ofString "super", .globalImplicit)], isGenerator := false, isCoroutine := false, more := [] }
/-- the field's name is no other name of the text -/
structure Nm (f : Str) : Prop where
  n1 : (f == ("self" : Str)) = false
  n2 : (("__class__" : Str) == f) = false
  n3 : (("super" : Str) == f) = false
  n4 : (f == ("__debug__" : Str)) = false
  bd : ∀ (qual : Str) (body : List Stmt) (doc pm : Value) (an : Option Addr) (cdv ct : Value) (cc : Addr) (p1 p2 : Pos) (a b : Value),
    bindArgs (ksFn "__init__" qual (a1 f p1 p2) body (s1 f) .none .none doc pm an cdv ct cc) ⟨[a, b], []⟩ = pure [(("self" : Str), a), (f, b)]
/-- what the top has written of the class x, at C, and of its __init__, at fI -/
structure Err1 (prog : Program) (K : Frag) (mg : Str → Option Value) (x f : Str) (C fI : Addr) : Prop where
  gC : mg x = some (.ref C)
  ox : L2.OexC K C
  rd : L2.XfC K C
  nf : findIn K (.ref C) f = some none
  nm : Nm f
  iC : findIn K (.ref C) "__init__" = some (some (.ref fI))
  tI : typeIn K (.ref fI) = some (.type "function")
  fn : ∃ (qual : Str) (oc : Value) (od : Option Addr) (doc pm : Value) (an : Option Addr) (cda : Addr) (ct : Value) (cc : Addr) (osl : Array (Option Value)) (p1 p2 q1 q2 q3 q4 q5 q6 r1 r2 r3 r4 : Pos),
    K.lookup fI = some ⟨oc, od, .func (ksFn "__init__" qual (a1 f p1 p2) (b1 f q1 q2 q3 q4 q5 q6 r1 r2 r3 r4) (s1 f) .none .none doc pm an (.ref cda) ct cc), osl⟩ ∧ codeIn K (.ref cda) qual = true ∧
    (∃ cl cld csl, K.lookup cc = some ⟨cl, cld, .cell (some (.ref C)), csl⟩) ∧ ∃ ccl cdd vs ccs file tf, K.lookup cda = some ⟨ccl, cdd, .fields vs, ccs⟩ ∧ vs[2]? = some (.str file tf) ∧ ((prog.main.file : Str) == file) = true ∧ (q3.endLine == q5.line) = true
  su : ks_superIn K C C "__init__" = some (some (.builtin "ValueError.__init__"))
  sV : subIn K (.ref C) (.type "ValueError") = some true
  sC : mroIn K C (.ref C) = some true
  gS : mg "super" = none
  oq : nsIn K cStatics "thirdparty.any" = some none
  top : (prog.main.scope.names.lookup ("super" : Str)).isSome = false
/-- what __init__ leaves of a fresh exception at x -/
structure End1 (h h' : Heap) (f : Str) (x C dx t1 : Addr) (v : Value) : Prop where
  keep : ∀ b o, b ≠ x → h.get? b = some o → h'.get? b = some o
  obj : h'.get? x = some { cls := .ref C, dict := some dx, data := .fields #[.ref t1, .none, .none, .none, .bool false, .none] }
  dbig : h.objs.size ≤ dx
  dne : dx ≠ x
  ns : h'.Ns1 dx (fun y => if y = f then some v else none)
theorem lk2 {f : Str} (N : Nm f) : (s1 f).names.lookup f = some .local := by
  simp only [s1, List.lookup, N.n1, beq_self_eq_true]
theorem lk3 {f : Str} (N : Nm f) : (s1 f).names.lookup ("__class__" : Str) = some .free := by
  have e : (("__class__" : Str) == ("self" : Str)) = false := by decide +kernel
  have e2 : (("__class__" : Str) == ("__class__" : Str)) = true := by decide +kernel
  simp only [s1, List.lookup, N.n2, e, e2]
theorem lk4 {f : Str} (N : Nm f) : (s1 f).names.lookup ("super" : Str) = some .globalImplicit := by
  have e : (("super" : Str) == ("self" : Str)) = false := by decide +kernel
  have e2 : (("super" : Str) == ("__class__" : Str)) = false := by decide +kernel
  have e3 : (("super" : Str) == ("super" : Str)) = true := by decide +kernel
  simp only [s1, List.lookup, N.n3, e, e2, e3]
theorem meth_eq {o : Expr} {name f : Str} {q3 q4 q5 : Pos} {env : Env} (hp : (q3.endLine == q5.line) = true) :
    eval (.Call (.Attribute o name q3) [.Name f q4] [] q5) env = (do
      let ov ← attributeBase o name env (eval o env)
      standAt q3.atName
      let (g, first) ← holding [ov] (getMethod ov name (do return (← importBound o env).getD true))
      callWith q5 g first (backTo q5 (starEach [.Name f q4] env)) []) := by
  rw [arm_eval_Call]
  have hf : methodCallForm ([Expr.Name f q4].length + ([] : List Keyword).length) (backTo q5 (starEach [.Name f q4] env)) (backToKw q5 (keywordEach [] env)) = true := rfl
  have e : ∀ ov, methodCall o name q3 q5 env ov ([Expr.Name f q4].length + ([] : List Keyword).length) (backTo q5 (starEach [.Name f q4] env)) (backToKw q5 (keywordEach [] env)) = (do
      let (g, first) ← holding [ov] (getMethod ov name (do return (← importBound o env).getD true))
      callWith q5 g first (backTo q5 (starEach [.Name f q4] env)) []) := fun ov => by
    unfold methodCall
    rw [hf]
    unfold calleeOf methodCallPos
    simp only [hp, Bool.not_true, Bool.false_or, if_true]
    rfl
  simp only [e]
section
variable {prog : Program} {w : World} {A : Around} {E : Value → Shared → Prop} {R : Result → Shared → Prop} {s : Shared} {K : Frag} {mg : Str → Option Value} {x f : Str} {C fI : Addr}
/-- the bound ValueError.__init__ called -/
theorem call_mw {h : Heap} {g : Array GenState} {d : Drawn} {t : Nat} {os : OsState} {u e t0 : Addr} {rest : List Value} {Q : Value → Shared → Prop} {nm q : Str} {N : Addr} {bs bm : List Value} {hdct : Bool} {sn : List Str} {sub : List Value} {ab : Bool} {col : Option Bool} {dd : Option Addr} {k0 k1 k2 k3 k5 : Option Value}
    (hC : h.get? C = some (excClassObj nm q C N bs bm hdct sn sub ab col dd k0 k1 k2 k3 k5 "ValueError.__new__")) (he : h.get? e = some (excO C t0)) (hu : h.get? u = some (kxs_mw "ValueError.__init__" e)) (hz : rest.length ≤ sizeLine)
    (hq : ∀ h' t1, (∀ b o, b ≠ e → h.get? b = some o → h'.get? b = some o) → h'.get? e = some (excO C t1) → Q .none ⟨h', g, d, t, os⟩) :
    wpAny (model prog w) A (call (.ref u) rest) Q E ⟨h, g, d, t, os⟩ := by
  refine wpAny_call (codeAny_of_tree ?_)
  show wpAny _ A.in1 (callAny (.ref u) ⟨rest, []⟩) _ _ _
  simp only [callAny]
  refine wpAny_bind (wpAny_load hu ?_)
  simp only [kxs_mw, show (Value.type "method-wrapper" == Value.type "method" || Value.type "method-wrapper" == Value.type "builtin_function_or_method" || Value.type "method-wrapper" == Value.type "method-wrapper") = true by decide, if_true]
  refine KFB.if_so (by decide) ?_
  refine wpAny_bind (check_bound_init F.excBase_ValueError.toExcCallFacts hC he rfl ?_)
  refine wpAny_bind (wpAny_pure (wpAny_pure ?_))
  refine ⟨plainId_quiet F.excBase_ValueError.init.plain _, codeAny_builtin F.excBase_ValueError.initEntry ?_⟩
  exact exc_init_tree (cls := .ref C) (t0 := t0) (dv := none) (c2 := .none) (c3 := .none) (b4 := .bool false) he hz fun h' k e' _ => hq h' _ k e'
theorem init1 (T : Err1 prog K mg x f C fI) {e t0 : Addr} {v : Value} (X : K.In s.heap) (hlim : s.heap.NoLimit) (hg : s.heap.Ns mainGlobals mg) (hb : ∃ mb, s.heap.Ns builtinsNs mb ∧ ∀ x : Str, x ≠ "__name__" → mb x = bootBuiltins x)
    (he : s.heap.get? e = some (excO C t0)) (hnx : K.lookup e = none) (hroom : A.depth < recursionLimit)
    (hq : ∀ h' tk dx t1, End1 s.heap h' f e C dx t1 v → R (.ok (.ret .none)) { s with heap := h', toks := tk }) :
    codeAny (model prog w) A (.call (.ref fI) ⟨[.ref e, v], []⟩) R s := by
  obtain ⟨qual, oc, od, doc, pm, an, cda, ct, cc, osl, p1, p2, q1, q2, q3, q4, q5, q6, r1, r2, r3, r4, ho, hcd, ⟨cl, cld, csl, hcell⟩, ccl, cdd, vs, ccs, file, tf, hcode, hvs, hfile, hqq⟩ := T.fn
  obtain ⟨nm, q, N, bs, bm, sn, sub, ab, col, dd, k0, k1, k2, k3, k5, hC, hbm⟩ := T.ox.cls
  obtain ⟨mb, hb1, hb2⟩ := hb
  have hcl : clsIn K C = some { name := nm, bases := bs, mro := .ref C :: bm, ns := N, qualname := q, hasDict := true, slotNames := sn, subclasses := sub, abstract := ab, collection := col, hasDel := false } := by unfold clsIn; rw [hC] <;> rfl
  have hloc : ∀ y ∈ [(("self" : Str), Value.ref e), (f, v)], (s1 f).names.lookup y.1 = some .local := fun y hy => by
    rcases List.mem_cons.mp hy with z | z
    · rw [z]; rfl
    · rw [List.mem_singleton.mp z]; exact lk2 T.nm
  have hsu : alongIn K "__init__" ((((Value.ref C :: bm) : List Value).dropWhile (· != .ref C)).drop 1) = some (some (.builtin "ValueError.__init__")) := by
    have z := T.su
    unfold ks_superIn at z
    rw [hcl] at z
    exact z
  refine ks_codeAny_call_defAt (fd := ksFn "__init__" qual (a1 f p1 p2) (b1 f q1 q2 q3 q4 q5 q6 r1 r2 r3 r4) (s1 f) .none .none doc pm an (.ref cda) ct cc) (binds := [("self", .ref e), (f, v)]) hroom (X _ _ ho) rfl hlim (codeRec_of X hcd) rfl (BindsTo.of_eq (T.nm.bd _ _ _ _ _ _ _ _ _ _ _ _))
    (by intro y hy; simp only [s1, List.mem_cons, List.mem_nil_iff, or_false] at hy; rcases hy with z | z | z | z <;> rw [z] <;> exact (fun w => nomatch w)) hloc (fun h1 hns kp => ?_)
  have X1 : K.In h1 := X.keeps kp
  have he1 := kp _ _ he
  have hC1 := X1 _ _ hC
  have hx0 : e ≠ C := fun z => by
    have y := X _ _ hC
    rw [← z, he] at y
    cases y
  have mself : ([(("self" : Str), Value.ref e), (f, v)].reverse.lookup ("self" : Str)) = some (.ref e) := by
    have e1 : (("self" : Str) == f) = false := by
      have z := T.nm.n1
      rw [Bool.eq_false_iff] at z ⊢
      intro y
      exact z (by rw [beq_iff_eq] at y ⊢; exact y.symm)
    simp only [List.reverse_cons, List.reverse_nil, List.nil_append, List.cons_append, List.lookup, e1, beq_self_eq_true]
  have mf : ([(("self" : Str), Value.ref e), (f, v)].reverse.lookup f) = some v := by
    simp only [List.reverse_cons, List.reverse_nil, List.nil_append, List.cons_append, List.lookup, beq_self_eq_true]
  show _root_.PySem.wpAt _ _ _ (execs (b1 f q1 q2 q3 q4 q5 q6 r1 r2 r3 r4) _) _ _ _
  unfold b1
  refine ks_wpAt_execs_cons (ks_wpAt_Expr_any (ks_wpAt_MethodCall (ks_wpAt_super_base (lk4 T.nm) (lk3 T.nm) (by decide +kernel) rfl (X1 _ _ ho) rfl rfl rfl (X1 _ _ hcode) rfl hvs hfile T.top ?_) (meth_eq hqq)))
  refine ks_loadName_global rfl (lk4 T.nm) (loadGlobal_builtin (hg.keeps kp) T.gS (hb1.keeps kp) ((hb2 _ (by decide +kernel)).trans (by decide +kernel : bootBuiltins "super" = some (.type "super"))) ⟨rfl, ?_⟩)
  refine wpAny_loadName_free rfl (lk3 T.nm) rfl ⟨_, X1 _ _ hcell, rfl⟩ ?_
  refine wpAny_loadName_local rfl rfl hns mself ?_
  refine ks_wpAny_isType_cls hC1 rfl ⟨rfl, ?_⟩
  refine ks_wpAny_call_super hC1 rfl he1 rfl (fun c z => nomatch z) (looks_mroIn X1 T.sC) (fun h2 hso k2 => ?_)
  have X2 : K.In h2 := X1.keeps k2
  have he2 := k2 _ _ he1
  have I2 : InstAt h2 e (excO C t0) C none := ⟨he2, rfl, rfl, trivial⟩
  refine kxs_getMethod kxs_ValueError hso (looks_opaque X2 T.oq) (l₀ := .ref C :: bm) (fun A Q E s k q => wpAny_bind ((looks_clsIn X2 hcl) A _ E s k (wpAny_pure q))) rfl X2 hsu (I2.type.andThen (looks_subIn X2 T.sV)) hx0 (by decide +kernel) ?_
  refine kxs_callWith (i := "ValueError.__init__") (x := e) rfl ?_
  have hns2 := hns.keeps k2
  refine evalArgs_plain (Calls.spliced_cons (ldc rfl (lk2 T.nm) (hns2.keeps fun b o z => Heap.get?_push_of_some _ z) mf (Calls.spliced_nil ⟨Heap.get?_push_size _ rfl, ?_⟩) T.nm.n4))
  have k3 : ∀ b o, h2.get? b = some o → (h2.push (kxs_mw "ValueError.__init__" e)).get? b = some o := fun b o z => Heap.get?_push_of_some _ z
  show wpAny _ _ (call (.ref h2.objs.size) [v]) _ _ _
  refine call_mw (X2.keeps k3 _ _ hC) (k3 _ _ he2) (Heap.get?_push_size _ rfl) (by rw [sizeLine_eq]; exact (by decide : 1 ≤ 16777216)) fun h4 t1 k4 he4 => ?_
  have kall : ∀ b o, b ≠ e → s.heap.get? b = some o → h4.get? b = some o := fun b o hb z => k4 b o hb (k3 b o (k2 b o (kp b o z)))
  have X4 : K.In h4 := fun a o z => kall a o (fun y => by rw [y, hnx] at z; cases z) (X a o z)
  have hL : s.heap.objs.size ≠ e := Nat.ne_of_gt (Heap.lt_size he)
  have hns4 : h4.Ns s.heap.objs.size (fun y => [(("self" : Str), Value.ref e), (f, v)].reverse.lookup y) := by
    obtain ⟨oL, es, ep, hoL, r⟩ := hns2
    exact ⟨oL, es, ep, k4 _ _ hL (k3 _ _ hoL), r⟩
  show _root_.PySem.wpAt _ _ _ (execs [.Assign [.Attribute (.Name "self" r1) f r2] (.Name f r3) r4] _) _ _ _
  refine wpAt_of_wpAny (wpAny_execs_cons (plainObj_wpAny_Assign_Attribute (ldc rfl (lk2 T.nm) hns4 mf (ldc rfl rfl hns4 mself ?_) T.nm.n4)))
  refine set_plain X4 (ox := excO C t1) (od := none) ⟨he4, rfl, rfl, trivial⟩ T.ox.sa ?_
  refine exc_osa X4 he4 hcl (show refsVE (.ref C :: bm) = true from hbm) rfl T.nf (fun h5 tk5 dx k5 dn dne hx5 hn5 => ?_)
  have z1 : s.heap.objs.size ≤ h1.objs.size := Nat.le_of_lt hns.lt
  refine wpAny_execs_nil (hq h5 tk5 dx t1 ⟨fun b o hb z => k5 b o hb (kall b o hb z), hx5, ?_, dne, hn5⟩)
  have z2 := hns4.lt
  exact Nat.le_trans (Nat.le_of_lt z2) dn
/-- a made error -/
structure Made1 (h h' : Heap) (f : Str) (e C d : Addr) (v : Value) : Prop where
  keep : ∀ b o, h.get? b = some o → h'.get? b = some o
  new : h.objs.size ≤ e
  obj : ∃ oe vs, h'.get? e = some oe ∧ oe.cls = .ref C ∧ oe.dict = some d ∧ oe.data = .fields vs ∧ vs[1]? = some .none
  dbig : h.objs.size ≤ d
  dne : d ≠ e
  ns : h'.Ns1 d (fun y => if y = f then some v else none)
theorem made1 (T : Err1 prog K mg x f C fI) {v : Value} (X : K.In s.heap) (hlim : s.heap.NoLimit) (hg : s.heap.Ns mainGlobals mg) (hb : ∃ mb, s.heap.Ns builtinsNs mb ∧ ∀ x : Str, x ≠ "__name__" → mb x = bootBuiltins x) (hroom : A.depth + 1 < recursionLimit)
    (hq : ∀ h' tk e d, Made1 s.heap h' f e C d v → R (.ok (.ret (.ref e))) { s with heap := h', toks := tk }) :
    codeAny (model prog w) A (.call (.ref C) ⟨[v], []⟩) R s := by
  obtain ⟨nm, q, N, bs, bm, sn, sub, ab, col, dd, k0, k1, k2, k3, k5, hC, hbm⟩ := T.ox.cls
  obtain ⟨hp, g, dr, tk, os⟩ := s
  have kp : ∀ b o, hp.get? b = some o → ((hp.push (kdv_tup [v])).push (excO C hp.objs.size)).get? b = some o := fun b o z => Heap.get?_push_of_some _ (Heap.get?_push_of_some _ z)
  have hget : ((hp.push (kdv_tup [v])).push (excO C hp.objs.size)).get? (hp.objs.size + 1) = some (excO C hp.objs.size) := by heap_get
  have hnx : K.lookup (hp.objs.size + 1) = none := by
    cases z : K.lookup (hp.objs.size + 1) with
    | none => rfl
    | some o => exact absurd (Nat.lt_of_succ_lt (Heap.lt_size (X _ _ z))) (Nat.lt_irrefl _)
  refine call_own F.excBase_ValueError (fun Y => refsVE_contains Y bm hbm) (X _ _ hC) (looks_findIn X T.iC) (fun self => bind_fn X self T.tI) (by rw [sizeLine_eq]; exact (by decide : 1 ≤ 16777216)) ?_
  obtain ⟨mb, hb1, hb2⟩ := hb
  refine init1 (s := ⟨(hp.push (kdv_tup [v])).push (excO C hp.objs.size), g, dr, tk, os⟩) T (X.keeps kp) (hlim.keeps kp) (hg.keeps kp) ⟨mb, hb1.keeps kp, hb2⟩ hget hnx ?_ fun h' tk' dx t1 ⟨k', hx, dn, dne, hns⟩ => ?_
  · show A.depth + 1 < recursionLimit
    exact hroom
  · have old : ∀ b o, hp.get? b = some o → h'.get? b = some o := fun b o z => k' b o (Nat.ne_of_lt (Nat.lt_succ_of_lt (Heap.lt_size z))) (kp b o z)
    have z : hp.objs.size + 1 + 1 ≤ dx := by
      have y := dn
      first
        | (rw [Heap.size_push, Heap.size_push] at y; exact y)
        | exact y
    exact ⟨rfl, hq h' tk' (hp.objs.size + 1) dx ⟨old, Nat.le_succ _, ⟨_, _, hx, rfl, rfl, rfl, rfl⟩, Nat.le_trans (Nat.le_trans (Nat.le_succ _) (Nat.le_succ _)) z, dne, hns⟩⟩
end
end Sup
namespace L2
open PySem PySem.Spec PyProof.Rows
theorem relO_one {v : V} {v' : Value} {f : Str} (r : RelV v v') (g : Str) : RelO (List.lookup g [(f, v)]) (if g = f then some v' else none) := by
  by_cases hw : g = f
  · rw [if_pos hw, hw]
    have z : List.lookup f [(f, v)] = some v := by simp [List.lookup]
    rw [z]
    exact r
  · rw [if_neg hw]
    have y : (g == f) = false := by simpa using hw
    have z : List.lookup g [(f, v)] = none := by simp [List.lookup, y]
    rw [z]
    trivial
section
variable {X : Cx} {C fI : Addr} {x f : Str}
/-- E(e) -/
def tMk1 (C : Addr) (f : Str) (ta : TA) : St → Hp → XK → Prop := fun σ H Q => ta σ H fun vs H1 => ∃ v, vs = [v] ∧ ∀ d, H1 d = none → Q (.ref C) (some d) (upd H1 d (.xd [(f, v)]))
theorem pmk_1 {a : Expr} {ta : TA} {p pos : Pos} {k : Nat} (T : Sup.Err1 X.prog X.K X.mg x f C fI) (hr : Room k X.A) (ha : PA X [a] ta) (hg : Gl X x := by rfl) (hdb : (x == ("__debug__" : Str)) = false := by decide)
    (hs : starEach (a :: []) X.env = (false, eval a X.env) :: starEach [] X.env := by rfl) (hpl : (backTo pos (starEach [] X.env)).any (·.1) = false := by rfl) :
    PMk X (.Call (.Name x p) [a] [] pos) (tMk1 C f ta) := by
  intro pins s σ H Q I h
  refine wpAny_Call_Name_kw (ld_glob I hg T.gC ?_ hdb)
  refine PySem.W.callWith_K (h₀ := X.base) I.ok.mod.kin T.ox.kC (thn (ha.run pos pins s σ H _ I h) fun us s1 hh => ?_) hs hpl
  obtain ⟨vs, H1, I1, r1, v, ev, q1⟩ := hh
  subst ev
  refine ⟨I1.kIn, ?_⟩
  cases r1 with
  | cons rv rn =>
    rename_i v' us'
    cases rn
    show wpAny _ _ (call (.ref C) [v']) _ _ _
    have hlim := I1.nolimit
    obtain ⟨mb, hb1, hb2⟩ := I1.mod.blt
    have bk1 := I1.bk
    have gl1 := I1.mod.glob
    obtain ⟨hp, g, dr, tk, os⟩ := s1
    refine wpAny_call (Sup.made1 T I1.kIn hlim (gl1.keeps bk1) ⟨mb, hb1.keeps bk1, hb2⟩ (by have := hr.dp; omega) fun h' tk' e d M => ?_)
    show MkP X pins σ Q (.ref e) ⟨h', g, dr, tk', os⟩
    obtain ⟨oe, fv, hoe, hc, hd, hdat, h1⟩ := M.obj
    have hns := M.ns
    obtain ⟨G', g1, g2⟩ := restrict h' fun b => decide (b ≠ e)
    have gk : ∀ b, b ≠ e → G'.get? b = h'.get? b := fun b hb => g1 b (decide_eq_true hb)
    have ge : G'.get? e = none := g2 e (by simp)
    have old : ∀ b o, hp.get? b = some o → G'.get? b = some o := fun b o z => (gk b (Nat.ne_of_lt (Nat.lt_of_lt_of_le (Heap.lt_size z) M.new))).trans (M.keep b o z)
    have ob : ObjOk X.prog X.w (upd H1 d (.xd [(f, v)])) G' d (.xd [(f, v)]) :=
      ⟨_, hns.at (fun o z => (gk d M.dne).trans z), fun y => relO_one rv y⟩
    have J : Inv X pins σ (upd H1 d (.xd [(f, v)])) ⟨G', g, dr, tk', os⟩ := I1.laid (t' := tk') old M.dbig ob
    refine ⟨e, oe, fv, ⟨G', g, dr, tk', os⟩, _, .ref C, some d, rfl, J, fun b o z => ?_, ge, hoe, ⟨hc, hd⟩, hdat, h1, ?_, rfl, I1.bare, raises_own T.ox.exC T.ox.tyC, q1 d (I1.hok.fresh M.dbig)⟩
    · by_cases hb : b = e
      · have z' : G'.get? b = some o := z
        rw [hb, ge] at z'; cases z'
      · exact (gk b hb).symm.trans z
    · rw [upd_ne (Ne.symm M.dne)]
      exact I1.hok.fresh M.new
/-- raise E(e) -/
def tRaise1 (C : Addr) (f : Str) (W : WX) (ta : TA) : TS := fun _ σ H => tMk1 C f ta σ H fun cls d H' => W cls d σ H'
theorem ps_raise1 {a : Expr} {ta : TA} {W : WX} {p pos pos2 : Pos} {k : Nat} (hc : X.calm = true) (T : Sup.Err1 X.prog X.K X.mg x f C fI) (hr : Room k X.A) (tk : Takes X W) (ha : PA X [a] ta) (hg : Gl X x := by rfl) (hdb : (x == ("__debug__" : Str)) = false := by decide)
    (hs : starEach (a :: []) X.env = (false, eval a X.env) :: starEach [] X.env := by rfl) (hpl : (backTo pos (starEach [] X.env)).any (·.1) = false := by rfl) :
    PS X (.Raise (some (.Call (.Name x p) [a] [] pos)) none pos2) (tRaise1 C f W ta) := ps_raise hc tk (pmk_1 T hr ha hg hdb hs hpl)
end
end L2
/-! Defs by name, the pen. -/
namespace My
open PySem PySem.Spec PyProof.Rows L2
/-- a def of the module that keeps its promise -/
structure DefAt (P : Program) (w : World) (K : PySem.W.Frag) (mg : Str → Option Value) (base : Heap) (CX : CXT) (k : Nat) (x : Str) (ps : List Str) (sp : Sp) : Prop where
  ex : ∃ f fd, FnOk P w K mg base CX k f fd ps sp ∧ mg x = some (.ref f) ∧ PySem.W.keepIn K (.ref f) = true ∧ L2.Binds K fd ps []
structure DefG (P : Program) (w : World) (K : PySem.W.Frag) (mg : Str → Option Value) (base : Heap) (CX : CXT) (k : Nat) (x : Str) (ps : List Str) (sp : Sp) : Prop where
  ex : ∃ f fd, FnG P w K mg base CX k f fd ps sp ∧ mg x = some (.ref f) ∧ PySem.W.keepIn K (.ref f) = true ∧ L2.Binds K fd ps []
section
variable {X : Cx} {CX : CXT} {k : Nat} {ps : List Str} {sp : Sp} {E : XK} {x : Str} {e : Expr} {es : List Expr} {t : TA} {p pos : Pos}
theorem pe_d (D : DefAt X.prog X.w X.K X.mg X.base CX k x ps sp) (hr : Room k X.A) (hg : Gl X x) (hx : Passes CX X E) (ha : PA X (e :: es) t) (hdb : (x == ("__debug__" : Str)) = false := by decide)
    (hs : starEach (e :: es) X.env = (false, eval e X.env) :: starEach es X.env := by rfl) (hpl : (backTo pos (starEach es X.env)).any (·.1) = false := by rfl) : PE X (.Call (.Name x p) (e :: es) [] pos) (tCall sp [] E t) := by
  obtain ⟨f, fd, F, m, hk, b⟩ := D.ex
  exact pe_call F hr hg m hk b .nil hx ha hdb hs hpl
theorem pe_dG (D : DefG X.prog X.w X.K X.mg X.base CX k x ps sp) (hgd : X.A.guards = some []) (hr : Room k X.A) (hg : Gl X x) (hx : Passes CX X E) (ha : PA X (e :: es) t) (hdb : (x == ("__debug__" : Str)) = false := by decide)
    (hs : starEach (e :: es) X.env = (false, eval e X.env) :: starEach es X.env := by rfl) (hpl : (backTo pos (starEach es X.env)).any (·.1) = false := by rfl) : PE X (.Call (.Name x p) (e :: es) [] pos) (tCall sp [] E t) := by
  obtain ⟨f, fd, F, m, hk, b⟩ := D.ex
  exact pe_callG F hgd hr hg m hk b hx ha hdb hs hpl
end
/-- a class of the module that is made by its __init__, some defaults filled up -/
structure MakeAt (P : Program) (w : World) (K : PySem.W.Frag) (mg : Str → Option Value) (base : Heap) (CX : CXT) (k : Nat) (x : Str) (C : Addr) (ps : List Str) (sp : Sp) (dvs : List V) : Prop where
  ex : ∃ f fd ds, Mk K C f ∧ FnOk P w K mg base CX k f fd ps sp ∧ mg x = some (.ref C) ∧ L2.Binds K fd ps ds ∧ Vals dvs ds
structure MethAt (P : Program) (w : World) (K : PySem.W.Frag) (mg : Str → Option Value) (base : Heap) (CX : CXT) (k : Nat) (C : Addr) (m : Str) (ps : List Str) (sp : Sp) : Prop where
  ex : ∃ f fd, Meth K C m f ∧ FnOk P w K mg base CX k f fd ps sp ∧ L2.Binds K fd ps []
/-- .. called with keywords alone: their names ks, gV puts them in the parameters' order -/
structure MethK (P : Program) (w : World) (K : PySem.W.Frag) (mg : Str → Option Value) (base : Heap) (CX : CXT) (k : Nat) (C : Addr) (m : Str) (ps ks : List Str) (sp : Sp) (gV : List V → List V → List V) : Prop where
  ex : ∃ f fd g, Meth K C m f ∧ FnOk P w K mg base CX k f fd ps sp ∧ KBn K fd ps 1 ks g gV
structure CallAt (P : Program) (w : World) (K : PySem.W.Frag) (mg : Str → Option Value) (base : Heap) (CX : CXT) (k : Nat) (C : Addr) (ps : List Str) (sp : Sp) : Prop where
  ex : ∃ f fd, StX.CallO K C f ∧ FnOk P w K mg base CX k f fd ps sp ∧ L2.Binds K fd ps []
section
variable {X : Cx} {CX : CXT} {k : Nat} {C : Addr} {ps ks : List Str} {sp : Sp} {E : XK} {x m : Str} {e o fe : Expr} {es : List Expr} {kws : List Keyword} {t tk : TA} {ta tf : TE} {p pos apos : Pos} {dvs : List V} {gV : List V → List V → List V}
theorem pe_mk (M : MakeAt X.prog X.w X.K X.mg X.base CX k x C ps sp dvs) (hr : Room (k + 1) X.A) (hg : Gl X x) (hx : Passes CX X E) (ha : PA X (e :: es) t) (hdb : (x == ("__debug__" : Str)) = false := by decide)
    (hs : starEach (e :: es) X.env = (false, eval e X.env) :: starEach es X.env := by rfl) (hpl : (backTo pos (starEach es X.env)).any (·.1) = false := by rfl) : PE X (.Call (.Name x p) (e :: es) [] pos) (tMake C sp dvs E t) := by
  obtain ⟨f, fd, ds, mk, F, hm, b, d⟩ := M.ex
  exact pe_make mk F hr hg hm b d hx ha hdb hs hpl
theorem pe_mt {pl : Sem Bool} (c : Cls X.K C) (M : MethAt X.prog X.w X.K X.mg X.base CX k C m ps sp) (hr : Room k X.A) (hx : Passes CX X E) (he : PE X o ta) (ha : PA X (e :: es) t)
    (hst : starEach (e :: es) X.env = (false, eval e X.env) :: starEach es X.env := by rfl) (hpl : (backTo pos (starEach es X.env)).any (·.1) = false := by rfl)
    (ht : eval (.Call (.Attribute o m apos) (e :: es) [] pos) X.env = (do
      let ov ← eval o X.env
      standAt apos.atName
      let (f, first) ← holding [ov] (getMethod ov m pl)
      callWith pos f first (backTo pos (starEach (e :: es) X.env)) (backToKw pos (keywordEach [] X.env))) := by rfl) :
    PE X (.Call (.Attribute o m apos) (e :: es) [] pos) (tMeth C m sp [] E ta t) := by
  obtain ⟨f, fd, hm, F, b⟩ := M.ex
  exact pe_meth he c hm F hr b .nil hx ha hst hpl ht
theorem pe_mt0 {pl : Sem Bool} (c : Cls X.K C) (M : MethAt X.prog X.w X.K X.mg X.base CX k C m ps sp) (hr : Room k X.A) (hx : Passes CX X E) (he : PE X o ta)
    (ht : eval (.Call (.Attribute o m apos) [] [] pos) X.env = (do
      let ov ← eval o X.env
      standAt apos.atName
      let (f, first) ← holding [ov] (getMethod ov m pl)
      callWith pos f first (backTo pos (starEach [] X.env)) (backToKw pos (keywordEach [] X.env))) := by rfl) :
    PE X (.Call (.Attribute o m apos) [] [] pos) (tMeth C m sp [] E ta tNil) := by
  obtain ⟨f, fd, hm, F, b⟩ := M.ex
  exact pe_meth0 he c hm F hr b .nil hx ht
/-- o.m(k = v, ..) -/
def tMethK (C : Addr) (m : Str) (j : Nat) (sp : Sp) (gV : List V → List V → List V) (E : XK) (ta : TE) (tk : TA) : TE := fun σ H Q => ta σ H fun x H1 => ∃ a dx fs, x = .ref a ∧ H1 a = some (.ins C dx fs) ∧ fs.lookup m = none ∧
  tk σ H1 fun zs H2 => zs.length = j ∧ sp (gV [.ref a] zs) H2 Q E
theorem pe_mtK {pl : Sem Bool} (c : Cls X.K C) (M : MethK X.prog X.w X.K X.mg X.base CX k C m ps ks sp gV) (hr : Room k X.A) (hx : Passes CX X E) (he : PE X o ta) (hkw : PK X kws tk)
    (hall : (backToKw pos (keywordEach kws X.env)).all (·.1.isSome) = true := by rfl) (hks : (backToKw pos (keywordEach kws X.env)).filterMap (·.1) = ks := by rfl)
    (hpl : ((backTo pos (starEach [] X.env)).any (·.1) || (backToKw pos (keywordEach kws X.env)).any (·.1.isNone)) = false := by rfl)
    (ht : eval (.Call (.Attribute o m apos) [] kws pos) X.env = (do
      let ov ← eval o X.env
      standAt apos.atName
      let (f, first) ← holding [ov] (getMethod ov m pl)
      callWith pos f first (backTo pos (starEach [] X.env)) (backToKw pos (keywordEach kws X.env))) := by rfl) :
    PE X (.Call (.Attribute o m apos) [] kws pos) (tMethK C m ks.length sp gV E ta tk) := by
  obtain ⟨f, fd, g, hm, F, b⟩ := M.ex
  refine ⟨fun pins s σ H Q I h => ?_⟩
  refine PySem.W.methodCall_KW (pl := pl) (thn (he.run pins s σ H _ I h) fun u s1 ⟨x, H1, I1, rx, a, dx, fs, ex, ea, l, q⟩ => ?_) ht
  subst ex
  obtain rfl : u = Value.ref a := rx
  refine getmeth_ok I1 ea c hm l ?_
  refine PySem.W.callWith_KW0 (first := [.ref a]) (h₀ := X.base) I.ok.mod.kin hm.kp hall (thn (hkw.run pos pins s1 σ H1 _ I1 q) fun ws s2 ⟨zs, H2, I2, rz, l2, q2⟩ => ⟨I2.kIn, ?_⟩) hpl
  rw [hks]
  exact run_fnN (us := [.ref a]) (vs := [.ref a]) F hr b hx I2 (.cons rfl .nil) rz rfl l2 q2
theorem pe_cl (M : CallAt X.prog X.w X.K X.mg X.base CX k C ps sp) (hr : Room k X.A) (hx : Passes CX X E) (hf : PE X fe tf) (ha : PA X (e :: es) t)
    (ht : eval (.Call fe (e :: es) [] pos) X.env = (do callWith pos (← eval fe X.env) [] (backTo pos (starEach (e :: es) X.env)) (backToKw pos (keywordEach [] X.env))) := by rfl)
    (hs : starEach (e :: es) X.env = (false, eval e X.env) :: starEach es X.env := by rfl) (hpl : (backTo pos (starEach es X.env)).any (·.1) = false := by rfl) : PE X (.Call fe (e :: es) [] pos) (StX.tCallO X C sp E tf t) := by
  obtain ⟨f, fd, c, F, b⟩ := M.ex
  refine StX.pe_callO hf c (fun A outer s H us vs Q E hr e0 r hsp => ?_) hr hx ha ht hs hpl
  have hl : (us ++ []).length = ps.length := by rw [List.append_nil, ← r.length]; exact F.len _ _ _ _ hsp
  have hb := b s us (e0.mod.kin.keeps fun b o e => (e0.bs b o e).1) hl
  rw [List.append_nil] at hb
  exact F.run A outer s H ⟨us, []⟩ us vs Q E hr e0 hb r hsp
end
/-- an own comparison -/
structure CmpAt (P : Program) (w : World) (K : PySem.W.Frag) (mg : Str → Option Value) (base : Heap) (CX : CXT) (k : Nat) (C : Addr) (m : Str) (ps : List Str) (sp : Sp) : Prop where
  ex : ∃ f fd, PySem.W.findIn K (.ref C) m = some (some (.ref f)) ∧ PySem.W.isFn K (.ref f) = true ∧ FnOk P w K mg base CX k f fd ps sp ∧ L2.Binds K fd ps []
def rCmpO (K : PySem.W.Frag) (C : Addr) (sp : Sp) (E : XK) : R2 := fun x y H Q => ∃ a dx fs t, x = .ref a ∧ H a = some (.ins C dx fs) ∧ TyX K H y t ∧ PySem.W.notFirst K C t = true ∧ sp [.ref a, y] H Q E
theorem op_cmpO {X : Cx} {CX : CXT} {k : Nat} {C : Addr} {m : Str} {ps : List Str} {sp : Sp} {E : XK} {op : CmpOp} (M : CmpAt X.prog X.w X.K X.mg X.base CX k C m ps sp) (hr : Room k X.A) (hx : Passes CX X E) (hop : (cmpInfo op).2.1 = m := by rfl)
    (hco : ∀ v u, compareOp op v u = richCompare op v u := by intro _ _; rfl) : OpR X (compareOp op) (rCmpO X.K C sp E) := by
  intro pins s σ H x y v u Q I rx ry h
  obtain ⟨f, fd, hs, hf, F, hb⟩ := M.ex
  obtain ⟨a, dx, fs, t, rfl, ha, ty, hn, hsp⟩ := h
  obtain rfl : v = Value.ref a := rx
  obtain ⟨mA, J, _⟩ := ins_get I.hok ha
  obtain ⟨od, J, _⟩ := J.look
  obtain ⟨m', hF⟩ := I.fr
  obtain ⟨Pz, Z, pz, _⟩ := kit_of I ry ty
  rw [hco]
  refine PySem.W.cmp_K (op := op) (tb := t) hr.units0 hF I.ok.mod.kin J (Z.ty _ _ I.kIn pz) hn (by rw [hop]; exact hs) hf ?_
  have hl := F.len _ _ _ _ hsp
  have r2 : Vals [V.ref a, y] [Value.ref a, u] := .cons rfl (.cons ry .nil)
  refine wpAny_call (codeAny_mono (F.run X.A X.stack s H ⟨[.ref a, u], []⟩ [.ref a, u] [.ref a, y] _ E hr I.env0 (by
    have := hb s [.ref a, u] I.kIn (by simpa using hl)
    simpa using this) r2 hsp) fun r s' hq => ?_)
  cases r with
  | error e => exact hx pins σ H s e s' I hq
  | ok fl =>
    cases fl with
    | ret z =>
      have q := I.after hq
      obtain ⟨zv, H', I', rz, q'⟩ := id q
      cases z with
      | notImplemented => cases zv <;> first | (cases rz; done) | (obtain ⟨_, rz⟩ := rz; cases rz)
      | _ => exact q
    | next => exact False.elim hq
    | brk => exact False.elim hq
    | cont => exact False.elim hq
/-! ### the pen: a list of the cells, an index, what is left of a great cell -/
def PenAt (H : Hp) (pn : Addr) (n : Nat) : Prop := ∃ (cl : Addr) (ns : List Int) (at_ rest : Int), H pn = some (.lst [.ref cl, .int at_, .int rest]) ∧ H cl = some (.lst (ns.map V.int)) ∧ ns.length ≤ 63 ∧ 0 ≤ at_ ∧ at_ ≤ n
/-- all but pn stays -/
def But (pn : Addr) (H H' : Hp) : Prop := ∀ b o, H b = some o → b ≠ pn → H' b = some o
theorem But.refl (pn : Addr) (H : Hp) : But pn H H := fun _ _ h _ => h
theorem But.trans {pn : Addr} {H H1 H2 : Hp} (a : But pn H H1) (b : But pn H1 H2) : But pn H H2 := fun c o h n => b c o (a c o h n) n
theorem But.new {pn p : Addr} {H : Hp} {o : HO} (h : H p = none) : But pn H (upd H p o) := fun b u e _ => by rw [upd_ne (ne_of_none e h)]; exact e
theorem But.put {pn : Addr} {H : Hp} {o : HO} : But pn H (upd H pn o) := fun b u e n => by rw [upd_ne n]; exact e
theorem pen_new {H : Hp} {pn p : Addr} {n : Nat} {o : HO} (h : PenAt H pn n) (hp : H p = none) : PenAt (upd H p o) pn n := by
  obtain ⟨cl, ns, a, r, h1, h2, h3⟩ := h
  exact ⟨cl, ns, a, r, by rw [upd_ne (ne_of_none h1 hp)]; exact h1, by rw [upd_ne (ne_of_none h2 hp)]; exact h2, h3⟩
theorem PenAt.le {H : Hp} {pn : Addr} {n m : Nat} (h : PenAt H pn n) (le : n ≤ m) : PenAt H pn m := by
  obtain ⟨cl, ns, a, r, h1, h2, h3, h4, h5⟩ := h
  exact ⟨cl, ns, a, r, h1, h2, h3, h4, by omega⟩
def spDraw : Sp := fun vs H Q _ => ∃ (pn : Addr) (m : Int) (n : Nat), vs = [.ref pn, .int m] ∧ 0 < m ∧ m.natAbs.log2 < 9000 ∧ PenAt H pn n ∧ n < 100000 ∧
  ∀ (d : Int) (H' : Hp), 0 ≤ d → d < m → PenAt H' pn (n + 1) → But pn H H' → Q (.int d) H'
/-- pick(pen, some): one of some -/
def spPick : Sp := fun vs H Q _ => ∃ (pn l : Addr) (n : Nat) (xs : List V), vs = [.ref pn, .ref l] ∧ H l = some (.lst xs) ∧ l ≠ pn ∧ 0 < xs.length ∧ xs.length ≤ 1000 ∧ PenAt H pn n ∧ n < 100000 ∧
  ∀ (v : V) (H' : Hp), v ∈ xs → PenAt H' pn (n + 1) → But pn H H' → Q v H'
def spPen (K : PySem.W.Frag) : Sp := fun vs H Q _ => ∃ (a : Addr) (ns : List Int), vs = [.ref a] ∧ SqL K H a (ns.map V.int) ∧
  ∀ (pn : Addr) (H' : Hp), H pn = none → PenAt H' pn 0 → Same H H' → Q (.ref pn) H'
/-! ### lists of ints as data -/
theorem dp_ints {K : PySem.W.Frag} {H : Hp} : ∀ ns : List Int, DpAll K H (ns.map V.int) (ns.map PyData.int)
  | [] => .nil
  | n :: ns => .cons (.int n) (dp_ints ns)
theorem lay_ints : ∀ ns : List Int, PyData.canLayAll0 (ns.map PyData.int) = true
  | [] => rfl
  | n :: ns => by
    show (true && PyData.canLayAll0 (ns.map PyData.int)) = true
    rw [lay_ints ns]
    rfl
theorem dep_ints : ∀ ns : List Int, PyData.depthAll (ns.map PyData.int) = 0
  | [] => rfl
  | n :: ns => by
    show max 0 (PyData.depthAll (ns.map PyData.int)) = 0
    rw [dep_ints ns]
    rfl
theorem shaped_ints (ns : List Int) : SeqAt.shaped (.list (ns.map PyData.int)) = true := by
  show (PyData.canLayAll0 (ns.map PyData.int) && decide (PyData.depthAll (ns.map PyData.int) + 1 ≤ 64)) = true
  rw [lay_ints, dep_ints]
  rfl
theorem pow_lt {i : Int} {b : Nat} (h0 : 0 ≤ i) (h : i < 2 ^ b) : i.natAbs < 2 ^ b := by
  have e : ((2 ^ b : Nat) : Int) = (2 : Int) ^ b := by simp
  omega
theorem mix_lt {x a c d e : Int} (x0 : 0 ≤ x) (x1 : x < 2147483648) (a0 : 0 ≤ a) (a1 : a < 100000) (c0 : 0 ≤ c) (c1 : c ≤ 1000) (d0 : 0 ≤ d) (d1 : d ≤ 100000) (e0 : 0 ≤ e) (e1 : e ≤ 100000) : (x * (2 * a + c) + d * a * a + e).natAbs < 2 ^ 64 := by
  have h1 : x * (2 * a + c) ≤ 2147483648 * 201000 := Int.mul_le_mul (by omega) (by omega) (by omega) (by decide)
  have h2 : 0 ≤ x * (2 * a + c) := Int.mul_nonneg x0 (by omega)
  have h3 : d * a ≤ 100000 * 100000 := Int.mul_le_mul d1 (by omega) a0 (by decide)
  have h4 : 0 ≤ d * a := Int.mul_nonneg d0 a0
  have h5 : d * a * a ≤ (100000 * 100000) * 100000 := Int.mul_le_mul h3 (by omega) a0 (by decide)
  have h6 : 0 ≤ d * a * a := Int.mul_nonneg h4 a0
  generalize x * (2 * a + c) = y at *
  generalize d * a * a = z at *
  refine pow_lt (by omega) (by omega)
theorem cut_ints (ns : List Int) (k : Nat) : cutV (ns.map V.int) none (some (k : Int)) = (ns.take k).map V.int := by
  unfold cutV
  rw [HT.sIx_none, HT.sIx_nat, List.drop_zero, Nat.sub_zero, List.map_take, List.length_map]
  by_cases h : k ≤ ns.length
  · rw [Nat.min_eq_left h]
  · rw [Nat.min_eq_right (by omega), List.take_of_length_le (by rw [List.length_map]; exact Nat.le_refl _), List.take_of_length_le (by rw [List.length_map]; omega)]
/-- names that are still the built-in ones -/
structure BI (mg : Str → Option Value) : Prop where
  z_len : mg "len" = none
  z_abs : mg "abs" = none
  z_int : mg "int" = none
  z_bool : mg "bool" = none
  z_list : mg "list" = none
  z_repr : mg "repr" = none
  z_isinstance : mg "isinstance" = none
  z_range : mg "range" = none
end My
/-! The end of a law whose def shows containers: a def that keeps its promise where nothing is being shown. -/
namespace My
open PySem PySem.Spec PyProof.Rows L2
/-- the heap h at the law's start as the walk sees it: the script's list at a, the tables of code objects -/
structure Begin (P : Program) (w : World) (K : PySem.W.Frag) (cs : List (Addr × Addr)) (a : Addr) (ns : List Int) (H : Hp) (h : Heap) : Prop where
  tbl : ∀ p ∈ cs, H p.2 = some (.tbl #[])
  kind : ∀ b, H b = none ∨ b ∈ cs.map (·.2) ∨ ∃ o xs, H b = some (.frz o (.lst xs))
  seq : SqL K H a (ns.map V.int)
  ok : HOk P w H h
  only : ∀ b, H b ≠ none → b = a ∨ b ∈ cs.map (·.2)
  out : H a ≠ none → K.lookup a = none
/-- what is known of a table and its code object -/
structure TabF (K : PySem.W.Frag) (h : Heap) (p : Addr × Addr) : Prop where
  get : h.get? p.2 = some { cls := .none, data := .fields #[] }
  out : K.lookup p.2 = none
  hd : PySem.W.CodeHd h p.1 p.2
def Goal (l : Program) (w : World) (fa a : Addr) (s₁ : Shared) : Prop := codeAny (model l w) callerA (.call (.ref fa) ⟨[.ref a], []⟩) (fun r s' => r = .ok (.ret (.bool true)) ∧ OldK s₁.heap s'.heap ∧ s'.os = s₁.os ∧ AllBare s'.gens) s₁
theorem tab_get {K : PySem.W.Frag} {h : Heap} {cs : List (Addr × Addr)} (t : ∀ p ∈ cs, TabF K h p) {b : Addr} (hb : b ∈ cs.map (·.2)) : h.get? b = some { cls := .none, data := .fields #[] } := by
  obtain ⟨p, hp, rfl⟩ := List.mem_map.mp hb
  exact (t p hp).get
section
variable {P : Program} {w : World} {K : PySem.W.Frag} {mg mb : Str → Option Value} {k : Nat} {fa a : Addr} {cs : List (Addr × Addr)} {fd : FuncData} {x : Str} {sp : Sp} {s₁ : Shared} {vs : List Value} {ns : List Int}
theorem from_begin {H : Hp} (B : Begin P w K cs a ns H s₁.heap) (hK : K.In s₁.heap) (gN : s₁.heap.Ns mainGlobals mg) (bN : s₁.heap.Ns builtinsNs mb) (bB : ∀ x : Str, x ≠ "__name__" → mb x = bootBuiltins x) (lim : s₁.heap.NoLimit) (gens : s₁.gens = #[])
    (ts : ∀ p ∈ cs, TabF K s₁.heap p) (mB : ∃ (bm : Addr) (ob : Obj), mg "__builtins__" = some (.ref bm) ∧ bm ≠ builtinsNs ∧ s₁.heap.get? bm = some ob ∧ ob.cls = .type "module" ∧ ob.dict = some builtinsNs ∧ ob.data = .plain)
    (la : s₁.heap.get? a = some { cls := .type "list", data := .seq vs.toArray }) (hr : Room k callerA)
    (F : ∀ base : Heap, K.In base → base.Ns mainGlobals mg → (∀ p ∈ cs, LamX.TabB base mg p.1 p.2) → FnG P w K mg base CX0 k fa fd [x] sp) (bd : ∀ (s : Shared) (u : Value), BindsTo s fd ⟨[u], []⟩ [(x, u)])
    (go : sp [.ref a] H (fun v _ => v = .bl true) fun _ _ _ => False) : Goal P w fa a s₁ := by
  have away : ∀ {b : Addr} {o : Obj}, s₁.heap.get? b = some o → (∀ ys n, o.data ≠ .seq ys n) → o.data ≠ .fields #[] → H b = none := fun {b o} e n1 n2 => by
    by_cases q : H b = none
    · exact q
    · exfalso
      rcases B.only b q with rfl | hb
      · rw [la] at e
        injection e with e
        subst e
        exact n1 _ _ rfl
      · rw [tab_get ts hb] at e
        injection e with e
        subst e
        exact n2 rfl
  have seen : ∀ {b : Addr} {o : Obj}, s₁.heap.get? b = some o → H b = none → (hidT s₁.heap H).get? b = some o := fun e n => hidT_get e n
  have nsOf : ∀ {b : Addr} {m : Str → Option Value}, s₁.heap.Ns b m → (hidT s₁.heap H).Ns b m := fun {b m} ⟨o, es, ep, e, d, r⟩ =>
    ⟨o, es, ep, seen e (away e (fun ys n z => by rw [d] at z; cases z) (fun z => by rw [d] at z; cases z)), d, r⟩
  have inK : K.In (hidT s₁.heap H) := fun b o e => by
    refine seen (hK b o e) ?_
    by_cases q : H b = none
    · exact q
    · exfalso
      rcases B.only b q with rfl | hb
      · rw [B.out q] at e
        cases e
      · obtain ⟨p, hp, rfl⟩ := List.mem_map.mp hb
        rw [(ts p hp).out] at e
        cases e
  have modK : L2.Mod K mg (hidT s₁.heap H) := ⟨inK, nsOf gN, ⟨mb, nsOf bN, bB⟩, let ⟨mc, h1, h2⟩ := lim; ⟨mc, nsOf h1, h2⟩⟩
  have tabs : ∀ p ∈ cs, LamX.TabB (hidT s₁.heap H) mg p.1 p.2 := fun p hp => by
    have tp := ts p hp
    refine ⟨?_, ?_, fun z => ?_⟩
    · obtain ⟨o, us, file, tf, flags, tg, inF, text, tt, e1, r1, r2, r3, rs⟩ := tp.hd
      exact ⟨o, us, file, tf, flags, tg, inF, text, tt, seen e1 (away e1 (fun ys n z => by rw [r2] at z; cases z) (fun z => by rw [r2] at z; cases z; simp at r3)), r1, r2, r3, rs⟩
    · obtain ⟨bm, ob, m1, m2, m3, m4, m5, m6⟩ := mB
      refine ⟨bm, ob, m1, m2, fun z => ?_, fun z => ?_, seen m3 (away m3 (fun ys n z => by rw [m6] at z; cases z) (fun z => by rw [m6] at z; cases z)), m4, m5, m6⟩
      · obtain ⟨o, es, ep, e, hd, _⟩ := gN
        rw [z, e] at m3
        cases m3
        rw [hd] at m6
        cases m6
      · rw [z, tp.get] at m3
        cases m3
        cases m6
    · obtain ⟨o, es, ep, e, hd, _⟩ := gN
      rw [z, tp.get] at e
      cases e
      cases hd
  have env0 : Env0 P w K mg (hidT s₁.heap H) callerA [] s₁ H := ⟨rfl, modK, fun b o e => of_hidT e, Nat.le_of_eq (hidT_size _ _), trivial, fun b hb => absurd (show b ∈ ([] : List Addr) from hb) (by simp), B.ok, .of_eq gens⟩
  unfold Goal
  refine codeAny_mono ((F _ inK (nsOf gN) tabs).run callerA [] s₁ H ⟨[.ref a], []⟩ [.ref a] [.ref a] _ _ rfl hr env0 (bd s₁ (.ref a)) (.cons rfl .nil) go) fun r s' done => ?_
  match r, done with
  | .error e, z => exact False.elim z
  | .ok .next, z => exact False.elim z
  | .ok .brk, z => exact False.elim z
  | .ok .cont, z => exact False.elim z
  | .ok (.ret u), ⟨v, H', os, bare, un, ok', r', q⟩ =>
    have q2 : v = .bl true := q
    subst q2
    have q3 : u = Value.bool true := r'
    subst q3
    have stays : ∀ b o, b ∉ cs.map (·.2) → s₁.heap.get? b = some o → s'.heap.get? b = some o := fun b o nb e => by
      rcases B.kind b with z | z | ⟨ob, xs, z⟩
      · exact un.keep b o e z (by intro z; exact absurd (show b ∈ ([] : List Addr) from z) (by simp)) (by simp)
      · exact absurd z nb
      · obtain ⟨e1, _⟩ := B.ok b _ z
        obtain ⟨e2, _⟩ := ok' b _ (un.frzs b ob _ z)
        rw [e] at e1
        cases e1
        exact e2
    have more : ∀ p ∈ cs, ∃ ys : Array Value, s'.heap.get? p.2 = some { cls := .none, data := .fields ys } := fun p hp => by
      obtain ⟨ys, z⟩ := un.tbls p.2 #[] (B.tbl p hp)
      exact ⟨_, ok' p.2 _ z⟩
    refine ⟨rfl, ⟨fun b o e => ?_, fun b o e => ?_⟩, os, bare⟩
    · by_cases hb : b ∈ cs.map (·.2)
      · obtain ⟨p, hp, rfl⟩ := List.mem_map.mp hb
        obtain ⟨ys, hm⟩ := more p hp
        rw [(ts p hp).get] at e
        cases e
        exact .inr (.inl ⟨((ts p hp).hd.tab (ts p hp).get).isCodeTable, rfl, #[], ys, rfl, by rw [Array.empty_append]; exact hm⟩)
      · exact .inl (stays b o hb e)
    · by_cases hb : b ∈ cs.map (·.2)
      · obtain ⟨p, hp, rfl⟩ := List.mem_map.mp hb
        obtain ⟨ys, hm⟩ := more p hp
        exact ⟨_, hm⟩
      · exact ⟨o, stays b o hb e⟩
/-- such a beginning is to be had -/
theorem begins (hK : K.In s₁.heap) (ts : ∀ p ∈ cs, TabF K s₁.heap p) (la : s₁.heap.get? a = some { cls := .type "list", data := .seq vs.toArray }) (hi : IntsAre vs ns) (hl : ns.length ≤ sizeLine) : ∃ H, Begin P w K cs a ns H s₁.heap := by
  have nt : a ∉ cs.map (·.2) := fun z => by
    have q := tab_get ts z
    rw [la] at q
    injection q with q
    injection q with _ _ q _
    cases q
  have rv := vals_ints hi
  let O : Option HO := if (K.lookup a).isSome = true then none else some (.frz { cls := .type "list", data := .seq vs.toArray } (.lst (ns.map V.int)))
  have atT : ∀ b, b ∈ cs.map (·.2) → (if b ∈ cs.map (·.2) then some (HO.tbl #[]) else if b = a then O else none) = some (HO.tbl #[]) := fun b h => if_pos h
  have atA : (if a ∈ cs.map (·.2) then some (HO.tbl #[]) else if a = a then O else none) = O := (if_neg nt).trans (if_pos rfl)
  have atN : ∀ b, b ∉ cs.map (·.2) → b ≠ a → (if b ∈ cs.map (·.2) then some (HO.tbl #[]) else if b = a then O else none) = none := fun b h1 h2 => (if_neg h1).trans (if_neg h2)
  refine ⟨fun b => if b ∈ cs.map (·.2) then some (.tbl #[]) else if b = a then O else none, fun p hp => atT _ (List.mem_map.mpr ⟨p, hp, rfl⟩), fun b => ?_, ?_, fun b u z => ?_, fun b z => ?_, fun z => ?_⟩
  · by_cases h1 : b ∈ cs.map (·.2)
    · exact .inr (.inl h1)
    · by_cases h2 : b = a
      · subst h2
        by_cases h3 : (K.lookup b).isSome = true
        · exact .inl (atA.trans (if_pos h3))
        · exact .inr (.inr ⟨_, _, atA.trans (if_neg h3)⟩)
      · exact .inl (atN b h1 h2)
  · cases h3 : K.lookup a with
    | none =>
      refine .inl (.inr ⟨_, atA.trans (if_neg ?_)⟩)
      rw [h3]
      exact Bool.noConfusion
    | some o =>
      have e := hK a o h3
      rw [la] at e
      cases e
      exact .inr ⟨_, vs.toArray, _, h3, rfl, rfl, rfl, by rw [List.size_toArray, hi.length]; exact hl, by simpa using rv⟩
  · by_cases h1 : b ∈ cs.map (·.2)
    · have z' := (atT b h1).symm.trans z
      cases z'
      exact tab_get ts h1
    · by_cases h2 : b = a
      · subst h2
        have z' := atA.symm.trans z
        by_cases h3 : (K.lookup b).isSome = true
        · have z2 := (if_pos h3).symm.trans z'
          cases z2
        · have z2 := (if_neg h3).symm.trans z'
          cases z2
          exact ⟨la, by rw [List.length_map]; exact hl, vs, _, rv, la⟩
      · have z' := (atN b h1 h2).symm.trans z
        cases z'
  · by_cases h1 : b ∈ cs.map (·.2)
    · exact .inr h1
    · by_cases h2 : b = a
      · exact .inl h2
      · exact absurd (atN b h1 h2) z
  · cases h3 : K.lookup a with
    | none => rfl
    | some o => exact absurd (atA.trans (if_pos (by rw [h3]; rfl))) z
end
/-- what is known of the law's promise at the head's heap h; TF: what the top says of the tables -/
def LawG (l : PySem.W.OpenLaw) (w : World) (K : PySem.W.Frag) (k n : Nat) (x : Str) (mg : Str → Option Value) (fa : Addr) (h : Heap) : Prop :=
  ∃ (fd : FuncData) (cs : List (Addr × Addr)) (sp : Sp), (∀ p ∈ cs, TabF K h p) ∧ (∀ (s : Shared) (u : Value), BindsTo s fd ⟨[u], []⟩ [(x, u)]) ∧
    (∀ (H : Hp) (a : Addr) (ns : List Int), ns.length ≤ n → (∀ z ∈ ns, Builtin.Int.intBits z ≤ 1048576) → (∀ p ∈ cs, H p.2 = some (.tbl #[])) → SqL K H a (ns.map V.int) → sp [.ref a] H (fun v _ => v = .bl true) fun _ _ _ => False) ∧
    ∀ base : Heap, K.In base → base.Ns mainGlobals mg → (∀ p ∈ cs, LamX.TabB base mg p.1 p.2) → FnG l.prog w K mg base CX0 k fa fd [x] sp
theorem walk_G {l : PySem.W.OpenLaw} {n k : Nat} {q : Program} {loose : List Str} {XP : (Str → Option Value) → Heap → Prop} {YP : World → Heap → Prop} {d : DefRec} {K : Params → PySem.W.Frag} {x : Str}
    (hn : l.most = some n) (hn2 : n ≤ sizeLine) (hdf : d.params.defaults = []) (hr : Room k callerA) (hY : ∀ (w : World) (h : Heap), YP w h → (K w.params).In h)
    (F : ∀ (w : World) (mg : Str → Option Value) (fa : Addr) (h : Heap), YP w h → (K w.params).In h → h.Ns mainGlobals mg → mg d.name = some (.ref fa) →
      (∀ (y : Str) (c T : Addr), ((recsOf q).any fun e => e.name == y) = true → PySem.W.tabIn (K w.params) y = some (c, T) → (K w.params).lookup T = none → TabF (K w.params) h (c, T)) → LawG l w (K w.params) k n x mg fa h) :
    PySem.W.WalkO q loose XP YP l.row.toRowW d [] (fun f vs => PySem.call f vs) := by
  refine Att.attach_callB hn hdf fun w s₀ s₁ mg mb fa o pm cd doc a vs ns G Y ho hd hcd hmg hobj hints hlen hbits hg => ?_
  have KX := hY w _ Y
  obtain ⟨fd, cs, sp, ts, hb, hsp, hF⟩ := F w mg fa _ Y KX G.T.g hmg fun y c T hrec hT hN => by
    obtain ⟨e, he⟩ := Option.isSome_iff_exists.mp (show ((recsOf q).find? fun e => e.name == y).isSome = true by rw [List.find?_isSome]; obtain ⟨e, h1, h2⟩ := List.any_eq_true.mp hrec; exact ⟨e, h1, h2⟩)
    obtain ⟨h1, h2⟩ := PySem.W.tab_of G.T KX he hT
    exact ⟨h2, hN, h1⟩
  obtain ⟨H, B⟩ := begins (P := l.prog) (w := w) KX ts hobj hints (Nat.le_trans hlen hn2)
  exact from_begin B KX G.T.g G.T.b G.T.builtins G.T.nolimit hg ts G.T.bmain hobj hr hF hb (hsp H a ns hlen hbits B.tbl B.seq)
end My
/-! What the top has written, by name. -/
namespace My
open PySem PySem.Spec PyProof.Rows L2
/-- the module has the def -/
structure Has (K : PySem.W.Frag) (mg : Str → Option Value) (x : Str) (st : Stmt) : Prop where
  ex : ∃ f fd, mg x = some (.ref f) ∧ Fun K x x st f fd
/-- a def that makes functions, its code object at c -/
structure HasC (K : PySem.W.Frag) (mg : Str → Option Value) (x : Str) (st : Stmt) (c : Addr) : Prop where
  ex : ∃ (f : Addr) (oc : Value) (od : Option Addr) (kV doc pm : Value) (an : Option Addr) (ct : Value) (osl : Array (Option Value)), mg x = some (.ref f) ∧
    K.lookup f = some ⟨oc, od, .func (PySem.W.fnOf x x (defArgs st) (defBody st) (defScope st) .none kV doc pm an (.ref c) ct), osl⟩ ∧ PySem.W.codeIn K (.ref c) x = true ∧ PySem.W.keepIn K (.ref f) = true
/-- the class has the method -/
structure HasM (K : PySem.W.Frag) (C : Addr) (m qual : Str) (st : Stmt) : Prop where
  ex : ∃ f fd, PySem.W.findIn K (.ref C) m = some (some (.ref f)) ∧ PySem.W.isFn K (.ref f) = true ∧ Fun K m qual st f fd
/-- the class has the method, with defaults -/
structure HasD (K : PySem.W.Frag) (C : Addr) (m qual : Str) (st : Stmt) (dvs : List V) (kws : List (Str × V)) : Prop where
  ex : ∃ f fd, PySem.W.findIn K (.ref C) m = some (some (.ref f)) ∧ PySem.W.isFn K (.ref f) = true ∧ FunD K m qual (defArgs st) (defBody st) (defScope st) dvs kws f fd
section
variable {P : Program} {w : World} {K : PySem.W.Frag} {mg : Str → Option Value} {base : Heap} {CX : CXT} {k : Nat} {x m qual : Str} {st : Stmt} {ps ks : List Str} {sp : Sp} {C c : Addr}
def BindW (x qual : Str) (st : Stmt) (ps : List Str) : Prop := ∀ (kV doc pm : Value) (an : Option Addr) (cdv ct : Value) (us : List Value), us.length = ps.length → bindArgs (PySem.W.fnOf x qual (defArgs st) (defBody st) (defScope st) .none kV doc pm an cdv ct) ⟨us, []⟩ = pure (ps.zip us)
theorem def_at (A : Has K mg x st) (ok : ∀ f fd, Fun K x x st f fd → FnOk P w K mg base CX k f fd ps sp) (b : BindW x x st ps) : DefAt P w K mg base CX k x ps sp := by
  obtain ⟨f, fd, h1, F⟩ := A.ex
  exact ⟨f, fd, ok f fd F, h1, F.kp, F.binds b⟩
theorem def_atG (A : Has K mg x st) (ok : ∀ f fd, Fun K x x st f fd → FnG P w K mg base CX k f fd ps sp) (b : BindW x x st ps) : DefG P w K mg base CX k x ps sp := by
  obtain ⟨f, fd, h1, F⟩ := A.ex
  exact ⟨f, fd, ok f fd F, h1, F.kp, F.binds b⟩
theorem meth_at (A : HasM K C m qual st) (ok : ∀ f fd, Fun K m qual st f fd → FnOk P w K mg base CX k f fd ps sp) (b : BindW m qual st ps) : MethAt P w K mg base CX k C m ps sp := by
  obtain ⟨f, fd, h1, h2, F⟩ := A.ex
  exact ⟨f, fd, ⟨h1, h2, F.kp⟩, ok f fd F, F.binds b⟩
theorem call_at (A : HasM K C "__call__" qual st) (ok : ∀ f fd, Fun K "__call__" qual st f fd → FnOk P w K mg base CX k f fd ps sp) (b : BindW "__call__" qual st ps) : CallAt P w K mg base CX k C ps sp := by
  obtain ⟨f, fd, h1, h2, F⟩ := A.ex
  obtain ⟨oc, od, kV, doc, pm, an, cdv, ct, osl, e, lk, _⟩ := F.ex
  refine ⟨f, fd, ⟨h1, h2, ?_⟩, ok f fd F, F.binds b⟩
  unfold PySem.W.fnIn
  rw [lk]
theorem cmp_at (A : HasM K C m qual st) (ok : ∀ f fd, Fun K m qual st f fd → FnOk P w K mg base CX k f fd ps sp) (b : BindW m qual st ps) : CmpAt P w K mg base CX k C m ps sp := by
  obtain ⟨f, fd, h1, h2, F⟩ := A.ex
  exact ⟨f, fd, h1, h2, ok f fd F, F.binds b⟩
/-- called with keywords alone -/
theorem methK_at {gV : List V → List V → List V} {g : List Value → List Value → List Value} (A : HasM K C m qual st) (ok : ∀ f fd, Fun K m qual st f fd → FnOk P w K mg base CX k f fd ps sp)
    (b : ∀ (kV doc pm : Value) (an : Option Addr) (cdv ct : Value) (us ws : List Value), us.length = 1 → ws.length = ks.length → bindArgs (PySem.W.fnOf m qual (defArgs st) (defBody st) (defScope st) .none kV doc pm an cdv ct) ⟨us, ks.zip ws⟩ = pure (ps.zip (g us ws)))
    (r : ∀ {vs : List V} {us : List Value} {zs : List V} {ws : List Value}, Vals vs us → Vals zs ws → Vals (gV vs zs) (g us ws)) : MethK P w K mg base CX k C m ps ks sp gV := by
  obtain ⟨f, fd, h1, h2, F⟩ := A.ex
  obtain ⟨oc, od, kV, doc, pm, an, cdv, ct, osl, rfl, lk, hcd⟩ := id F.ex
  exact ⟨f, _, g, ⟨h1, h2, F.kp⟩, ok f _ F, ⟨fun s us ws _ l1 l2 => .of_eq (b kV doc pm an cdv ct us ws l1 l2), r⟩⟩
/-- the class is made with all its arguments -/
theorem make_all {dvs : List V} (A : HasD K C "__init__" qual st dvs []) (hx : mg x = some (.ref C)) (mk : PySem.W.makesIn K C = true) (kp : PySem.W.keepIn K (.ref C) = true) (ok : ∀ f fd, FunD K "__init__" qual (defArgs st) (defBody st) (defScope st) dvs [] f fd → FnOk P w K mg base CX k f fd ps sp) (hd : dvs ≠ [])
    (b : ∀ (T : Addr) (kV doc pm : Value) (an : Option Addr) (cdv ct : Value) (us its : List Value), us.length = ps.length → its.length = dvs.length →
      ∃ k, bindArgs (PySem.W.fnOf "__init__" qual (defArgs st) (defBody st) (defScope st) (.ref T) kV doc pm an cdv ct) ⟨us, []⟩ = seqItems? (.ref T) >>= k ∧ k (some its.toArray) = pure (ps.zip (us ++ its.drop dvs.length))) : MakeAt P w K mg base CX k x C ps sp [] := by
  obtain ⟨f, fd, h1, h2, F⟩ := A.ex
  obtain ⟨ds, r, bs⟩ := F.binds1 ps.length dvs.length hd (by omega) b
  rw [List.drop_length] at r
  exact ⟨f, fd, ds, ⟨mk, h1, h2, kp⟩, ok f fd F, hx, bs, r⟩
end
end My
/-! Ints beside instances: the int's own slots decline. -/
namespace My
open PySem PySem.Spec PyProof.Rows
def Plain (h : Heap) (l : Addr) : Prop := ∃ (c : Value) (d : Option Addr) (sl : Array (Option Value)), h.get? l = some { cls := c, dict := d, data := .plain, slots := sl }
def Declines (B : Builtin) (a : Int) (t : Tok) (l : Addr) : Prop := Meets (B ⟨[.int a t, .ref l], []⟩) fun _ R s => Plain s.heap l ∧ R (.ok (.ret Value.notImplemented)) s
theorem dec_add (a : Int) (t : Tok) (l : Addr) : Declines Builtin.«int.__add__» a t l :=
  .of_wp fun prog w A R s h => by obtain ⟨hp, g, d, tk, os⟩ := s; obtain ⟨⟨c, dd, sl, hl⟩, h⟩ := h; wp_walk; exact ⟨_, rfl, h⟩
theorem dec_sub (a : Int) (t : Tok) (l : Addr) : Declines Builtin.«int.__sub__» a t l :=
  .of_wp fun prog w A R s h => by obtain ⟨hp, g, d, tk, os⟩ := s; obtain ⟨⟨c, dd, sl, hl⟩, h⟩ := h; wp_walk; exact ⟨_, rfl, h⟩
theorem dec_mul (a : Int) (t : Tok) (l : Addr) : Declines Builtin.«int.__mul__» a t l :=
  .of_wp fun prog w A R s h => by obtain ⟨hp, g, d, tk, os⟩ := s; obtain ⟨⟨c, dd, sl, hl⟩, h⟩ := h; wp_walk; exact ⟨_, rfl, h⟩
theorem dec_floordiv (a : Int) (t : Tok) (l : Addr) : Declines Builtin.«int.__floordiv__» a t l :=
  .of_wp fun prog w A R s h => by obtain ⟨hp, g, d, tk, os⟩ := s; obtain ⟨⟨c, dd, sl, hl⟩, h⟩ := h; wp_walk; exact ⟨_, rfl, h⟩
theorem dec_mod (a : Int) (t : Tok) (l : Addr) : Declines Builtin.«int.__mod__» a t l :=
  .of_wp fun prog w A R s h => by obtain ⟨hp, g, d, tk, os⟩ := s; obtain ⟨⟨c, dd, sl, hl⟩, h⟩ := h; wp_walk; exact ⟨_, rfl, h⟩
theorem dec_lt (a : Int) (t : Tok) (l : Addr) : Declines Builtin.«int.__lt__» a t l :=
  .of_wp fun prog w A R s h => by obtain ⟨hp, g, d, tk, os⟩ := s; obtain ⟨⟨c, dd, sl, hl⟩, h⟩ := h; wp_walk; exact ⟨_, rfl, h⟩
theorem dec_le (a : Int) (t : Tok) (l : Addr) : Declines Builtin.«int.__le__» a t l :=
  .of_wp fun prog w A R s h => by obtain ⟨hp, g, d, tk, os⟩ := s; obtain ⟨⟨c, dd, sl, hl⟩, h⟩ := h; wp_walk; exact ⟨_, rfl, h⟩
theorem dec_gt (a : Int) (t : Tok) (l : Addr) : Declines Builtin.«int.__gt__» a t l :=
  .of_wp fun prog w A R s h => by obtain ⟨hp, g, d, tk, os⟩ := s; obtain ⟨⟨c, dd, sl, hl⟩, h⟩ := h; wp_walk; exact ⟨_, rfl, h⟩
theorem dec_ge (a : Int) (t : Tok) (l : Addr) : Declines Builtin.«int.__ge__» a t l :=
  .of_wp fun prog w A R s h => by obtain ⟨hp, g, d, tk, os⟩ := s; obtain ⟨⟨c, dd, sl, hl⟩, h⟩ := h; wp_walk; exact ⟨_, rfl, h⟩
theorem dec_eq (a : Int) (t : Tok) (l : Addr) : Declines Builtin.«int.__eq__» a t l :=
  .of_wp fun prog w A R s h => by obtain ⟨hp, g, d, tk, os⟩ := s; obtain ⟨⟨c, dd, sl, hl⟩, h⟩ := h; wp_walk; exact ⟨_, rfl, h⟩
end My
/-! Own operators: an instance beside an instance, beside an int, an int beside it, in place, the sign. -/
namespace My
open PySem PySem.Spec PySem.Calls PyProof.Rows L2
section
open PySem.W
variable {prog : Program} {w : World} {A : Around} {E : Value → Shared → Prop} {s : Shared} {K : Frag} {x C L f f0 : Addr} {h₀ : Heap} {m : Str → Option Value} {ox : Obj} {od : Option Obj}
/-- what is known of the int's slot -/
structure IntSlot (K : Frag) (nm : String) (id : String) (B : Builtin) : Prop where
  slot : Slot "int" (PySem.dunder nm) id
  entry : entryFor table id = some B
  args : ∀ a b : Value, argsOk id ⟨[a, b], []⟩
  dec : ∀ a t l, Declines B a t l
theorem int_plain (i : Int) (t : Tok) (s : Shared) : s.TypeIs (.int i t) "int" := by
  first | exact .int | exact trivial | rfl | exact ⟨_, rfl⟩
theorem int_call {i : Int} {t : Tok} {nm id : String} {B : Builtin} {Q : Value → Shared → Prop} (S : IntSlot K nm id B) (hp : Plain s.heap x) (h : Q .notImplemented s) : wpAny (model prog w) A (call (.builtin id) [.int i t, .ref x]) Q E s :=
  call_meets S.slot (int_plain i t s) S.entry (S.args _ _) (S.dec i t x) ⟨hp, h⟩
/-- an int beside an instance: the reflected method -/
theorem binR_K {op : Operator} {i : Int} {t : Tok} {id : String} {B : Builtin} {fo ro : Option Value} {Q : Value → Shared → Prop} (S : IntSlot K op.info.2 id B) (F : Fr h₀ L s.heap m) (X₀ : K.In h₀) (I : InstAt s.heap x ox C od) (hp : Plain s.heap x) (hc : selfFirst K C = true)
    (hs : findIn K (.ref C) (PySem.dunder op.info.2) = some (some (.ref f0))) (hr : findIn K (.ref C) (dunderR op.info.2) = some (some (.ref f))) (hf : isFn K (.ref f) = true)
    (h1 : findIn K (.type "int") (PySem.dunder op.info.2) = some fo) (h2 : findIn K (.type "int") (dunderR op.info.2) = some ro) (hl : ((fo.isSome && !isSeqSlot fo) || (ro.isSome && !isSeqSlot ro)) = true) (hsub : subIn K (.ref C) (.type "int") = some false)
    (h : wpAny (model prog w) A (call (.ref f) [.ref x, .int i t]) (PySem.W.CmpBack Q) E s) : wpAny (model prog w) A (binaryOp op (.int i t) (.ref x)) Q E s := by
  have X := X₀.keeps F.keep
  obtain ⟨cd, rest, hcd, hm⟩ := ksp_first hc
  have two := ksp_try X I hr hf h
  rcases hi : op.info with ⟨sym, nm'⟩
  rw [hi] at hs hr h1 h2 S two
  dsimp only at hs hr h1 h2 S two
  have one : wpAny (model prog w) A (tryMethod (.int i t) (PySem.dunder nm') (.ref x)) (fun r s' => r = none ∧ s' = s) E s := wpAny_tryMethod_declines (int_plain i t s) S.slot (int_call S hp ⟨rfl, rfl, rfl⟩)
  obtain ⟨hh, g, d, tt, os⟩ := s
  have L1 : Looks (model prog w) hh (typeOf (.ref x)) (.ref C) := I.type
  have L2 : Looks (model prog w) hh (typeOf (.int i t)) (.type "int") := Looks.of_pure rfl
  have L3 : Looks (model prog w) hh (fillsNumberSlot (.ref C) nm') true := fills_K X hcd hm hs
  have L4 : Looks (model prog w) hh (fillsNumberSlot (.type "int") nm') true := hl ▸ ksp_fillsT X h1 h2
  have L5 : Looks (model prog w) hh (isSubtype (.ref C) (.type "int")) false := looks_subIn X hsub
  have L7 : Looks (model prog w) hh (numberSlotInPython (.type "int") nm') false := Looks.of_pure rfl
  have hne : (Value.type "int" == Value.ref C) = false := Bool.eq_false_iff.mpr fun q => by cases beq_iff_eq.mp q
  simp only [binaryOp, hi]
  refine wpAny_holding (wpAny_bind ?_)
  unfold binaryOp1
  refine wpAny_bind (L2.at (wpAny_bind (L1.at (wpAny_bind (L4.at ?_)))))
  simp only [hne, Bool.false_eq_true, if_false]
  ksp_lk
  refine wpAny_mono one (fun r s' hr' => ?_) fun _ _ e => e
  obtain ⟨rfl, rfl⟩ := hr'
  ksp_lk
  refine wpAny_mono two (fun r s' hr' => ?_) fun _ _ e => e
  obtain ⟨v, rfl, hq⟩ := hr'
  ksp_lk
  exact hq
/-- an int compared with an instance: the reflected method -/
theorem cmpR_K {op : CmpOp} {i : Int} {t : Tok} {id : String} {B : Builtin} {Q : Value → Shared → Prop} (hu : A.units < cLine) (sl : Slot "int" (cmpInfo op).2.1 id) (en : entryFor table id = some B) (ar : ∀ a b : Value, argsOk id ⟨[a, b], []⟩) (de : ∀ a t l, Declines B a t l)
    (F : Fr h₀ L s.heap m) (X₀ : K.In h₀) (I : InstAt s.heap x ox C od) (hp : Plain s.heap x) (hs : findIn K (.ref C) (cmpInfo op).2.2 = some (some (.ref f))) (hf : isFn K (.ref f) = true) (hsub : subIn K (.ref C) (.type "int") = some false)
    (h : wpAny (model prog w) A (call (.ref f) [.ref x, .int i t]) (PySem.W.CmpBack Q) E s) (h1 : oneThing? op (.int i t) (.ref x) = none) : wpAny (model prog w) A (richCompare op (.int i t) (.ref x)) Q E s := by
  have X := X₀.keeps F.keep
  have two : wpAny (model prog w) A (tryCompare (.ref x) (cmpInfo op).2.2 (.int i t)) (fun r s' => ∃ v, r = some v ∧ Q v s') E s := by
    unfold tryCompare
    refine wpAny_bind (ifBound_K X I hs hf (wpAny_mono h (fun v s' hv => ?_) fun _ _ e => e))
    cases v <;> first | exact hv.elim | exact wpAny_pure ⟨_, rfl, hv⟩
  have one : wpAny (model prog w) A (tryCompare (.int i t) (cmpInfo op).2.1 (.ref x)) (fun r s' => r = none ∧ s' = s) E s :=
    wpAny_tryCompare_declines (int_plain i t s) sl (call_meets sl (int_plain i t s) en (ar _ _) (de i t x) ⟨hp, rfl, rfl, rfl⟩)
  have hne : (Value.type "int" != Value.ref C) = true := by
    have : (Value.type "int" == Value.ref C) = false := Bool.eq_false_iff.mpr fun q => by cases beq_iff_eq.mp q
    simp [bne, this]
  unfold richCompare
  simp only [h1]
  refine wpAny_holding (wpAny_bind (wpAny_cRoomFor hu ?_))
  refine wpAny_bind ((Looks.of_pure (show typeOf (.int i t) = pure (.type "int") from rfl)).here (wpAny_bind (I.type.here ?_)))
  simp only [hne, if_true]
  refine wpAny_bind ((looks_subIn X hsub).here ?_)
  simp only [Bool.false_eq_true, if_false, Bool.not_false, if_true]
  refine wpAny_bind (wpAny_mono one (fun r s' z => ?_) fun _ _ e => e)
  obtain ⟨rfl, rfl⟩ := z
  refine wpAny_bind (wpAny_mono two (fun r s' z => ?_) fun _ _ e => e)
  obtain ⟨v, rfl, hq⟩ := z
  exact wpAny_pure hq
end
/-! ### a method run somewhere below the body -/
structure Und (X : Cx) (n : Nat) (A : Around) : Prop where
  room : Room n A
  fr : A.frames = X.A.frames
theorem Und.here {X : Cx} {n : Nat} (hr : Room n X.A) : Und X n X.A := ⟨hr, rfl⟩
theorem Und.in1 {X : Cx} {n : Nat} {A : Around} (u : Und X (n + 1) A) : Und X n A.in1 := ⟨u.room.in1, u.fr⟩
section
variable {X : Cx} {pins : List (Addr × Obj)} {σ : L2.St} {H : Hp} {s : Shared} {CX : CXT} {k : Nat} {ps : List Str} {sp : Sp} {E : XK} {C : Addr} {m : Str}
theorem run_at {f : Addr} {fd : FuncData} {A : Around} {vs : List V} {us : List Value} {Q : VK} (F : FnOk X.prog X.w X.K X.mg X.base CX k f fd ps sp) (hb : L2.Binds X.K fd ps []) (hx : Passes CX X E) (u : Und X k A) (I : Inv X pins σ H s) (r : Vals vs us) (hsp : sp vs H Q E) :
    wpAny (model X.prog X.w) A (call (.ref f) us) (EP X pins σ Q) X.xe s := by
  have e0 : Env0 X.prog X.w X.K X.mg X.base A X.stack s H := by
    have e := I.env0
    exact ⟨by rw [u.fr]; exact e.frames, e.mod, e.bs, e.bsz, e.funs, e.frf, e.hok, e.bare⟩
  have hl : (us ++ []).length = ps.length := by rw [List.append_nil, ← r.length]; exact F.len _ _ _ _ hsp
  have bd := hb s us I.kIn hl
  rw [List.append_nil] at bd
  refine wpAny_call (codeAny_mono (F.run A X.stack s H ⟨us, []⟩ us vs _ E u.room e0 bd r hsp) fun r s' hq => ?_)
  match r, hq with
  | .error e, hq => exact hx pins σ H s e s' I hq
  | .ok (.ret z), hq => exact I.after hq
  | .ok .next, hq => exact False.elim hq
  | .ok .brk, hq => exact False.elim hq
  | .ok .cont, hq => exact False.elim hq
theorem ep_back {Q : VK} {v : Value} {s' : Shared} (h : EP X pins σ Q v s') : PySem.W.CmpBack (EP X pins σ Q) v s' := by
  cases v with
  | notImplemented =>
    obtain ⟨zv, H', I', rz, q'⟩ := h
    cases zv <;> first | (cases rz; done) | (obtain ⟨_, rz⟩ := rz; cases rz)
  | _ => exact h
theorem ins_plain {a dx : Addr} {fs : List (Str × V)} (I : Inv X pins σ H s) (ha : H a = some (.ins C dx fs)) : ∃ (ox od : Obj), PySem.W.InstAt s.heap a ox C (some od) ∧ Plain s.heap a := by
  obtain ⟨mA, J, _⟩ := ins_get I.hok ha
  have g : Plain s.heap a := ⟨_, _, _, J.1⟩
  obtain ⟨od, J, _⟩ := J.look
  exact ⟨_, od, J, g⟩
/-- a two-place method of C beside an instance of C or an int -/
structure BinF (K : PySem.W.Frag) (C : Addr) (nm : String) : Prop where
  sf : PySem.W.selfFirst K C = true
  rc : ∃ rc, PySem.W.findIn K (.ref C) (dunderR nm) = some rc ∧ (rc = none ∨ ∃ g : Addr, rc = some (.ref g))
  i1 : ∃ fo, PySem.W.findIn K (.type "int") (PySem.dunder nm) = some fo
  i2 : ∃ ro, PySem.W.findIn K (.type "int") (dunderR nm) = some ro
  su : PySem.W.subIn K (.type "int") (.ref C) = some false
def OrInt (H : Hp) (C : Addr) (y : V) : Prop := (∃ b dy gs, y = .ref b ∧ H b = some (.ins C dy gs)) ∨ ∃ j, y = .int j
def rBinO (C : Addr) (sp : Sp) (E : XK) : R2 := fun x y H Q => ∃ a dx fs, x = .ref a ∧ H a = some (.ins C dx fs) ∧ OrInt H C y ∧ sp [x, y] H Q E
theorem op_binO {op : Operator} (M : CmpAt X.prog X.w X.K X.mg X.base CX k C m ps sp) (B : BinF X.K C op.info.2) (hr : Room k X.A) (hx : Passes CX X E) (hm : PySem.dunder op.info.2 = m := by rfl) : OpR X (binaryOp op) (rBinO C sp E) := by
  intro pins s σ H x y v u Q I rx ry h
  obtain ⟨f, fd, hs, hf, F, hb⟩ := M.ex
  obtain ⟨a, dx, fs, rfl, ha, oi, hsp⟩ := h
  obtain rfl : v = Value.ref a := rx
  obtain ⟨ox, od, J, _⟩ := ins_plain I ha
  obtain ⟨m', hF⟩ := I.fr
  subst hm
  have go : wpAny (model X.prog X.w) X.A (call (.ref f) [.ref a, u]) (PySem.W.CmpBack (EP X pins σ Q)) X.xe s := wpAny_mono (run_at (vs := [.ref a, y]) F hb hx (Und.here hr) I (.cons rfl (.cons ry .nil)) hsp) (fun _ _ z => ep_back z) fun _ _ z => z
  rcases oi with ⟨b, dy, gs, rfl, hb'⟩ | ⟨j, rfl⟩
  · obtain rfl : u = Value.ref b := ry
    obtain ⟨oy, od', J', _⟩ := ins_plain I hb'
    exact PySem.W.binop_K hF I.ok.mod.kin J J'.type B.sf hs hf go
  · obtain ⟨t, rfl⟩ := ry
    obtain ⟨rc, r1, r2⟩ := B.rc
    obtain ⟨fo, i1⟩ := B.i1
    obtain ⟨ro, i2⟩ := B.i2
    exact PySem.W.ksp_binT hF I.ok.mod.kin J rfl B.sf hs hf r1 r2 i1 i2 B.su go
/-- an int beside an instance: the reflected method -/
structure RefF (K : PySem.W.Frag) (C : Addr) (nm : String) : Prop where
  sf : PySem.W.selfFirst K C = true
  f0 : ∃ f : Addr, PySem.W.findIn K (.ref C) (PySem.dunder nm) = some (some (.ref f))
  ii : ∃ fo ro, PySem.W.findIn K (.type "int") (PySem.dunder nm) = some fo ∧ PySem.W.findIn K (.type "int") (dunderR nm) = some ro ∧ ((fo.isSome && !isSeqSlot fo) || (ro.isSome && !isSeqSlot ro)) = true
  su : PySem.W.subIn K (.ref C) (.type "int") = some false
def rBinR (C : Addr) (sp : Sp) (E : XK) : R2 := fun x y H Q => ∃ i b dy gs, x = .int i ∧ y = .ref b ∧ H b = some (.ins C dy gs) ∧ sp [y, x] H Q E
theorem op_binR {op : Operator} {id : String} {Bu : Builtin} (M : CmpAt X.prog X.w X.K X.mg X.base CX k C m ps sp) (S : IntSlot X.K op.info.2 id Bu) (B : RefF X.K C op.info.2) (hr : Room k X.A) (hx : Passes CX X E) (hm : dunderR op.info.2 = m := by rfl) : OpR X (binaryOp op) (rBinR C sp E) := by
  intro pins s σ H x y v u Q I rx ry h
  obtain ⟨f, fd, hs, hf, F, hb⟩ := M.ex
  obtain ⟨i, b, dy, gs, rfl, rfl, hb', hsp⟩ := h
  obtain rfl : u = Value.ref b := ry
  obtain ⟨t, rfl⟩ := rx
  obtain ⟨ox, od, J, pl⟩ := ins_plain I hb'
  obtain ⟨m', hF⟩ := I.fr
  subst hm
  obtain ⟨f0, h0⟩ := B.f0
  obtain ⟨fo, ro, i1, i2, i3⟩ := B.ii
  exact binR_K S hF I.ok.mod.kin J pl B.sf h0 hs hf i1 i2 i3 B.su (wpAny_mono (run_at (vs := [.ref b, .int i]) F hb hx (Und.here hr) I (.cons rfl (.cons ⟨t, rfl⟩ .nil)) hsp) (fun _ _ z => ep_back z) fun _ _ z => z)
theorem is_add {K : PySem.W.Frag} : IntSlot K (Operator.info .Add).2 "int.__add__" Builtin.«int.__add__» := ⟨PySem.F.slot_int_add, PySem.F.entry_int_add, PySem.F.args_int_add_2, dec_add⟩
theorem is_sub {K : PySem.W.Frag} : IntSlot K (Operator.info .Sub).2 "int.__sub__" Builtin.«int.__sub__» := ⟨PySem.F.slot_int_sub, PySem.F.entry_int_sub, PySem.F.args_int_sub_2, dec_sub⟩
theorem is_mul {K : PySem.W.Frag} : IntSlot K (Operator.info .Mult).2 "int.__mul__" Builtin.«int.__mul__» := ⟨PySem.F.slot_int_mul, PySem.F.entry_int_mul, PySem.F.args_int_mul_2, dec_mul⟩
/-- an int compared with an instance -/
def rCmpR (C : Addr) (sp : Sp) (E : XK) : R2 := fun x y H Q => ∃ i b dy gs, x = .int i ∧ y = .ref b ∧ H b = some (.ins C dy gs) ∧ sp [y, x] H Q E
theorem op_cmpRv {op : CmpOp} {id : String} {Bu : Builtin} (M : CmpAt X.prog X.w X.K X.mg X.base CX k C m ps sp) (su : PySem.W.subIn X.K (.ref C) (.type "int") = some false) (hr : Room k X.A) (hx : Passes CX X E) (hm : (cmpInfo op).2.2 = m) (hco : ∀ v u, compareOp op v u = richCompare op v u)
    (h1 : ∀ i t b, oneThing? op (.int i t) (.ref b) = none) (sl : Slot "int" (cmpInfo op).2.1 id) (en : entryFor table id = some Bu) (ar : ∀ a b : Value, argsOk id ⟨[a, b], []⟩) (de : ∀ a t l, Declines Bu a t l) : OpR X (compareOp op) (rCmpR C sp E) := by
  intro pins s σ H x y v u Q I rx ry h
  obtain ⟨f, fd, hs, hf, F, hb⟩ := M.ex
  obtain ⟨i, b, dy, gs, rfl, rfl, hb', hsp⟩ := h
  obtain rfl : u = Value.ref b := ry
  obtain ⟨t, rfl⟩ := rx
  obtain ⟨ox, od, J, pl⟩ := ins_plain I hb'
  obtain ⟨m', hF⟩ := I.fr
  subst hm
  rw [hco]
  exact cmpR_K hr.units0 sl en ar de hF I.ok.mod.kin J pl hs hf su (wpAny_mono (run_at (vs := [.ref b, .int i]) F hb hx (Und.here hr) I (.cons rfl (.cons ⟨t, rfl⟩ .nil)) hsp) (fun _ _ z => ep_back z) fun _ _ z => z) (h1 i t b)
theorem op_ltR (M : CmpAt X.prog X.w X.K X.mg X.base CX k C "__gt__" ps sp) (su : PySem.W.subIn X.K (.ref C) (.type "int") = some false) (hr : Room k X.A) (hx : Passes CX X E) : OpR X (compareOp .Lt) (rCmpR C sp E) := op_cmpRv M su hr hx rfl (fun _ _ => rfl) (fun _ _ _ => rfl) PySem.F.slot_int_lt PySem.F.entry_int_lt PySem.F.args_int_lt_2 dec_lt
theorem op_leR (M : CmpAt X.prog X.w X.K X.mg X.base CX k C "__ge__" ps sp) (su : PySem.W.subIn X.K (.ref C) (.type "int") = some false) (hr : Room k X.A) (hx : Passes CX X E) : OpR X (compareOp .LtE) (rCmpR C sp E) := op_cmpRv M su hr hx rfl (fun _ _ => rfl) (fun _ _ _ => rfl) PySem.F.slot_int_le PySem.F.entry_int_le PySem.F.args_int_le_2 dec_le
theorem op_gtR (M : CmpAt X.prog X.w X.K X.mg X.base CX k C "__lt__" ps sp) (su : PySem.W.subIn X.K (.ref C) (.type "int") = some false) (hr : Room k X.A) (hx : Passes CX X E) : OpR X (compareOp .Gt) (rCmpR C sp E) := op_cmpRv M su hr hx rfl (fun _ _ => rfl) (fun _ _ _ => rfl) PySem.F.slot_int_gt PySem.F.entry_int_gt PySem.F.args_int_gt_2 dec_gt
theorem op_geR (M : CmpAt X.prog X.w X.K X.mg X.base CX k C "__le__" ps sp) (su : PySem.W.subIn X.K (.ref C) (.type "int") = some false) (hr : Room k X.A) (hx : Passes CX X E) : OpR X (compareOp .GtE) (rCmpR C sp E) := op_cmpRv M su hr hx rfl (fun _ _ => rfl) (fun _ _ _ => rfl) PySem.F.slot_int_ge PySem.F.entry_int_ge PySem.F.args_int_ge_2 dec_ge
/-- - of an instance -/
def rNegO (C : Addr) (sp : Sp) (E : XK) : V → Hp → VK → Prop := fun x H Q => ∃ a dx fs, x = .ref a ∧ H a = some (.ins C dx fs) ∧ sp [x] H Q E
theorem un_negO (M : CmpAt X.prog X.w X.K X.mg X.base CX k C "__neg__" ps sp) (hr : Room k X.A) (hx : Passes CX X E) : UnR X (unaryOp .USub) (rNegO C sp E) := by
  intro pins s σ H x v Q I rx h
  obtain ⟨f, fd, hs, hf, F, hb⟩ := M.ex
  obtain ⟨a, dx, fs, rfl, ha, hsp⟩ := h
  obtain rfl : v = Value.ref a := rx
  obtain ⟨ox, od, J, _⟩ := ins_plain I ha
  obtain ⟨m', hF⟩ := I.fr
  exact PySem.W.ksp_neg hF I.ok.mod.kin J hs hf (run_at (vs := [.ref a]) F hb hx (Und.here hr) I (.cons rfl .nil) hsp)
/-- str(x) of an instance with its own __str__ -/
def rStrO (C : Addr) (sp : Sp) (E : XK) : List V → Hp → VK → Prop := fun xs H Q => ∃ a dx fs, xs = [.ref a] ∧ H a = some (.ins C dx fs) ∧ sp [.ref a] H (fun v H' => ∃ x, v = .str x ∧ Q v H') E
theorem call_strO (M : CmpAt X.prog X.w X.K X.mg X.base CX k C "__str__" ps sp) (hr : Room (k + 2) X.A) (hx : Passes CX X E) : CallR X (.type "str") (rStrO C sp E) := by
  intro pins s σ H xs us Q I r h
  obtain ⟨f, fd, hs, hf, F, hb⟩ := M.ex
  obtain ⟨a, dx, fs, rfl, ha, hsp⟩ := h
  obtain ⟨u, rfl, r1⟩ := vals1 r
  obtain rfl : u = Value.ref a := r1
  obtain ⟨ox, od, J, _⟩ := ins_plain I ha
  have U : Und X k X.A.in1.in1 := (Und.here hr).in1.in1
  refine PySem.W.kso_call U.room.units0 (I.kIn) J hs hf (wpAny_mono (run_at (vs := [.ref a]) F hb hx U I (.cons rfl .nil) hsp) (fun v s' z => ?_) fun _ _ z => z)
  obtain ⟨z, H', I', rz, x, rfl, q⟩ := z
  obtain ⟨t, rfl⟩ := rz
  exact ⟨.str x, H', I', ⟨t, rfl⟩, q⟩
end
end My
/-! != by an own ==. -/
namespace My
open PySem PySem.Spec PySem.Calls PyProof.Rows L2
theorem slot_one : Slot "object" "__ne__" "object.__ne__" :=
  .of (owner := "object") (n := "__ne__") (by rw [typeLookup_type, builtinLookup_eq_fast]; kernel_rfl) (by decide +kernel) (by decide +kernel) (by decide +kernel) (.inl (by decide +kernel)) (by rw [isSubtype_type]; kernel_rfl)
section
open PySem.W
variable {prog : Program} {w : World} {A : Around} {E : Value → Shared → Prop} {s : Shared} {K : Frag} {x C L f : Addr} {h₀ : Heap} {m : Str → Option Value} {ox : Obj} {od : Option Obj} {b tb : Value}
/-- what an own == hands back, turned about -/
def NotBack (Q : Value → Shared → Prop) (v : Value) (s' : Shared) : Prop := ∃ c, v = .bool c ∧ Q (.bool (!c)) s'
theorem one_call {Q : Value → Shared → Prop} (hu : A.in1.units < cLine) (X : K.In s.heap) (I : InstAt s.heap x ox C od) (hm : mroIn K C (.type "object") = some true) (hs : findIn K (.ref C) "__eq__" = some (some (.ref f))) (hf : isFn K (.ref f) = true)
    (h : wpAny (model prog w) A.in1 (call (.ref f) [.ref x, b]) (NotBack Q) E s) : wpAny (model prog w) A (call (.builtin "object.__ne__") [.ref x, b]) Q E s := by
  refine wpAny_call (codeAny_call_builtin slot_one.plain PySem.F.cmpEntry_ne (check_slot (i := "object.__ne__") (owner := "object") (n := "__ne__") PySem.F.cmpKind_ne PySem.F.cmpSplit_ne (I.type.andThen (looks_mroIn X hm)) (PySem.F.cmpArgs_ne _ _) ?_))
  unfold Builtin.«object.__ne__»
  refine wpAny_bind (m := slotArgs "__ne__" 1 _) (wpAny_pure ?_)
  refine wpAny_bind (m := cRoomFor _ _) (wpAny_cRoomFor hu ?_)
  refine wpAny_bind (m := callSpecialIfBound? (.ref x) (Str.ofString "__eq__") _) (ifBound_K X I hs hf (wpAny_mono h (fun r s' hq => ?_) fun _ _ y => y))
  obtain ⟨c, rfl, hq⟩ := hq
  refine wpAny_bind (m := truthy (.bool c)) (wpAny_truthy_bool ?_)
  exact wpAny_pure hq
theorem ne_K {Q : Value → Shared → Prop} (hu : A.units < cLine) (hu1 : A.in1.units < cLine) (F : Fr h₀ L s.heap m) (X₀ : K.In h₀) (I : InstAt s.heap x ox C od) (hb : Looks (model prog w) s.heap (typeOf b) tb) (hn : notFirst K C tb = true)
    (hm : mroIn K C (.type "object") = some true) (h1 : findIn K (.ref C) "__ne__" = some (some (.builtin "object.__ne__"))) (hs : findIn K (.ref C) "__eq__" = some (some (.ref f))) (hf : isFn K (.ref f) = true)
    (h : wpAny (model prog w) A.in1 (call (.ref f) [.ref x, b]) (NotBack Q) E s) : wpAny (model prog w) A (richCompare .NotEq (.ref x) b) Q E s := by
  have X := X₀.keeps F.keep
  have one : wpAny (model prog w) A (tryCompare (.ref x) "__ne__" b) (fun r s' => ∃ v, r = some v ∧ Q v s') E s := by
    unfold tryCompare
    refine wpAny_bind ?_
    simp only [callSpecialIfBound?, bindSpecialIfBound?]
    refine wpAny_holding (wpAny_bind (wpAny_bind (wpAny_bind (I.type.here ((looks_findIn X h1).here ?_)))))
    refine wpAny_bind (wpAny_askSetting (wpAny_ite ?_))
    have fin : wpAny (model prog w) A (call (.builtin "object.__ne__") ([.ref x] ++ [b]) >>= fun v => pure (some v)) (fun r s' => wpAny (model prog w) A (match r with | some .notImplemented | none => pure none | some v => pure (some v)) (fun r s' => ∃ v, r = some v ∧ Q v s') E s') E s := by
      refine wpAny_bind (one_call hu1 X I hm hs hf (wpAny_mono h (fun v s' z => ?_) fun _ _ z => z))
      obtain ⟨c, rfl, hq⟩ := z
      exact ⟨c, rfl, wpAny_pure (wpAny_pure ⟨_, rfl, hq⟩)⟩
    split
    · exact wpAny_bind ((Looks.of_pure (slot_one.bind (.ref x))).here (wpAny_pure (by exact fin)))
    · exact wpAny_tryCatch (wpAny_bind ((Looks.of_pure (slot_one.bind (.ref x))).here (wpAny_pure (by exact fin))))
  unfold richCompare
  simp only [oneThing_ref]
  refine wpAny_holding (wpAny_bind (wpAny_cRoomFor hu ?_))
  refine wpAny_bind (I.type.here (wpAny_bind (hb.here ?_)))
  split
  · rename_i q
    have e : subIn K tb (.ref C) = some false := by
      rcases Bool.or_eq_true_iff.mp hn with e | e
      · rw [beq_iff_eq.mp e] at q; simp at q
      · exact beq_iff_eq.mp e
    refine wpAny_bind ((looks_subIn X e).here ?_)
    simp only [Bool.false_eq_true, if_false]
    refine wpAny_bind (wpAny_mono one (fun r s' z => ?_) fun _ _ e => e)
    obtain ⟨v, rfl, hq⟩ := z
    exact wpAny_pure hq
  · refine wpAny_bind (wpAny_pure ?_)
    simp only [Bool.false_eq_true, if_false]
    refine wpAny_bind (wpAny_mono one (fun r s' z => ?_) fun _ _ e => e)
    obtain ⟨v, rfl, hq⟩ := z
    exact wpAny_pure hq
end
section
variable {X : Cx} {CX : CXT} {k : Nat} {ps : List Str} {sp : Sp} {E : XK} {C : Addr}
def rNeO (K : PySem.W.Frag) (C : Addr) (sp : Sp) (E : XK) : R2 := fun x y H Q => ∃ a dx fs t, x = .ref a ∧ H a = some (.ins C dx fs) ∧ TyX K H y t ∧ PySem.W.notFirst K C t = true ∧ sp [.ref a, y] H (fun v H' => ∃ b, v = .bl b ∧ Q (.bl (!b)) H') E
theorem op_neO (M : CmpAt X.prog X.w X.K X.mg X.base CX k C "__eq__" ps sp) (hm : PySem.W.mroIn X.K C (.type "object") = some true) (h1 : PySem.W.findIn X.K (.ref C) "__ne__" = some (some (.builtin "object.__ne__"))) (hr : Room (k + 1) X.A) (hx : Passes CX X E) : OpR X (compareOp .NotEq) (rNeO X.K C sp E) := by
  intro pins s σ H x y v u Q I rx ry h
  obtain ⟨f, fd, hs, hf, F, hb⟩ := M.ex
  obtain ⟨a, dx, fs, t, rfl, ha, ty, hn, hsp⟩ := h
  obtain rfl : v = Value.ref a := rx
  obtain ⟨ox, od, J, _⟩ := ins_plain I ha
  obtain ⟨m', hF⟩ := I.fr
  obtain ⟨Pz, Z, pz, _⟩ := kit_of I ry ty
  have U : Und X k X.A.in1 := (Und.here hr).in1
  refine ne_K hr.units0 U.room.units0 hF I.ok.mod.kin J (Z.ty _ _ I.kIn pz) hn hm h1 hs hf (wpAny_mono (run_at (vs := [.ref a, y]) F hb hx U I (.cons rfl (.cons ry .nil)) hsp) (fun v s' z => ?_) fun _ _ z => z)
  obtain ⟨z, H', I', rz, b, rfl, q⟩ := z
  obtain rfl : v = Value.bool b := rz
  exact ⟨b, rfl, .bl (!b), H', I', rfl, q⟩
end
end My
/-! Static methods by the class's name; ints divided by ints of any sign; lists beside the empty one. -/
namespace My
open PySem PySem.Spec PySem.Calls PyProof.Rows L2
/-- C.m is a staticmethod with the def at f -/
structure Stat (K : PySem.W.Frag) (C : Addr) (m : Str) (f : Addr) : Prop where
  ga : PySem.W.specialIn K (.ref C) "__getattribute__" = some (some (.builtin "type.__getattribute__"))
  rc : ∃ (mc : Value) (p : Addr) (rest : List Value), PySem.W.readsIn K C mc = true ∧ PySem.W.findCls K (.ref C) mc m = some (.get (.builtin "staticmethod.__get__") (.ref p) .none (.ref C)) ∧ PySem.W.recIn K p "staticmethod" = some (.ref f :: rest)
  kp : PySem.W.keepIn K (.ref f) = true
structure StatAt (P : Program) (w : World) (K : PySem.W.Frag) (mg : Str → Option Value) (base : Heap) (CX : CXT) (k : Nat) (C : Addr) (m : Str) (ps : List Str) (sp : Sp) : Prop where
  ex : ∃ f fd, Stat K C m f ∧ FnOk P w K mg base CX k f fd ps sp ∧ L2.Binds K fd ps []
structure StatK (P : Program) (w : World) (K : PySem.W.Frag) (mg : Str → Option Value) (base : Heap) (CX : CXT) (k : Nat) (C : Addr) (m : Str) (ps ks : List Str) (sp : Sp) (gV : List V → List V → List V) : Prop where
  ex : ∃ f fd g, Stat K C m f ∧ FnOk P w K mg base CX k f fd ps sp ∧ KBn K fd ps 0 ks g gV
section
variable {X : Cx} {CX : CXT} {k : Nat} {C : Addr} {ps ks : List Str} {sp : Sp} {E : XK} {m : Str} {e o : Expr} {es : List Expr} {kws : List Keyword} {t tk : TA} {ta : TE} {pos apos : Pos} {gV : List V → List V → List V}
theorem getstat_ok {pins : List (Addr × Obj)} {σ : L2.St} {H : Hp} {s : Shared} {f : Addr} {pl : Sem Bool} {A : Around} {Er : Value → Shared → Prop} {Q : Value × List Value → Shared → Prop} (I : Inv X pins σ H s) (c : Stat X.K C m f) (h : ∀ s', Inv X pins σ H s' → Q (.ref f, []) s') : wpAny (model X.prog X.w) A (getMethod (.ref C) m pl) Q Er s := by
  obtain ⟨mc, p, rest, h1, h2, h3⟩ := c.rc
  refine PySem.W.method_cls I.kIn c.ga (PySem.W.cls_bind I.kIn h1 h2 ?_)
  exact wpAny_call (PySem.W.sm_get (s := { s with toks := s.toks + 1 }) I.kIn h3 (PySem.W.handed_on rfl (h _ (I.tok _))))
def tStat (C : Addr) (sp : Sp) (E : XK) (ta : TE) (t : TA) : TE := fun σ H Q => ta σ H fun x H1 => x = .ref C ∧ t σ H1 fun vs H2 => sp vs H2 Q E
theorem pe_st {pl : Sem Bool} (M : StatAt X.prog X.w X.K X.mg X.base CX k C m ps sp) (hr : Room k X.A) (hx : Passes CX X E) (he : PE X o ta) (ha : PA X (e :: es) t)
    (hst : starEach (e :: es) X.env = (false, eval e X.env) :: starEach es X.env := by rfl) (hpl : (backTo pos (starEach es X.env)).any (·.1) = false := by rfl)
    (ht : eval (.Call (.Attribute o m apos) (e :: es) [] pos) X.env = (do
      let ov ← eval o X.env
      standAt apos.atName
      let (f, first) ← holding [ov] (getMethod ov m pl)
      callWith pos f first (backTo pos (starEach (e :: es) X.env)) (backToKw pos (keywordEach [] X.env))) := by rfl) :
    PE X (.Call (.Attribute o m apos) (e :: es) [] pos) (tStat C sp E ta t) := by
  obtain ⟨f, fd, c, F, b⟩ := M.ex
  refine ⟨fun pins s σ H Q I h => ?_⟩
  refine PySem.W.methodCall_KW (pl := pl) (thn (he.run pins s σ H _ I h) fun u s1 ⟨x, H1, I1, rx, ex, q⟩ => ?_) ht
  subst ex
  obtain rfl : u = Value.ref C := rx
  refine getstat_ok I1 c fun s1 I1 => ?_
  refine PySem.W.callWith_K (first := []) (h₀ := X.base) I.ok.mod.kin c.kp (thn (ha.run pos pins s1 σ H1 _ I1 q) fun us s2 ⟨vs, H2, I2, r, q2⟩ => ⟨I2.kIn, ?_⟩) hst hpl
  exact run_fn (us := us) (vs := vs) F hr b .nil hx I2 r (by rw [List.append_nil]; exact q2)
def tStatK (C : Addr) (j : Nat) (sp : Sp) (gV : List V → List V → List V) (E : XK) (ta : TE) (tk : TA) : TE := fun σ H Q => ta σ H fun x H1 => x = .ref C ∧ tk σ H1 fun zs H2 => zs.length = j ∧ sp (gV [] zs) H2 Q E
theorem pe_stK {pl : Sem Bool} (M : StatK X.prog X.w X.K X.mg X.base CX k C m ps ks sp gV) (hr : Room k X.A) (hx : Passes CX X E) (he : PE X o ta) (hkw : PK X kws tk)
    (hall : (backToKw pos (keywordEach kws X.env)).all (·.1.isSome) = true := by rfl) (hks : (backToKw pos (keywordEach kws X.env)).filterMap (·.1) = ks := by rfl)
    (hpl : ((backTo pos (starEach [] X.env)).any (·.1) || (backToKw pos (keywordEach kws X.env)).any (·.1.isNone)) = false := by rfl)
    (ht : eval (.Call (.Attribute o m apos) [] kws pos) X.env = (do
      let ov ← eval o X.env
      standAt apos.atName
      let (f, first) ← holding [ov] (getMethod ov m pl)
      callWith pos f first (backTo pos (starEach [] X.env)) (backToKw pos (keywordEach kws X.env))) := by rfl) :
    PE X (.Call (.Attribute o m apos) [] kws pos) (tStatK C ks.length sp gV E ta tk) := by
  obtain ⟨f, fd, g, c, F, b⟩ := M.ex
  refine ⟨fun pins s σ H Q I h => ?_⟩
  refine PySem.W.methodCall_KW (pl := pl) (thn (he.run pins s σ H _ I h) fun u s1 ⟨x, H1, I1, rx, ex, q⟩ => ?_) ht
  subst ex
  obtain rfl : u = Value.ref C := rx
  refine getstat_ok I1 c fun s1 I1 => ?_
  refine PySem.W.callWith_KW0 (first := []) (h₀ := X.base) I.ok.mod.kin c.kp hall (thn (hkw.run pos pins s1 σ H1 _ I1 q) fun ws s2 ⟨zs, H2, I2, rz, l2, q2⟩ => ⟨I2.kIn, ?_⟩) hpl
  rw [hks]
  exact run_fnN (us := []) (vs := []) F hr b hx I2 .nil rz rfl l2 q2
/-! ### // and % by any int but 0 -/
def CDivX (_ j : Int) : Prop := j ≠ 0 ∧ j.natAbs.log2 < 9000
theorem op_fdivX : OpR X (binaryOp .FloorDiv) (rI CDivX fun i j => .int (i.fdiv j)) := opI fun _ _ _ _ _ _ _ hc q => floordiv_int hc.1 q (.inl (PyProof.noPylong_of_log2 hc.2))
/-! ### lists of unlike lengths -/
def rEqL : R2 := fun x y H Q => ∃ l b xs ys, x = .ref l ∧ y = .ref b ∧ H l = some (.lst xs) ∧ H b = some (.lst ys) ∧ xs.length ≠ ys.length ∧ Q (.bl false) H
theorem op_eqL (hu : X.A.units < cLine) : OpR X (compareOp .Eq) rEqL := by
  intro pins s σ H x y v u Q I rx ry h
  obtain ⟨l, b, xs, ys, rfl, rfl, h1, h2, hn, q⟩ := h
  obtain rfl : v = Value.ref l := rx
  obtain rfl : u = Value.ref b := ry
  obtain ⟨z, its, n, r, hl, e⟩ := I.lstM h1
  obtain ⟨z2, its2, n2, r2, hl2, e2⟩ := I.lstM h2
  have hs : (its.toArray.size != its2.toArray.size) = true := by
    have a1 := r.length
    have a2 := r2.length
    simp only [List.size_toArray, bne_iff_ne, ne_eq]
    omega
  show wpAny (model X.prog X.w) X.A (richCompare .Eq (.ref l) (.ref b)) _ _ s
  refine wpAny_richCompare_same_room (op := .Eq) ⟨_, e, rfl⟩ ⟨_, e2, rfl⟩ PySem.F.slot_list_eq (call_meets PySem.F.slot_list_eq ⟨_, e, rfl⟩ PySem.F.entry_list_eq (PySem.F.args_list_eq_2 _ _) (AutoSeq1.list___eq___list_list_0 l its.toArray n b its2.toArray n2 hs) ⟨e, e2, ?_⟩) hu
  exact ⟨(fun x => nomatch x), .bl false, H, I, rfl, q⟩
end
end My
/-! The order of two pairs of ints; two promises of one def. -/
namespace My
open PySem PySem.Spec PySem.Calls PyProof.Rows L2
def ordP (r : Int → Int → Bool) (z : Bool) (a b c d : Int) : Bool := if a = c then (if b = d then z else r b d) else r a c
def rOrd (K : PySem.W.Frag) (r : Int → Int → Bool) (z : Bool) : R2 := fun x y H Q => ∃ (l m : Addr) (a b c d : Int), x = .ref l ∧ y = .ref m ∧ SqT K H l [.int a, .int b] ∧ SqT K H m [.int c, .int d] ∧ Q (.bl (ordP r z a b c d)) H
theorem int_here {s : Shared} {A : Around} (a c : Int) (t u : Tok) : SeqAt.EqAt A s (.int a t) (.int c u) (decide (a = c)) := by
  have e : (a == c) = decide (a = c) := by
    by_cases q : a = c
    · rw [decide_eq_true q]; exact beq_iff_eq.mpr q
    · rw [decide_eq_false q]; exact beq_eq_false_iff_ne.mpr q
  rw [← e]
  exact SeqAt.EqAt.int_int _ _ _ _
theorem op_ordV {X : Cx} {op : CmpOp} {r : Int → Int → Bool} {z : Bool} (hco : ∀ v u, compareOp op v u = richCompare op v u)
    (tup : ∀ {A : Around} {s : Shared} {l b : Addr} {is js : Array Value} {e r : Nat → Bool}, s.heap.IsTuple l is → s.heap.IsTuple b js → A.units < cLine → is.size = 2 → js.size = 2 → (∀ j (h1 : j < is.size) (h2 : j < js.size), SeqAt.EqAt A.in1 s is[j] js[j] (e j)) →
      (∀ j (h1 : j < is.size) (h2 : j < js.size), e j = false → Ob.RcOp op A.in1 s is[j] js[j] (r j)) → Ob.RcOp op A s (.ref l) (.ref b) (Ob.lexAt e r z 0 2))
    (int : ∀ {A : Around} {s : Shared} (a b : Int) (t u : Tok), Ob.RcOp op A s (.int a t) (.int b u) (r a b)) (hu : X.A.units < cLine) : OpR X (compareOp op) (rOrd X.K r z) := by
  intro pins s σ H x y v u Q I rx ry h
  obtain ⟨l, m, a, b, c, d, rfl, rfl, hl, hm, q⟩ := h
  obtain rfl : v = Value.ref l := rx
  obtain rfl : u = Value.ref m := ry
  obtain ⟨is, r1, p1, _⟩ := I.tuple hl
  obtain ⟨js, r2, p2, _⟩ := I.tuple hm
  cases r1 with
  | cons ra r1 =>
    cases r1 with
    | cons rb r1 =>
      cases r1
      cases r2 with
      | cons rc r2 =>
        cases r2 with
        | cons rd r2 =>
          cases r2
          obtain ⟨ta, rfl⟩ := ra
          obtain ⟨tb, rfl⟩ := rb
          obtain ⟨tc, rfl⟩ := rc
          obtain ⟨td, rfl⟩ := rd
          have R := tup (A := X.A) (s := s) (e := fun j => if j = 0 then decide (a = c) else decide (b = d)) (r := fun j => if j = 0 then r a c else r b d) p1 p2 hu rfl rfl (fun j h1 h2 => by
            match j, h1 with
            | 0, _ => exact int_here a c ta tc
            | 1, _ => exact int_here b d tb td) (fun j h1 h2 _ => by
            match j, h1 with
            | 0, _ => exact int a c ta tc
            | 1, _ => exact int b d tb td)
          rw [hco]
          refine R X.prog X.w X.xe (EP X pins σ Q) ⟨.bl _, H, I, rfl, ?_⟩
          have e : Ob.lexAt (fun j => if j = 0 then decide (a = c) else decide (b = d)) (fun j => if j = 0 then r a c else r b d) z 0 2 = ordP r z a b c d := by
            unfold ordP
            simp only [Ob.lexAt_succ, Ob.lexAt_zero]
            by_cases h1 : a = c
            · by_cases h2 : b = d
              · simp [h1, h2]
              · simp [h1, h2]
            · simp [h1]
          rw [e]
          exact q
section
variable {X : Cx}
theorem op_ltP (hu : X.A.units < cLine) : OpR X (compareOp .Lt) (rOrd X.K (fun i j => decide (i < j)) false) := op_ordV (fun _ _ => rfl) (fun {A s l b is js e r} h1 h2 h3 h4 h5 h6 h7 => by have z := Ob.RcOp.tuples_lt h1 h2 h3 h6 h7; rw [h4, h5] at z; exact z) (fun a b t u => Ob.RcOp.lt_int a b t u) hu
theorem op_leP (hu : X.A.units < cLine) : OpR X (compareOp .LtE) (rOrd X.K (fun i j => decide (i ≤ j)) true) := op_ordV (fun _ _ => rfl) (fun {A s l b is js e r} h1 h2 h3 h4 h5 h6 h7 => by have z := Ob.RcOp.tuples_le h1 h2 h3 h6 h7; rw [h4, h5] at z; exact z) (fun a b t u => Ob.RcOp.le_int a b t u) hu
theorem op_gtP (hu : X.A.units < cLine) : OpR X (compareOp .Gt) (rOrd X.K (fun i j => decide (j < i)) false) := op_ordV (fun _ _ => rfl) (fun {A s l b is js e r} h1 h2 h3 h4 h5 h6 h7 => by have z := Ob.RcOp.tuples_gt h1 h2 h3 h6 h7; rw [h4, h5] at z; exact z) (fun a b t u => Ob.RcOp.gt_int a b t u) hu
theorem op_geP (hu : X.A.units < cLine) : OpR X (compareOp .GtE) (rOrd X.K (fun i j => decide (j ≤ i)) true) := op_ordV (fun _ _ => rfl) (fun {A s l b is js e r} h1 h2 h3 h4 h5 h6 h7 => by have z := Ob.RcOp.tuples_ge h1 h2 h3 h6 h7; rw [h4, h5] at z; exact z) (fun a b t u => Ob.RcOp.ge_int a b t u) hu
end
/-! ### within a comprehension -/
theorem op_cmpB {X : Cx} {K : PySem.W.Frag} {CX : CXT} {k : Nat} {C : Addr} {m : Str} {ps : List Str} {sp : Sp} {E : XK} {op : CmpOp} (hK : X.K = K) (M : CmpAt X.prog X.w X.K X.mg X.base CX k C m ps sp) (hr : Room k X.A) (hx : Passes CX X E) (hop : (cmpInfo op).2.1 = m := by rfl)
    (hco : ∀ v u, compareOp op v u = richCompare op v u := by intro _ _; rfl) : OpR X (compareOp op) (rCmpO K C sp E) := by
  subst hK
  exact op_cmpO M hr hx hop hco
/-! ### a def that keeps two promises -/
def spOr (s1 s2 : Sp) : Sp := fun vs H Q E => s1 vs H Q E ∨ s2 vs H Q E
section
variable {P : Program} {w : World} {K : PySem.W.Frag} {mg : Str → Option Value} {base : Heap} {CX : CXT} {k : Nat} {f : Addr} {fd : FuncData} {ps : List Str} {s1 s2 : Sp}
theorem ok_or (h1 : FnOk P w K mg base CX k f fd ps s1) (h2 : FnOk P w K mg base CX k f fd ps s2) : FnOk P w K mg base CX k f fd ps (spOr s1 s2) :=
  ⟨fun vs H Q E h => h.elim (h1.len vs H Q E) (h2.len vs H Q E), fun A outer s H args us vs Q E hr e0 hb r h => h.elim (h1.run A outer s H args us vs Q E hr e0 hb r) (h2.run A outer s H args us vs Q E hr e0 hb r)⟩
theorem okG_or (h1 : FnG P w K mg base CX k f fd ps s1) (h2 : FnG P w K mg base CX k f fd ps s2) : FnG P w K mg base CX k f fd ps (spOr s1 s2) :=
  ⟨fun vs H Q E h => h.elim (h1.len vs H Q E) (h2.len vs H Q E), fun A outer s H args us vs Q E hg hr e0 hb r h => h.elim (h1.run A outer s H args us vs Q E hg hr e0 hb r) (h2.run A outer s H args us vs Q E hg hr e0 hb r)⟩
end
end My
/-! Signs in place; an instance called by keywords; what a comprehension may hold. -/
namespace My
open PySem PySem.Spec PySem.Calls PyProof.Rows L2
section
open PySem.W
variable {prog : Program} {w : World} {M : Model} {A : Around} {E : Value → Shared → Prop} {s : Shared} {K : Frag} {x C L f : Addr} {h₀ : Heap} {m : Str → Option Value} {ox : Obj} {od : Option Obj} {nm : String}
/-- beside one of its own class -/
theorem bin1_S {b : Value} {Q : Value → Shared → Prop} (X : K.In s.heap) (I : InstAt s.heap x ox C od) (hb : Looks (model prog w) s.heap (typeOf b) (.ref C)) (hc : selfFirst K C = true) (hs : findIn K (.ref C) (PySem.dunder nm) = some (some (.ref f))) (hf : isFn K (.ref f) = true)
    (h : wpAny (model prog w) A (call (.ref f) [.ref x, b]) (PySem.W.CmpBack Q) E s) : wpAny (model prog w) A (binaryOp1 nm (.ref x) b) (fun r s' => ∃ v, r = some v ∧ Q v s') E s := by
  obtain ⟨cd, rest, hcd, hm⟩ := ksp_first hc
  have one := ksp_try X I hs hf h
  obtain ⟨hh, g, d, tt, os⟩ := s
  have L1 : Looks (model prog w) hh (typeOf (.ref x)) (.ref C) := I.type
  have L2 : Looks (model prog w) hh (typeOf b) (.ref C) := hb
  have L3 : Looks (model prog w) hh (fillsNumberSlot (.ref C) nm) true := fills_K X hcd hm hs
  unfold binaryOp1
  refine wpAny_bind (L1.at (wpAny_bind (L2.at (wpAny_bind (L3.at ?_)))))
  simp only [beq_self_eq_true, if_true]
  ksp_lk
  refine wpAny_mono one (fun r s' hr' => ?_) fun _ _ e => e
  obtain ⟨v, rfl, hq⟩ := hr'
  ksp_lk
  exact ⟨v, rfl, hq⟩
/-- beside a value of a built-in type -/
theorem bin1_T {T : String} {b : Value} {fo ro rc : Option Value} {Q : Value → Shared → Prop} (X : K.In s.heap) (I : InstAt s.heap x ox C od) (hb : typeOf b = pure (.type T)) (hc : selfFirst K C = true)
    (hs : findIn K (.ref C) (PySem.dunder nm) = some (some (.ref f))) (hf : isFn K (.ref f) = true) (hr : findIn K (.ref C) (dunderR nm) = some rc) (hp : rc = none ∨ ∃ g : Addr, rc = some (.ref g))
    (h1 : findIn K (.type T) (PySem.dunder nm) = some fo) (h2 : findIn K (.type T) (dunderR nm) = some ro) (hsub : subIn K (.type T) (.ref C) = some false)
    (h : wpAny (model prog w) A (call (.ref f) [.ref x, b]) (PySem.W.CmpBack Q) E s) : wpAny (model prog w) A (binaryOp1 nm (.ref x) b) (fun r s' => ∃ v, r = some v ∧ Q v s') E s := by
  obtain ⟨cd, rest, hcd, hm⟩ := ksp_first hc
  have one := ksp_try X I hs hf h
  obtain ⟨hh, g, d, tt, os⟩ := s
  have L1 : Looks (model prog w) hh (typeOf (.ref x)) (.ref C) := I.type
  have L2 : Looks (model prog w) hh (typeOf b) (.type T) := Looks.of_pure hb
  have L3 : Looks (model prog w) hh (fillsNumberSlot (.ref C) nm) true := fills_K X hcd hm hs
  have L4 : Looks (model prog w) hh (fillsNumberSlot (.type T) nm) ((fo.isSome && !isSeqSlot fo) || (ro.isSome && !isSeqSlot ro)) := ksp_fillsT X h1 h2
  have L5 : Looks (model prog w) hh (isSubtype (.type T) (.ref C)) false := looks_subIn X hsub
  have L6 : Looks (model prog w) hh (numberSlotInPython (.ref C) nm) true := ksp_inPy X hs hr hp
  have L7 : Looks (model prog w) hh (numberSlotInPython (.type T) nm) false := Looks.of_pure rfl
  have L8 : Looks (model prog w) hh (typeLookup (.type T) (dunderR nm)) ro := looks_findIn X h2
  generalize ((fo.isSome && !isSeqSlot fo) || (ro.isSome && !isSeqSlot ro)) = right at L4
  have hne : (Value.ref C == Value.type T) = false := Bool.eq_false_iff.mpr fun q => by cases beq_iff_eq.mp q
  unfold binaryOp1
  refine wpAny_bind (L1.at (wpAny_bind (L2.at (wpAny_bind (L3.at ?_)))))
  simp only [hne, Bool.false_eq_true, if_false]
  cases right with
  | false =>
    ksp_lk
    refine wpAny_mono one (fun r s' hr' => ?_) fun _ _ e => e
    obtain ⟨v, rfl, hq⟩ := hr'
    ksp_lk
    exact ⟨v, rfl, hq⟩
  | true =>
    ksp_lk
    refine wpAny_mono one (fun r s' hr' => ?_) fun _ _ e => e
    obtain ⟨v, rfl, hq⟩ := hr'
    ksp_lk
    exact ⟨v, rfl, hq⟩
/-- the class has no slot in place -/
theorem noInplace {h : Heap} {cd : ClassData} {add : Bool} (X : K.In h) (hc : clsIn K C = some cd) (hm : cd.mro = [.ref C, .type "object"]) (h1 : findIn K (.ref C) (dunderI nm) = some none) (h2 : findIn K (.type "object") (dunderI nm) = some none) : Looks M h (fillsInplaceSlot (.ref C) nm add) false := by
  intro A Q E s k q
  have Lm : Looks M h (mroOf (.ref C)) cd.mro := (looks_clsIn X hc).andThen (f := fun cd => pure cd.mro) .now
  have Lm' := Lm.keeps k
  obtain ⟨hh, g, d, tt, os⟩ := s
  have X' : K.In hh := X.keeps k
  have L1 : Looks M hh (typeLookup (.ref C) (dunderI nm)) none := looks_findIn X' h1
  have L2 : Looks M hh (typeLookup (.type "object") (dunderI nm)) none := looks_findIn X' h2
  unfold fillsInplaceSlot
  refine wpAny_bind (Lm'.at ?_)
  rw [hm, List.anyM_cons]
  refine wpAny_bind ?_
  repeat lk
  exact q
theorem inpl_K {op : Operator} {b : Value} {Q : Value → Shared → Prop} {cd : ClassData} (X : K.In s.heap) (I : InstAt s.heap x ox C od) (hc : clsIn K C = some cd) (hm : cd.mro = [.ref C, .type "object"]) (h1 : findIn K (.ref C) (dunderI op.info.2) = some none) (h2 : findIn K (.type "object") (dunderI op.info.2) = some none)
    (h : wpAny (model prog w) A (binaryOp1 op.info.2 (.ref x) b) (fun r s' => ∃ v, r = some v ∧ Q v s') E s) : wpAny (model prog w) A (inplaceOp op (.ref x) b) Q E s := by
  have L2 : Looks (model prog w) s.heap (fillsInplaceSlot (.ref C) op.info.2 (op == .Add)) false := noInplace X hc hm h1 h2
  unfold inplaceOp
  refine wpAny_holding ?_
  dsimp only
  refine wpAny_bind (I.type.here (wpAny_bind (L2.here ?_)))
  simp only [Bool.false_eq_true, if_false]
  refine wpAny_bind (wpAny_mono h (fun r s' z => ?_) fun _ _ e => e)
  obtain ⟨v, rfl, hq⟩ := z
  exact wpAny_pure hq
end
/-- the class has no slot in place -/
structure InpF (K : PySem.W.Frag) (C : Addr) (nm : String) : Prop where
  mro : ∃ cd, PySem.W.clsIn K C = some cd ∧ cd.mro = [.ref C, .type "object"]
  no1 : PySem.W.findIn K (.ref C) (dunderI nm) = some none
  no2 : PySem.W.findIn K (.type "object") (dunderI nm) = some none
section
variable {X : Cx} {CX : CXT} {k : Nat} {ps ks : List Str} {sp : Sp} {E : XK} {C : Addr} {m : Str}
theorem iop_O {op : Operator} (M : CmpAt X.prog X.w X.K X.mg X.base CX k C m ps sp) (B : BinF X.K C op.info.2) (N : InpF X.K C op.info.2) (hr : Room k X.A) (hx : Passes CX X E) (hm : PySem.dunder op.info.2 = m := by rfl) : OpR X (inplaceOp op) (rBinO C sp E) := by
  intro pins s σ H x y v u Q I rx ry h
  obtain ⟨f, fd, hs, hf, F, hb⟩ := M.ex
  obtain ⟨a, dx, fs, rfl, ha, oi, hsp⟩ := h
  obtain rfl : v = Value.ref a := rx
  obtain ⟨ox, od, J, _⟩ := ins_plain I ha
  obtain ⟨cd, c1, c2⟩ := N.mro
  subst hm
  have go : wpAny (model X.prog X.w) X.A (call (.ref f) [.ref a, u]) (PySem.W.CmpBack (EP X pins σ Q)) X.xe s := wpAny_mono (run_at (vs := [.ref a, y]) F hb hx (Und.here hr) I (.cons rfl (.cons ry .nil)) hsp) (fun _ _ z => ep_back z) fun _ _ z => z
  refine inpl_K I.kIn J c1 c2 N.no1 N.no2 ?_
  rcases oi with ⟨b, dy, gs, rfl, hb'⟩ | ⟨j, rfl⟩
  · obtain rfl : u = Value.ref b := ry
    obtain ⟨oy, od', J', _⟩ := ins_plain I hb'
    exact bin1_S I.kIn J J'.type B.sf hs hf go
  · obtain ⟨t, rfl⟩ := ry
    obtain ⟨rc, r1, r2⟩ := B.rc
    obtain ⟨fo, i1⟩ := B.i1
    obtain ⟨ro, i2⟩ := B.i2
    exact bin1_T I.kIn J rfl B.sf hs hf r1 r2 i1 i2 B.su go
/-! ### an instance called -/
/-- f(e, ..), told without the context -/
def tCallI (C : Addr) (sp : Sp) (E : XK) (tf : TE) (t : TA) : TE := fun σ H Q => tf σ H fun y H1 => ∃ a, y = V.ref a ∧ t σ H1 fun vs H2 => (∃ dx fs, H2 a = some (.ins C dx fs)) ∧ sp (V.ref a :: vs) H2 Q E
theorem pe_clI {fe e : Expr} {es : List Expr} {tf : TE} {t : TA} {pos : Pos} (M : CallAt X.prog X.w X.K X.mg X.base CX k C ps sp) (hr : Room k X.A) (hx : Passes CX X E) (hf : PE X fe tf) (ha : PA X (e :: es) t)
    (ht : eval (.Call fe (e :: es) [] pos) X.env = (do callWith pos (← eval fe X.env) [] (backTo pos (starEach (e :: es) X.env)) (backToKw pos (keywordEach [] X.env))) := by rfl)
    (hs : starEach (e :: es) X.env = (false, eval e X.env) :: starEach es X.env := by rfl) (hpl : (backTo pos (starEach es X.env)).any (·.1) = false := by rfl) : PE X (.Call fe (e :: es) [] pos) (tCallI C sp E tf t) := by
  obtain ⟨f, fd, c, F, b⟩ := M.ex
  refine ⟨fun pins s σ H Q I h => ?_⟩
  refine Call_ (thn (hf.run pins s σ H _ I h) fun u s1 ⟨y, H1, I1, ry, a, ey, q⟩ => ?_) ht
  subst ey
  obtain rfl : u = Value.ref a := ry
  refine StX.callO_with (thn (ha.run pos pins s1 σ H1 _ I1 q) fun us s2 ⟨vs, H2, I2, r, ⟨dx, fs, hi⟩, q2⟩ => ?_) hs hpl
  obtain ⟨ox, od, J, hd⟩ := StX.insC_at (X := X) I2 (.inr ⟨dx, fs, hi⟩)
  refine ⟨⟨C, ox, od, J, hd⟩, ?_⟩
  have hl : (Value.ref a :: us ++ []).length = ps.length := by
    rw [List.append_nil, List.length_cons, ← r.length]
    exact F.len _ _ _ _ q2
  have bd := b s2 (.ref a :: us) I2.kIn hl
  rw [List.append_nil] at bd
  refine wpAny_call (PySem.W.kco_code I2.kIn J hd c.at_ c.fn c.fi (codeAny_mono (F.run X.A X.stack s2 H2 ⟨.ref a :: us, []⟩ (.ref a :: us) (.ref a :: vs) _ E hr I2.env0 bd (.cons rfl r) q2) fun r s' hq => ?_))
  match r, hq with
  | .error e, hq => exact hx pins σ H2 s2 e s' I2 hq
  | .ok (.ret z), hq => exact I2.after hq
  | .ok .next, hq => exact False.elim hq
  | .ok .brk, hq => exact False.elim hq
  | .ok .cont, hq => exact False.elim hq
structure CallK (P : Program) (w : World) (K : PySem.W.Frag) (mg : Str → Option Value) (base : Heap) (CX : CXT) (k : Nat) (C : Addr) (ps ks : List Str) (sp : Sp) (gV : List V → List V → List V) : Prop where
  ex : ∃ f fd g, StX.CallO K C f ∧ FnOk P w K mg base CX k f fd ps sp ∧ KBn K fd ps 1 ks g gV
def tCallK (C : Addr) (j : Nat) (sp : Sp) (gV : List V → List V → List V) (E : XK) (tf : TE) (tk : TA) : TE := fun σ H Q => tf σ H fun y H1 => ∃ a, y = V.ref a ∧ tk σ H1 fun zs H2 => zs.length = j ∧ (∃ dx fs, H2 a = some (.ins C dx fs)) ∧ sp (gV [.ref a] zs) H2 Q E
/-- the call's node where the callee is an instance, keywords alone -/
theorem callO_kw {M : Model} {A : Around} {Er : Value → Shared → Prop} {s : Shared} {a : Addr} {pos : Pos} {Q : Value → Shared → Prop} {args : List (Bool × Sem Value)} {kw : List (Option Str × Sem Value)} (hplain : (args.any (·.1) || kw.any (·.1.isNone)) = false)
    (h : wpAny M A (evalArgs (.ref a) true args kw) (fun z s₁ => (∃ C ox od, PySem.W.InstAt s₁.heap a ox C od ∧ ox.data = .plain) ∧ wpAny M A (call (.ref a) ([] ++ z.pos) z.kw) Q Er s₁) Er s) : wpAny M A (callWith pos (.ref a) [] args kw) Q Er s := by
  unfold callWith
  refine wpAny_bind (wpAny_holding (wpAny_mono h (fun z s₁ h₁ => wpAny_bind (wpAny_standAt ?_)) fun _ _ y => y))
  obtain ⟨⟨C, ox, od, J, hd⟩, h₁⟩ := h₁
  simp only [hplain]
  refine wpAny_bind ((PySem.W.kco_keeper (M := M) J hd).here ?_)
  refine wpAny_bind (wpAny_mono (wpAny_operateT h₁) (fun r s₂ hr => wpAny_bind (wpAny_holding (wpAny_point (wpAny_pure hr)))) fun _ _ y => y)
theorem pe_clK {fe : Expr} {kws : List Keyword} {tf : TE} {tk : TA} {pos : Pos} {gV : List V → List V → List V} (M : CallK X.prog X.w X.K X.mg X.base CX k C ps ks sp gV) (hr : Room k X.A) (hx : Passes CX X E) (hf : PE X fe tf) (hkw : PK X kws tk)
    (ht : eval (.Call fe [] kws pos) X.env = (do callWith pos (← eval fe X.env) [] (backTo pos (starEach [] X.env)) (backToKw pos (keywordEach kws X.env))) := by rfl)
    (hall : (backToKw pos (keywordEach kws X.env)).all (·.1.isSome) = true := by rfl) (hks : (backToKw pos (keywordEach kws X.env)).filterMap (·.1) = ks := by rfl)
    (hpl : ((backTo pos (starEach [] X.env)).any (·.1) || (backToKw pos (keywordEach kws X.env)).any (·.1.isNone)) = false := by rfl) : PE X (.Call fe [] kws pos) (tCallK C ks.length sp gV E tf tk) := by
  obtain ⟨f, fd, g, c, F, b⟩ := M.ex
  refine ⟨fun pins s σ H Q I h => ?_⟩
  rw [ht]
  refine wpAny_bind (thn (hf.run pins s σ H _ I h) fun u s1 ⟨y, H1, I1, ry, a, ey, q⟩ => ?_)
  subst ey
  obtain rfl : u = Value.ref a := ry
  refine callO_kw hpl (evalArgs_kw2_nil hall (thn (hkw.run pos pins s1 σ H1 _ I1 q) fun ws s2 ⟨zs, H2, I2, rz, l2, ⟨dx, fs, hi⟩, q2⟩ => ?_))
  obtain ⟨ox, od, J, hd⟩ := StX.insC_at (X := X) I2 (.inr ⟨dx, fs, hi⟩)
  refine ⟨⟨C, ox, od, J, hd⟩, ?_⟩
  rw [hks]
  have r2 := b.rel (vs := [V.ref a]) (us := [Value.ref a]) (.cons rfl .nil) rz
  refine wpAny_call (PySem.W.kco_code I2.kIn J hd c.at_ c.fn c.fi (codeAny_mono (F.run X.A X.stack s2 H2 ⟨[.ref a], ks.zip ws⟩ (g [.ref a] ws) (gV [.ref a] zs) _ E hr I2.env0 (b.to s2 [.ref a] ws I2.kIn rfl (rz.length.symm.trans l2)) r2 q2) fun r s' hq => ?_))
  match r, hq with
  | .error e, hq => exact hx pins σ H2 s2 e s' I2 hq
  | .ok (.ret z), hq => exact I2.after hq
  | .ok .next, hq => exact False.elim hq
  | .ok .brk, hq => exact False.elim hq
  | .ok .cont, hq => exact False.elim hq
/-- a class of the module made by keywords alone -/
structure MakeK (P : Program) (w : World) (K : PySem.W.Frag) (mg : Str → Option Value) (base : Heap) (CX : CXT) (k : Nat) (x : Str) (C : Addr) (ps ks : List Str) (sp : Sp) (gV : List V → List V → List V) : Prop where
  ex : ∃ f fd g, Mk K C f ∧ FnOk P w K mg base CX k f fd ps sp ∧ mg x = some (.ref C) ∧ KBn K fd ps 1 ks g gV
theorem pe_mkK {x : Str} {p pos : Pos} {kws : List Keyword} {tk : TA} {gV : List V → List V → List V} (M : MakeK X.prog X.w X.K X.mg X.base CX k x C ps ks sp gV) (hr : Room (k + 1) X.A) (hg : Gl X x) (hx : Passes CX X E) (hkw : PK X kws tk)
    (hall : (backToKw pos (keywordEach kws X.env)).all (·.1.isSome) = true := by rfl) (hks : (backToKw pos (keywordEach kws X.env)).filterMap (·.1) = ks := by rfl) (hdb : (x == ("__debug__" : Str)) = false := by decide)
    (hpl : ((backTo pos (starEach [] X.env)).any (·.1) || (backToKw pos (keywordEach kws X.env)).any (·.1.isNone)) = false := by rfl) : PE X (.Call (.Name x p) [] kws pos) (tMakeK C 0 ks.length sp gV E tNil tk) := by
  obtain ⟨f, fd, g, mk, F, hm, b⟩ := M.ex
  exact pe_makeK0 mk F hr hg hm b hx hkw hall hks hdb hpl
end
end My
/-! For the end: static methods, makers with defaults, calls by keywords. -/
namespace My
open PySem PySem.Spec PyProof.Rows L2
def gApp (vs zs : List V) : List V := vs ++ zs
def gSw (vs zs : List V) : List V := vs ++ zs.reverse
theorem nm_part : Sup.Nm "part" := ⟨by decide, by decide, by decide, by decide, fun _ _ _ _ _ _ _ _ _ _ _ _ => rfl⟩
theorem app_rel {vs : List V} {us : List Value} {zs : List V} {ws : List Value} (h1 : Vals vs us) (h2 : Vals zs ws) : Vals (gApp vs zs) (us ++ ws) := h1.append h2
/-- the class has the static method -/
structure HasS (K : PySem.W.Frag) (C : Addr) (m qual : Str) (st : Stmt) : Prop where
  ex : ∃ f fd, Stat K C m f ∧ Fun K m qual st f fd
section
variable {P : Program} {w : World} {K : PySem.W.Frag} {mg : Str → Option Value} {base : Heap} {CX : CXT} {k : Nat} {m qual : Str} {st : Stmt} {ps ks : List Str} {sp : Sp} {C : Addr}
theorem stat_at (A : HasS K C m qual st) (ok : ∀ f fd, Fun K m qual st f fd → FnOk P w K mg base CX k f fd ps sp) (b : BindW m qual st ps) : StatAt P w K mg base CX k C m ps sp := by
  obtain ⟨f, fd, h1, F⟩ := A.ex
  exact ⟨f, fd, h1, ok f fd F, F.binds b⟩
theorem statK_at {gV : List V → List V → List V} {g : List Value → List Value → List Value} (A : HasS K C m qual st) (ok : ∀ f fd, Fun K m qual st f fd → FnOk P w K mg base CX k f fd ps sp)
    (b : ∀ (kV doc pm : Value) (an : Option Addr) (cdv ct : Value) (us ws : List Value), us.length = 0 → ws.length = ks.length → bindArgs (PySem.W.fnOf m qual (defArgs st) (defBody st) (defScope st) .none kV doc pm an cdv ct) ⟨us, ks.zip ws⟩ = pure (ps.zip (g us ws)))
    (r : ∀ {vs : List V} {us : List Value} {zs : List V} {ws : List Value}, Vals vs us → Vals zs ws → Vals (gV vs zs) (g us ws)) : StatK P w K mg base CX k C m ps ks sp gV := by
  obtain ⟨f, fd, h1, F⟩ := A.ex
  obtain ⟨oc, od, kV, doc, pm, an, cdv, ct, osl, rfl, _⟩ := id F.ex
  exact ⟨f, _, g, h1, ok f _ F, ⟨fun s us ws _ l1 l2 => .of_eq (b kV doc pm an cdv ct us ws l1 l2), r⟩⟩
end
theorem sw_rel {vs : List V} {us : List Value} {zs : List V} {ws : List Value} (h1 : Vals vs us) (h2 : Vals zs ws) : Vals (gSw vs zs) (us ++ ws.reverse) := h1.append h2.reverse
theorem kinds7 {K : PySem.W.Frag} {C : Addr} (a0 : PySem.W.kitOne K (.type "int") (.ref C) = some false) (b0 : PySem.W.notFirst K C (.type "int") = true) (a1 : PySem.W.kitOne K (.type "tuple") (.ref C) = some false) (b1 : PySem.W.notFirst K C (.type "tuple") = true) (a2 : PySem.W.kitOne K (.type "NoneType") (.ref C) = some false) (b2 : PySem.W.notFirst K C (.type "NoneType") = true) (a3 : PySem.W.kitOne K (.type "str") (.ref C) = some false) (b3 : PySem.W.notFirst K C (.type "str") = true) (a4 : PySem.W.kitOne K (.type "list") (.ref C) = some false) (b4 : PySem.W.notFirst K C (.type "list") = true) (a5 : PySem.W.kitOne K (.type "bool") (.ref C) = some false) (b5 : PySem.W.notFirst K C (.type "bool") = true) (a6 : PySem.W.kitOne K (.type "dict") (.ref C) = some false) (b6 : PySem.W.notFirst K C (.type "dict") = true) : ∀ t ∈ ["int", "tuple", "NoneType", "str", "list", "bool", "dict"], PySem.W.kitOne K (.type t) (.ref C) = some false ∧ PySem.W.notFirst K C (.type t) = true := fun t ht => by
  simp only [List.mem_cons, List.mem_nil_iff, or_false] at ht
  rcases ht with rfl | rfl | rfl | rfl | rfl | rfl | rfl
  · exact ⟨a0, b0⟩
  · exact ⟨a1, b1⟩
  · exact ⟨a2, b2⟩
  · exact ⟨a3, b3⟩
  · exact ⟨a4, b4⟩
  · exact ⟨a5, b5⟩
  · exact ⟨a6, b6⟩
section
variable {P : Program} {w : World} {K : PySem.W.Frag} {mg : Str → Option Value} {base : Heap} {CX : CXT} {k : Nat} {x qual : Str} {st : Stmt} {ps ks : List Str} {sp : Sp} {C : Addr} {dvs : List V}
/-- the class is made with its defaults left out -/
theorem make_dfl {n : Nat} (A : HasD K C "__init__" qual st dvs []) (hx : mg x = some (.ref C)) (mk : PySem.W.makesIn K C = true) (kp : PySem.W.keepIn K (.ref C) = true) (ok : ∀ f fd, FunD K "__init__" qual (defArgs st) (defBody st) (defScope st) dvs [] f fd → FnOk P w K mg base CX k f fd ps sp) (hd : dvs ≠ []) (hn : n + (dvs.length - 0) = ps.length)
    (b : ∀ (T : Addr) (kV doc pm : Value) (an : Option Addr) (cdv ct : Value) (us its : List Value), us.length = n → its.length = dvs.length →
      ∃ k, bindArgs (PySem.W.fnOf "__init__" qual (defArgs st) (defBody st) (defScope st) (.ref T) kV doc pm an cdv ct) ⟨us, []⟩ = seqItems? (.ref T) >>= k ∧ k (some its.toArray) = pure (ps.zip (us ++ its.drop 0))) : MakeAt P w K mg base CX k x C ps sp dvs := by
  obtain ⟨f, fd, h1, h2, F⟩ := A.ex
  obtain ⟨ds, r, bs⟩ := F.binds1 n 0 hd hn b
  rw [List.drop_zero] at r
  exact ⟨f, fd, ds, ⟨mk, h1, h2, kp⟩, ok f fd F, hx, bs, r⟩
theorem make_sw (A : HasD K C "__init__" qual st dvs []) (hx : mg x = some (.ref C)) (mk : PySem.W.makesIn K C = true) (kp : PySem.W.keepIn K (.ref C) = true) (ok : ∀ f fd, FunD K "__init__" qual (defArgs st) (defBody st) (defScope st) dvs [] f fd → FnOk P w K mg base CX k f fd ps sp) (hd : dvs ≠ [])
    (b : ∀ (T : Addr) (kV doc pm : Value) (an : Option Addr) (cdv ct : Value) (us its ws : List Value), us.length = 1 → its.length = dvs.length → ws.length = ks.length →
      ∃ k, bindArgs (PySem.W.fnOf "__init__" qual (defArgs st) (defBody st) (defScope st) (.ref T) kV doc pm an cdv ct) ⟨us, ks.zip ws⟩ = seqItems? (.ref T) >>= k ∧ k (some its.toArray) = pure (ps.zip (us ++ ws.reverse))) : MakeK P w K mg base CX k x C ps ks sp gSw := by
  obtain ⟨f, fd, h1, h2, F⟩ := A.ex
  obtain ⟨its, kb⟩ := F.kbindsD (ps := ps) 1 ks (fun us _ ws => us ++ ws.reverse) hd (fun h1 _ h3 => h1.append h3.reverse) b
  exact ⟨f, fd, _, ⟨mk, h1, h2, kp⟩, ok f fd F, hx, kb⟩
theorem callK_at {g : List Value → List Value → List Value} (A : HasM K C "__call__" qual st) (ok : ∀ f fd, Fun K "__call__" qual st f fd → FnOk P w K mg base CX k f fd ps sp)
    (b : ∀ (kV doc pm : Value) (an : Option Addr) (cdv ct : Value) (us ws : List Value), us.length = 1 → ws.length = ks.length → bindArgs (PySem.W.fnOf "__call__" qual (defArgs st) (defBody st) (defScope st) .none kV doc pm an cdv ct) ⟨us, ks.zip ws⟩ = pure (ps.zip (us ++ ws))) : CallK P w K mg base CX k C ps ks sp gApp := by
  obtain ⟨f, fd, h1, h2, F⟩ := A.ex
  obtain ⟨oc, od, kV, doc, pm, an, cdv, ct, osl, rfl, lk, _⟩ := id F.ex
  refine ⟨f, _, _, ⟨h1, h2, ?_⟩, ok f _ F, ⟨fun s us ws _ l1 l2 => .of_eq (b kV doc pm an cdv ct us ws l1 l2), app_rel⟩⟩
  unfold PySem.W.fnIn
  rw [lk]
end
end My
/-! int == an instance; bool(x), abs(x) of an instance; // and % of an int by an instance. -/
namespace My
open PySem PySem.Spec PySem.Calls PyProof.Rows L2
theorem is_fdv {K : PySem.W.Frag} : IntSlot K (Operator.info .FloorDiv).2 "int.__floordiv__" Builtin.«int.__floordiv__» := ⟨PySem.F.slot_int_floordiv, PySem.F.entry_int_floordiv, PySem.F.args_int_floordiv_2, dec_floordiv⟩
theorem is_mod {K : PySem.W.Frag} : IntSlot K (Operator.info .Mod).2 "int.__mod__" Builtin.«int.__mod__» := ⟨PySem.F.slot_int_mod, PySem.F.entry_int_mod, PySem.F.args_int_mod_2, dec_mod⟩
section
open PySem.W
variable {prog : Program} {w : World} {A : Around} {E : Value → Shared → Prop} {s : Shared} {K : Frag} {x C L f : Addr} {h₀ : Heap} {m : Str → Option Value} {ox : Obj} {od : Option Obj}
theorem bool_call {Q : Value → Shared → Prop} (F : Fr h₀ L s.heap m) (X₀ : K.In h₀) (I : InstAt s.heap x ox C od) (hs : findIn K (.ref C) "__bool__" = some (some (.ref f))) (hf : isFn K (.ref f) = true)
    (h : wpAny (model prog w) A.in1.in1 (call (.ref f) [.ref x]) (PySem.W.BoolBack fun b s' => Q (.bool b) s') E s) : wpAny (model prog w) A (call (.type "bool") [.ref x]) Q E s := by
  refine callType_codes (T := "bool") (Bi := Builtin.«object.__init__») (Q₁ := fun r s' => ∃ b, r = .bool b ∧ Q r s') PySem.F.called_bool (PySem.F.typeCall_bool_1 _) PySem.F.entry_object_init ?_ ?_
  · refine codeAny_of_tree ?_
    show wpAny _ A.in1.in1 (do checkBuiltinCall "bool.__new__" ⟨[.type "bool", .ref x], []⟩; again (.builtin "bool.__new__" ⟨[.type "bool", .ref x], []⟩)) _ _ s
    refine wpAny_bind (wpAny_of_eq (PySem.F.newCall_bool_1 _) (wpAny_pure ⟨plainId_quiet (by decide +kernel) _, codeAny_builtin PySem.F.entry_bool_new ?_⟩))
    rw [Around.under_plainId (by decide +kernel) _]
    unfold Builtin.«bool.__new__»
    have f1 := PySem.F.conv_sub_bool
    have go : wpAny (model prog w) A.in1.in1 (truthy (.ref x)) (fun b s' => Q (.bool b) s') E s := truthy_K F X₀ I hs hf h
    refine wpAny_bind (m := isType (.type "bool")) (wpAny_pure ?_)
    refine wpAny_bind (m := isSubtype (.type "bool") (.type "bool")) (wpAny_of_eq f1 ?_)
    refine wpAny_bind (wpAny_pure ?_)
    refine wpAny_bind (m := truthy (.ref x)) (wpAny_mono go (fun b s' hq => ?_) fun _ _ y => y)
    exact wpAny_pure ⟨b, rfl, hq⟩
  · rintro obj s' ⟨b, rfl, hq⟩
    exact ⟨PySem.typeIs_bool _ _, PySem.F.args_object_init_2 _ _, object_init_meets PySem.F.called_bool.init.lookup PySem.F.called_bool.made (by decide) prog w A.in1 _ s' ⟨PySem.typeIs_bool _ _, rfl, hq⟩⟩
theorem abs_call {Q : Value → Shared → Prop} (X : K.In s.heap) (I : InstAt s.heap x ox C od) (hs : findIn K (.ref C) "__abs__" = some (some (.ref f))) (hf : isFn K (.ref f) = true)
    (h : wpAny (model prog w) A.in1 (call (.ref f) [.ref x]) Q E s) : wpAny (model prog w) A (call (.builtin "abs") [.ref x]) Q E s := by
  refine call_function_entry kind_abs plain_abs entry_abs (args_abs _) ?_
  unfold Builtin.«abs»
  refine wpAny_bind (m := oneArg "abs" _) (wpAny_pure ?_)
  refine wpAny_bind (m := callSpecial? (.ref x) (Str.ofString "__abs__")) (special_fn X I hs (beq_iff_eq.mp hf) (wpAny_mono h (fun r s' hr => ?_) fun _ _ y => y))
  exact wpAny_pure ⟨_, rfl, hr⟩
end
section
variable {X : Cx} {CX : CXT} {k : Nat} {C : Addr} {ps : List Str} {sp : Sp} {E : XK}
theorem op_eqR (M : CmpAt X.prog X.w X.K X.mg X.base CX k C "__eq__" ps sp) (su : PySem.W.subIn X.K (.ref C) (.type "int") = some false) (hr : Room k X.A) (hx : Passes CX X E) : OpR X (compareOp .Eq) (rCmpR C sp E) := op_cmpRv M su hr hx rfl (fun _ _ => rfl) (fun _ _ _ => rfl) PySem.F.slot_int_eq PySem.F.entry_int_eq PySem.F.args_int_eq_2 dec_eq
/-- bool(x) of an instance with its own __bool__ -/
def rBoolO (C : Addr) (sp : Sp) (E : XK) : List V → Hp → VK → Prop := fun xs H Q => ∃ a dx fs, xs = [.ref a] ∧ H a = some (.ins C dx fs) ∧ sp [.ref a] H (fun v H' => ∃ b, v = .bl b ∧ Q v H') E
theorem call_boolO (M : CmpAt X.prog X.w X.K X.mg X.base CX k C "__bool__" ps sp) (hr : Room (k + 2) X.A) (hx : Passes CX X E) : CallR X (.type "bool") (rBoolO C sp E) := by
  intro pins s σ H xs us Q I r h
  obtain ⟨f, fd, hs, hf, F, hb⟩ := M.ex
  obtain ⟨a, dx, fs, rfl, ha, hsp⟩ := h
  obtain ⟨u, rfl, r1⟩ := vals1 r
  obtain rfl : u = Value.ref a := r1
  obtain ⟨ox, od, J, _⟩ := ins_plain I ha
  obtain ⟨m', hF⟩ := I.fr
  have U : Und X k X.A.in1.in1 := (Und.here hr).in1.in1
  refine bool_call hF I.ok.mod.kin J hs hf (wpAny_mono (run_at (vs := [.ref a]) F hb hx U I (.cons rfl .nil) hsp) (fun v s' z => ?_) fun _ _ z => z)
  obtain ⟨z, H', I', rz, b, rfl, q⟩ := z
  cases (show v = Value.bool b from rz)
  exact ⟨.bl b, H', I', rfl, q⟩
/-- abs(x) of an instance with its own __abs__ -/
def rAbsO (C : Addr) (sp : Sp) (E : XK) : List V → Hp → VK → Prop := fun xs H Q => ∃ a dx fs, xs = [.ref a] ∧ H a = some (.ins C dx fs) ∧ sp [.ref a] H Q E
theorem call_absO (M : CmpAt X.prog X.w X.K X.mg X.base CX k C "__abs__" ps sp) (hr : Room (k + 1) X.A) (hx : Passes CX X E) : CallR X (.builtin "abs") (rAbsO C sp E) := by
  intro pins s σ H xs us Q I r h
  obtain ⟨f, fd, hs, hf, F, hb⟩ := M.ex
  obtain ⟨a, dx, fs, rfl, ha, hsp⟩ := h
  obtain ⟨u, rfl, r1⟩ := vals1 r
  obtain rfl : u = Value.ref a := r1
  obtain ⟨ox, od, J, _⟩ := ins_plain I ha
  have U : Und X k X.A.in1 := (Und.here hr).in1
  exact abs_call I.kIn J hs hf (run_at (vs := [.ref a]) F hb hx U I (.cons rfl .nil) hsp)
end
end My
/-! enumerate of a tuple; a class made by a star; a tuple turned about. -/
namespace My
open PySem PySem.Spec PySem.Calls PyProof.Rows L2
/-! ### enumerate(tuple) -/
theorem enum1_meets {v : Value} {o : Obj} {H : Heap → Prop} (B : Begins v o H) :
    Meets (Builtin.«enumerate.__new__» ⟨[.type "enumerate", v], []⟩) (fun _ R s => H s.heap ∧
      R (.ok (.ret (.ref (s.heap.push o).objs.size))) { s with heap := (s.heap.push o).push { cls := .type "enumerate", data := .fields #[.none, .bool false, .ref s.heap.objs.size, rawInt 0, .none, .none] } }) :=
  .of_wp fun prog w A R s h => by
    obtain ⟨hp, g, d, tk, os⟩ := s
    obtain ⟨h1, h⟩ := h
    have hsub := sub_enumerate
    have q1 : ∀ {A' : Around} {E : Value → Shared → Prop} {Q : Value → Shared → Prop}, Q (.ref hp.objs.size) ⟨hp.push o, g, d, tk, os⟩ → wpAny (model prog w) A' (pyIter v) Q E ⟨hp, g, d, tk, os⟩ :=
      fun q => B.iter prog w _ _ ⟨hp, g, d, tk, os⟩ _ h1 q
    wp_walk using q1
    refine wpAny_stack_any fun st => wpAny_pure ?_
    split
    · rename_i c _ _ _ _ _
      cases (c == Value.type "enumerate")
      · wp_walk using q1
        exact ⟨_, rfl, h⟩
      · wp_walk using q1
        exact ⟨_, rfl, h⟩
    · wp_walk using q1
      exact ⟨_, rfl, h⟩
section
variable {prog : Program} {w : World} {A : Around} {E : Value → Shared → Prop} {s : Shared}
theorem enum1_begins {v : Value} {o : Obj} {H : Heap → Prop} {Q : Value → Shared → Prop} (B : Begins v o H) (h1 : H s.heap)
    (h : ∀ h', IsEnum h' (s.heap.objs.size + 1) s.heap.objs.size 0 .none → h'.get? s.heap.objs.size = some o → h'.objs.size = s.heap.objs.size + 2 →
      (∀ b o, s.heap.get? b = some o → h'.get? b = some o) → Q (.ref (s.heap.objs.size + 1)) { s with heap := h' }) :
    wpAny (model prog w) A (call (.type "enumerate") [v]) Q E s := by
  refine callType_new F.called_enumerate (by decide) (F.typeCall_enumerate_1 _) (F.newCall_enumerate_1 _) (fun obj => F.args_object_init_2 obj _) F.entry_enumerate_new (enum1_meets B) ⟨h1, ?_⟩
  have hz : (s.heap.push o).objs.size = s.heap.objs.size + 1 := Heap.size_push ..
  show _ ∧ _
  rw [hz]
  have he : IsEnum ((s.heap.push o).push { cls := .type "enumerate", data := .fields #[.none, .bool false, .ref s.heap.objs.size, rawInt 0, .none, .none] }) (s.heap.objs.size + 1) s.heap.objs.size 0 .none := by
    have z := Heap.get?_push_size (s.heap.push o) (o := { cls := .type "enumerate", data := .fields #[.none, .bool false, .ref s.heap.objs.size, rawInt 0, .none, .none] }) rfl
    rw [hz] at z
    exact z
  exact ⟨⟨_, he, rfl⟩, h _ he (Heap.get?_push_of_some _ (Heap.get?_push_size _ B.free)) (by rw [Heap.size_push, hz]) fun b o x => Heap.get?_push_of_some _ (Heap.get?_push_of_some _ x)⟩
end
/-- the tuple at a, each item in a new pair -/
def IteT (K : PySem.W.Frag) (a : Addr) : It :=
  ⟨fun i H => ∃ (xs : List V) (x : V), SqT K H a xs ∧ xs[i]? = some x, fun i H v H' => ∃ T x, v = .ref T ∧ H T = none ∧ H' = upd H T (.tup [.int (i : Nat), x]) ∧ ∀ xs, SqT K H a xs → xs[i]? = some x, fun i H => ∃ xs : List V, SqT K H a xs ∧ xs.length = i⟩
theorem turn_enumT {P : Program} {w : World} {K : PySem.W.Frag} {elts : List Expr} {kk : Nat} {tpos : Pos} (a e it : Addr) :
    Turn P w K (.Tuple elts kk tpos) (IteT K a) [e, it] e (fun i h => (∃ old, IsEnum h e it ((i : Nat) : Int) old) ∧ h.IsTupleIter it a i ∧ e ≠ it) where
  mem := by simp
  obj := fun i h st b hb => by
    obtain ⟨⟨old, he⟩, ⟨o, ho, hc, hd⟩, _⟩ := st
    rcases (show b = e ∨ b = it by simpa using hb) with rfl | rfl
    · exact ⟨_, he, fun v q => nomatch q⟩
    · exact ⟨o, ho, fun v q => by rw [hd] at q; cases q⟩
  keep := fun i h h' st k => let ⟨⟨old, he⟩, hi, hne⟩ := st; ⟨⟨old, k e (by simp) _ he⟩, hi.at fun o q => k it (by simp) o q, hne⟩
  item := by
    intro X hP hw hK hc i pins s σ H E I hf st hg
    subst hP hw hK
    obtain ⟨⟨old, he⟩, hit, hne⟩ := st
    obtain ⟨xs, x, hq, hx⟩ := hg
    obtain ⟨its, rv, p, hz⟩ := I.tuple hq
    obtain ⟨u, hu, ru⟩ := rv.get hx
    have hel : e < s.heap.objs.size := Heap.lt_size he
    have hil : it < s.heap.objs.size := by obtain ⟨_, q, _⟩ := hit; exact Heap.lt_size q
    have hat : a ≠ it := fun z => by
      obtain ⟨o1, e1, c1, _⟩ := p
      obtain ⟨o2, e2, c2, _⟩ := hit
      rw [z, e2] at e1
      cases e1
      rw [c2] at c1
      exact absurd c1 (by decide)
    have hae : a ≠ e := fun z => by
      obtain ⟨o1, e1, c1, _⟩ := p
      rw [z, show s.heap.get? e = _ from he] at e1
      cases e1
      exact absurd (show Value.type "enumerate" = Value.type "tuple" from c1) (by decide)
    have D := Draws.tuple (prog := X.prog) (w := X.w) (A := X.A.in1) (I.ok.hd hc) it a hat its.toArray
    have hlt : i < its.toArray.size := by
      have := (List.getElem?_eq_some_iff.mp hu).1
      simpa using this
    refine wpAny_pyNext_enum_itemC (n := its.toArray.size) D he ⟨hit, p⟩ hlt hne (by simp; exact ⟨hne, Ne.symm hae⟩) fun x' h' tk hPx ho hst' hT hsz hk => ?_
    have ex : x' = u := by
      have h1 : its.toArray[i]? = some x' := hPx
      rw [List.getElem?_toArray, hu] at h1
      exact (Option.some.inj h1).symm
    subst ex
    refine ⟨_, rfl, wpAny_letOwnedTupleGo_enum (s := { s with heap := h', toks := tk + 1 }) ho fun h'' he' sb => ?_⟩
    have hT2 : h''.get? s.heap.objs.size = some { cls := .type "tuple", data := .seq #[.int i tk, x'] } := (sb.2 _ (Nat.ne_of_gt hel)).trans hT
    have new : ObjOk X.prog X.w (upd H s.heap.objs.size (.tup [.int (i : Nat), x])) h'' s.heap.objs.size (.tup [.int (i : Nat), x]) :=
      ⟨by show 2 ≤ sizeLine; decide, [.int i tk, x'], .cons ⟨_, rfl⟩ (.cons ru .nil), ⟨_, hT2, rfl, _, rfl⟩⟩
    have I1 : Inv X pins σ (upd H s.heap.objs.size (.tup [.int (i : Nat), x])) { s with heap := h'', toks := tk + 1 } :=
      I.turnedNew (ch := [e, it]) (fun b ob hb q => (sb.2 b (fun z => hb (by simp [z]))).trans (hk b ob (fun z => hb (by simp [z])) (fun z => hb (by simp [z])) q)) hf (Nat.le_refl _) new
    refine ⟨.ref s.heap.objs.size, _, I1, rfl, ⟨_, x, rfl, I.hok.fresh (Nat.le_refl _), rfl, fun ys hy => by rw [I.tuple_inj hy hq]; exact hx⟩, ⟨⟨x', ?_⟩, hst'.1.at fun o q => (sb.2 it (Ne.symm hne)).trans q, hne⟩, fun b hb => ?_⟩
    · have e1 : ((i + 1 : Nat) : Int) = (i : Int) + 1 := by omega
      rw [e1]
      exact he'
    · have hb' : b < s.heap.objs.size := by
        rcases (show b = e ∨ b = it by simpa using hb) with rfl | rfl
        · exact hel
        · exact hil
      rw [upd_ne (Nat.ne_of_lt hb')]
      exact (hf b hb).1
  done := by
    intro X hP hw hK hc i pins s σ H E I hf st hg
    subst hP hw hK
    obtain ⟨⟨old, he⟩, hit, hne⟩ := st
    obtain ⟨xs, hq, hx⟩ := hg
    obtain ⟨its, rv, p, hz⟩ := I.tuple hq
    obtain ⟨f0, f1, f2, f3, f4, f5⟩ := hf it (by simp)
    have hl := rv.length
    have hat : a ≠ it := fun z => by
      obtain ⟨o1, e1, c1, _⟩ := p
      obtain ⟨o2, e2, c2, _⟩ := hit
      rw [z, e2] at e1
      cases e1
      rw [c2] at c1
      exact absurd c1 (by decide)
    have D := Draws.tuple (prog := X.prog) (w := X.w) (A := X.A.in1) (I.ok.hd hc) it a hat its.toArray
    have ei : i = its.toArray.size := by
      rw [List.size_toArray]
      omega
    subst ei
    exact wpAny_pyNext_enum_endD D he ⟨hit, p⟩ fun h' eb => ⟨rfl, I.turned (t' := s.toks) (fun b o hb q => eb b o hb q) f0 f1 f3 f4 f5⟩
  self := fun A i s Q E st h => let ⟨⟨_, he⟩, _⟩ := st; wpAny_pyIter_enum he h
def iEnumT (K : PySem.W.Frag) (ta : TA) : TI := fun σ H R => ta σ H fun vs H1 => ∃ a xs, vs = [.ref a] ∧ SqT K H1 a xs ∧ R (IteT K a) H1
theorem pi_enumT {X : Cx} {e : Expr} {ta : TA} {p pos tpos : Pos} {elts : List Expr} {kk : Nat} (hg : Gl X "enumerate") (hm : X.mg "enumerate" = none) (ha : PA X [e] ta) (hs : starEach [e] X.env = [(false, eval e X.env)] := by rfl) :
    PI X (.Tuple elts kk tpos) (.Call (.Name "enumerate" p) [e] [] pos) (iEnumT X.K ta) := by
  refine ⟨fun pins s σ H R I h => ?_⟩
  refine Call_ (ld_blt I hg hm boot_enumerate (PyProof.Rows.callWith_type1 (thn (ha.run pos pins s σ H _ I h) fun us s1 ⟨vs, H1, I1, r1, q1⟩ => ?_) hs rfl))
  obtain ⟨a, xs, ex, hq, q⟩ := q1
  subst ex
  cases r1 with
  | cons r rr =>
    cases rr
    cases r
    obtain ⟨its, rv, p', hz⟩ := I1.tuple hq
    refine enum1_begins (begins_tuple a its.toArray) p' fun h' he hit hsz hk => wpAny_pyIter_enum he ?_
    have I2 : Inv X pins σ H1 { s1 with heap := h' } := I1.kept (t' := s1.toks) hk
    refine ⟨s1.heap.objs.size + 1, [s1.heap.objs.size + 1, s1.heap.objs.size], _, _, H1, rfl, I2, turn_enumT a (s1.heap.objs.size + 1) s1.heap.objs.size, ⟨⟨.none, he⟩, ⟨_, hit, rfl, rfl⟩, Nat.succ_ne_self _⟩, fun b hb => ?_, q⟩
    have hle : s1.heap.objs.size ≤ b := by
      rcases (show b = s1.heap.objs.size + 1 ∨ b = s1.heap.objs.size by simpa using hb) with rfl | rfl
      · exact Nat.le_add_right _ _
      · exact Nat.le_refl _
    exact I1.fpOk hle (I1.hok.fresh hle)
/-! ### t[::-1] of a tuple -/
section
variable {prog : Program} {w : World} {A : Around} {E : Value → Shared → Prop} {s : Shared}
theorem places_rev (n : Nat) : Builtin.Slice.slicePlaces ((n : Int) - 1) (-1) (-1) = n := by
  unfold Builtin.Slice.slicePlaces
  rw [if_neg (by decide)]
  split
  · have e : ((n : Int) - 1 - -1 - 1) / (- -1) + 1 = n := by
      rw [show (- -1 : Int) = 1 by decide, Int.ediv_one]
      omega
    rw [e]
    omega
  · omega
theorem pick_rev (xs : Array Value) : ((List.range xs.size).filterMap fun (k : Nat) => xs[((xs.size : Int) - 1 + (k : Int) * (-1)).toNat]?).toArray = xs.toList.reverse.toArray := by
  have h := PySem.W.krv_pick xs
  rw [← h]
  unfold slicePick
  rw [PySem.W.krv_bounds]
  show _ = ((sliceRange ((xs.size : Int) - 1) (-1) (-1)).filterMap (xs[·]?)).toArray
  rw [PySem.W.krv_sliceRange, List.filterMap_map]
  congr 1
  have go : ∀ l : List Nat, (∀ k ∈ l, k < xs.size) → l.filterMap (fun (k : Nat) => xs[((xs.size : Int) - 1 + (k : Int) * (-1)).toNat]?) = l.filterMap ((fun x => xs[x]?) ∘ fun k => xs.size - 1 - k) := by
    intro l
    induction l with
    | nil => intro _; rfl
    | cons k l ih =>
      intro h
      have hk := h k List.mem_cons_self
      have e : ((xs.size : Int) - 1 + (k : Int) * (-1)).toNat = xs.size - 1 - k := by omega
      rw [List.filterMap_cons, List.filterMap_cons, e, ih fun x hx => h x (List.mem_cons_of_mem _ hx)]
      rfl
  exact go _ fun k hk => List.mem_range.mp hk
theorem getItem_rev {t sl : Addr} {items : Array Value} {vl vu vs : Value} {Q : Value → Shared → Prop} (ht : IsTup s.heap t items) (hs : s.heap.IsSliceOf sl vl vu vs) (pl : IsPart vl none) (pu : IsPart vu none) (ps : IsPart vs (some (-1)))
    (h : Q (.ref s.heap.objs.size) { s with heap := s.heap.push { cls := .type "tuple", data := .seq items.toList.reverse.toArray } }) (hsz : items.size ≤ sizeLine) : wpAny (model prog w) A (getItem (.ref t) (.ref sl)) Q E s := by
  have hok : sizeOk (.seq items.toList.reverse.toArray) := by
    show items.toList.reverse.toArray.size ≤ sizeLine
    rw [List.size_toArray, List.length_reverse, Array.length_toList]
    exact hsz
  obtain ⟨os, hos, hcs, hds⟩ := id hs
  have hTs : s.TypeIs (.ref sl) "slice" := ⟨os, hos, hcs⟩
  unfold getItem
  try with_reducible refine wpAny_holding ?_
  first | refine wpAny_bind (wpAny_pure ?_) | skip
  refine wpAny_bind (wpAny_sequenceKey ht.typeIs (by decide) ?_)
  refine wpAny_bind (wpAny_callSpecial?_slot (name := Str.ofString "__getitem__") ht.typeIs PyProof.Rows.slot_tuple_getitem
    (wpAny_call_entry PyProof.Rows.slot_tuple_getitem ht.typeIs entry_tuple_getitem ?_ (args_tuple_getitem _ _)))
  show wpAny _ _ (Builtin.Tuple.tupleItemsOf (.ref t) >>= _) _ _ s
  refine wpAny_bind (tupleItemsOf_ ht ?_)
  refine wpAny_bind (wpAny_typeOf hTs ?_)
  rw [if_pos (by decide)]
  have app : ∀ {Q : Int × Int × Nat → Shared → Prop}, Q ((items.size : Int) - 1, -1, items.size) s → wpAny (model prog w) A.in1 (Builtin.Slice.sliceApplied (.ref sl) (pure (items.size : Int))) Q E s := fun {Q} q => by
    unfold Builtin.Slice.sliceApplied Builtin.Slice.sliceFields
    refine wpAny_bind (wpAny_bind (wpAny_field hos hds (x := vl) rfl (wpAny_bind (wpAny_field hos hds (x := vu) rfl (wpAny_bind (wpAny_field hos hds (x := vs) rfl (wpAny_pure ?_)))))))
    refine wpAny_bind (HT.slicePart_ ps ?_)
    show wpAny _ _ (if ((-1 : Int) == 0) = true then _ else _) _ _ s
    rw [if_neg (by decide)]
    refine wpAny_bind (HT.slicePart_ pl (wpAny_bind (HT.slicePart_ pu (wpAny_bind (wpAny_pure ?_)))))
    have e : Builtin.Slice.slicePlaces ((items.size : Int) - 1) (-1) (-1) = items.size := places_rev _
    show wpAny _ _ (pure (((items.size : Int) - 1), (-1 : Int), Builtin.Slice.slicePlaces ((items.size : Int) - 1) (-1) (-1))) _ _ s
    rw [e]
    exact wpAny_pure q
  refine wpAny_bind (app ?_)
  have hno : ¬ ((((items.size : Int) - 1) == 0 && (-1 : Int) == 1 && items.size == items.size) = true) := by
    intro q
    rw [Bool.and_eq_true, Bool.and_eq_true] at q
    exact absurd q.1.2 (by decide)
  show wpAny _ _ (if (((items.size : Int) - 1) == 0 && (-1 : Int) == 1 && items.size == items.size) = true then _ else _) _ _ s
  rw [if_neg hno, pick_rev]
  first
    | exact wpAny_bind (m := Builtin.Tuple.tupleExact _) (wpAny_newObj_type (wpAny_pure ⟨_, rfl, wpAny_pure h⟩) hok)
    | exact wpAny_bind (m := Builtin.Tuple.tupleExact _) (wpAny_newObj_type (wpAny_bind (wpAny_pure (wpAny_pure ⟨_, rfl, wpAny_pure h⟩))) hok)
    | exact wpAny_bind (wpAny_bind (m := Builtin.Tuple.tupleExact _) (wpAny_newObj_type (wpAny_pure (wpAny_pure ⟨_, rfl, wpAny_pure h⟩)) hok))
    | exact wpAny_bind (wpAny_bind (m := Builtin.Tuple.tupleExact _) (wpAny_newObj_type (wpAny_pure ⟨_, rfl, wpAny_pure h⟩) hok))
end
end My
/-! A class made by a star, classmethods, x[k] by an own __getitem__, bool of a tuple, a tuple turned about, enumerate in a for. -/
namespace My
open PySem PySem.Spec PySem.Calls PyProof.Rows L2
/-! ### t[::-1] -/
def tRevT (K : PySem.W.Frag) (te : TE) : TE := fun σ H Q => te σ H fun x H1 => ∃ a xs, x = .ref a ∧ SqT K H1 a xs ∧ ∀ p, H1 p = none → Q (.ref p) (upd H1 p (.tup xs.reverse))
theorem pe_revT {X : Cx} {e : Expr} {te : TE} {k : Nat} {p1 p2 p3 pos : Pos} (he : PE X e te) : PE X (.Subscript e (.Slice none none (some (.UnaryOp .USub (.Constant (.int 1) k p1) p2)) p3) pos) (tRevT X.K te) := by
  refine ⟨fun pins s σ H Q I h => ?_⟩
  refine Subscript_ (thn (he.run pins s σ H _ I h) fun v t1 ⟨x, H1, I1, r1, a, xs, ex, hx, q⟩ => ?_)
  subst ex
  cases r1
  have step : PO X (some (.UnaryOp .USub (.Constant (.int 1) k p1) p2)) (tPart (tUn (rU fun i => .int (-i)) (tC (.int 1)))) := po_some (pe_un un_neg pe_int)
  refine wpAny_Slice (thn (po_none.run pins t1 σ H1 (fun o H2 => o = none ∧ H2 = H1) I1 ⟨rfl, rfl⟩) fun vl t2 ⟨l, H2, I2, pl, el, e2⟩ => ?_)
  subst el e2
  refine thn (po_none.run pins t2 σ H2 (fun o H3 => o = none ∧ H3 = H2) I2 ⟨rfl, rfl⟩) fun vu t3 ⟨u, H3, I3, pu, eu, e3⟩ => ?_
  subst eu e3
  refine thn (step.run pins t3 σ H3 (fun o H4 => o = some (-1) ∧ H4 = H3) I3 ⟨1, rfl, -1, rfl, rfl, rfl⟩) fun vs t4 ⟨o, H4, I4, ps, eo, e4⟩ => ?_
  subst eo e4
  have I5 : Inv X pins σ H4 { t4 with heap := t4.heap.push { cls := .type "slice", data := .fields #[vl, vu, vs] } } := I4.kept (t' := t4.toks) fun b ob q => Heap.get?_push_of_some _ q
  obtain ⟨its, r, ht, hz⟩ := I5.tuple hx
  have hlen := r.length
  show wpAny (model X.prog X.w) X.A (subscriptTail e (.Slice none none (some (.UnaryOp .USub (.Constant (.int 1) k p1) p2)) p3) (.ref a) (.ref t4.heap.objs.size)) (EP X pins σ Q) X.xe { t4 with heap := t4.heap.push { cls := .type "slice", data := .fields #[vl, vu, vs] } }
  refine tail_any (ops := [.ref a, .ref t4.heap.objs.size]) ht.typeIs (PyProof.Rows.slot_tuple_getitem.lookup) ?_ (by with_unfolding_all rfl)
  refine getItem_rev ht (Heap.IsSliceOf.new _ vl vu vs) pl pu ps ?_ (by rw [List.size_toArray]; omega)
  refine ⟨.ref _, _, I5.laid (t' := t4.toks) (o := .tup xs.reverse) (fun b ob q => Heap.get?_push_of_some _ q) (Nat.le_refl _) ?_, rfl, q _ (I5.hok.fresh (Nat.le_refl _))⟩
  exact ⟨by rw [List.length_reverse]; exact hz, _, r.reverse, ⟨_, Heap.get?_push_size _ rfl, rfl, _, rfl⟩⟩
/-! ### bool(t) -/
section
variable {prog : Program} {w : World} {A : Around} {E : Value → Shared → Prop} {s : Shared}
theorem bool_tup {t : Addr} {items : Array Value} {Q : Value → Shared → Prop} (hfit : (items.size : Int) < 2 ^ 63) (ht : IsTup s.heap t items) (h : ∀ tk, Q (.bool (!items.isEmpty)) { s with toks := tk }) : wpAny (model prog w) A (call (.type "bool") [.ref t]) Q E s := by
  refine callType_codes (T := "bool") (Bi := Builtin.«object.__init__») (Q₁ := fun r s' => ∃ b, r = .bool b ∧ Q r s') PySem.F.called_bool (PySem.F.typeCall_bool_1 _) PySem.F.entry_object_init ?_ ?_
  · refine codeAny_of_tree ?_
    show wpAny _ A.in1.in1 (do checkBuiltinCall "bool.__new__" ⟨[.type "bool", .ref t], []⟩; again (.builtin "bool.__new__" ⟨[.type "bool", .ref t], []⟩)) _ _ s
    refine wpAny_bind (wpAny_of_eq (PySem.F.newCall_bool_1 _) (wpAny_pure ⟨plainId_quiet (by decide +kernel) _, codeAny_builtin PySem.F.entry_bool_new ?_⟩))
    rw [Around.under_plainId (by decide +kernel) _]
    unfold Builtin.«bool.__new__»
    have f1 := PySem.F.conv_sub_bool
    have go : wpAny (model prog w) A.in1.in1 (truthy (.ref t)) (fun b s' => Q (.bool b) s') E s := truthy_tuple ht hfit (h _)
    refine wpAny_bind (m := isType (.type "bool")) (wpAny_pure ?_)
    refine wpAny_bind (m := isSubtype (.type "bool") (.type "bool")) (wpAny_of_eq f1 ?_)
    refine wpAny_bind (wpAny_pure ?_)
    refine wpAny_bind (m := truthy (.ref t)) (wpAny_mono go (fun b s' hq => ?_) fun _ _ y => y)
    exact wpAny_pure ⟨b, rfl, hq⟩
  · rintro obj s' ⟨b, rfl, hq⟩
    exact ⟨PySem.typeIs_bool _ _, PySem.F.args_object_init_2 _ _, object_init_meets PySem.F.called_bool.init.lookup PySem.F.called_bool.made (by decide) prog w A.in1 _ s' ⟨PySem.typeIs_bool _ _, rfl, hq⟩⟩
end
theorem call_boolT {X : Cx} : CallR X (.type "bool") (fun xs H Q => ∃ (a : Addr) (zs : List V), xs = [.ref a] ∧ SqT X.K H a zs ∧ Q (.bl (!zs.isEmpty)) H) := by
  intro pins s σ H xs us Q I r h
  obtain ⟨a, zs, rfl, hq, q⟩ := h
  obtain rfl := Vals.ref1 r
  obtain ⟨its, rv, pl, hz⟩ := I.tuple hq
  have hl := line63
  have hlen := rv.length
  refine bool_tup (by simp only [List.size_toArray]; omega) pl fun tk => ?_
  exact ⟨.bl (!zs.isEmpty), H, I.tok _, by rw [isEmpty_of rv]; rfl, q⟩
/-! ### a class whose __init__ takes a star -/
structure MakeR (P : Program) (w : World) (K : PySem.W.Frag) (mg : Str → Option Value) (base : Heap) (CX : CXT) (k : Nat) (x : Str) (C : Addr) (sp : Sp) : Prop where
  ex : ∃ f, Mk K C f ∧ FnR P w K mg base CX k f sp ∧ mg x = some (.ref C)
section
variable {X : Cx} {CX : CXT} {k : Nat} {C : Addr} {sp : Sp} {E : XK} {x : Str} {e : Expr} {es : List Expr} {te : TE} {t : TA} {p sp_ pos : Pos}
theorem pe_mkR (M : MakeR X.prog X.w X.K X.mg X.base CX k x C sp) (hr : Room (k + 1) X.A) (hg : Gl X x) (hx : Passes CX X E) (ha : PA X (e :: es) t) (hdb : (x == ("__debug__" : Str)) = false := by decide)
    (he : starEach (e :: es) X.env = (false, eval e X.env) :: starEach es X.env := by rfl) (hpl : (backTo pos (starEach es X.env)).any (·.1) = false := by rfl) : PE X (.Call (.Name x p) (e :: es) [] pos) (StX.tMakeR C sp E t) := by
  obtain ⟨f, mk, F, hm⟩ := M.ex
  exact StX.pe_makeR mk F hr hg hm hx ha hdb he hpl
/-- C() -/
theorem pe_mkR0 (M : MakeR X.prog X.w X.K X.mg X.base CX k x C sp) (hr : Room (k + 1) X.A) (hg : Gl X x) (hx : Passes CX X E) (hdb : (x == ("__debug__" : Str)) = false := by decide) : PE X (.Call (.Name x p) [] [] pos) (StX.tMakeR C sp E tNil) := by
  obtain ⟨f, mk, F, hm⟩ := M.ex
  refine ⟨fun pins s σ H Q I h => ?_⟩
  refine wpAny_Call_Name_kw (ld_glob I hg hm ?_ hdb)
  refine PySem.W.callWith_K0 (first := []) I.kIn mk.kp ?_
  exact StX.run_makeR mk F hr hx I .nil h
/-- C(*e) -/
def tMakeS (K : PySem.W.Frag) (C : Addr) (sp : Sp) (E : XK) (te : TE) : TE := fun σ H Q => te σ H fun y H1 => ∃ a xs, y = V.ref a ∧ (SqT K H1 a xs ∨ SqL K H1 a xs) ∧ ∀ x dx, H1 x = none → H1 dx = none → dx ≠ x →
  sp (V.ref x :: xs) (upd (upd H1 dx (.own x)) x (.ins C dx [])) (fun v H2 => v = .non ∧ Q (.ref x) H2) E
theorem pe_mkS (M : MakeR X.prog X.w X.K X.mg X.base CX k x C sp) (hr : Room (k + 1) X.A) (hg : Gl X x) (hx : Passes CX X E) (he : PE X e te) (hdb : (x == ("__debug__" : Str)) = false := by decide)
    (hst : starEach [.Starred e sp_] X.env = [(true, eval e X.env)] := by rfl) : PE X (.Call (.Name x p) [.Starred e sp_] [] pos) (tMakeS X.K C sp E te) := by
  obtain ⟨f, mk, F, hm⟩ := M.ex
  refine ⟨fun pins s σ H Q I h => ?_⟩
  refine wpAny_Call_Name_kw (ld_glob I hg hm ?_ hdb)
  refine PySem.W.callWith_S (h₀ := X.base) I.ok.mod.kin mk.kp (thn (he.run pins s σ H _ I h) fun v t1 ⟨y, H1, I1, ry, a, xs, ey, hxs, q⟩ => ?_) hst
  subst ey
  obtain rfl : v = Value.ref a := ry
  exact StX.star_any I1 hxs fun us t2 I2 rv => ⟨I2.kIn, StX.run_makeR mk F hr hx I2 rv q⟩
end
/-! ### classmethods -/
theorem fnR_of {P : Program} {w : World} {K : PySem.W.Frag} {mg : Str → Option Value} {base : Heap} {CX : CXT} {k : Nat} {f : Addr} {fd : FuncData} {ps : List Str} {sp : Sp} (F : FnOk P w K mg base CX k f fd ps sp) (b : L2.Binds K fd ps []) : FnR P w K mg base CX k f sp := by
  intro A outer s H us vs Q E hr e0 r hsp
  have hl : (us ++ []).length = ps.length := by
    rw [List.append_nil, ← r.length]
    exact F.len _ _ _ _ hsp
  have hb := b s us (e0.mod.kin.keeps fun b o e => (e0.bs b o e).1) hl
  rw [List.append_nil] at hb
  exact F.run A outer s H ⟨us, []⟩ us vs Q E hr e0 hb r hsp
structure ClsAt (P : Program) (w : World) (K : PySem.W.Frag) (mg : Str → Option Value) (base : Heap) (CX : CXT) (k : Nat) (C : Addr) (m : Str) (sp : Sp) : Prop where
  ex : ∃ mc p g, ClX.CRead K C mc ∧ ClX.CMet K C mc m p g ∧ FnR P w K mg base CX k g sp
theorem pe_cm {X : Cx} {CX : CXT} {k : Nat} {C : Addr} {sp : Sp} {E : XK} {o e : Expr} {es : List Expr} {m : Str} {pos apos : Pos} {ta : TE} {t : TA} {pl : Sem Bool} (M : ClsAt X.prog X.w X.K X.mg X.base CX k C m sp) (hr : Room k X.A) (hx : Passes CX X E) (he : PE X o ta) (ha : PA X (e :: es) t)
    (hst : starEach (e :: es) X.env = (false, eval e X.env) :: starEach es X.env := by rfl) (hpl : (backTo pos (starEach es X.env)).any (·.1) = false := by rfl)
    (ht : eval (.Call (.Attribute o m apos) (e :: es) [] pos) X.env = (do
      let ov ← eval o X.env
      standAt apos.atName
      let (f, first) ← holding [ov] (getMethod ov m pl)
      callWith pos f first (backTo pos (starEach (e :: es) X.env)) (backToKw pos (keywordEach [] X.env))) := by rfl) :
    PE X (.Call (.Attribute o m apos) (e :: es) [] pos) (ClX.tCMeth C sp E ta t) := by
  obtain ⟨mc, p, g, r, c, F⟩ := M.ex
  exact ClX.pe_cmeth he r c F hr hx ha hst hpl ht
/-! ### x[k] by an own __getitem__ -/
structure GetAt (P : Program) (w : World) (K : PySem.W.Frag) (mg : Str → Option Value) (base : Heap) (CX : CXT) (k : Nat) (C : Addr) (ps : List Str) (sp : Sp) : Prop where
  ex : ∃ f fd, PySem.W.findIn K (.ref C) "__getitem__" = some (some (.ref f)) ∧ PySem.W.isFn K (.ref f) = true ∧ PySem.W.fnIn K f = true ∧ FnOk P w K mg base CX k f fd ps sp ∧ L2.Binds K fd ps []
def tGet (C : Addr) (sp : Sp) (E : XK) (ta tb : TE) : TE := fun σ H Q => ta σ H fun x H1 => tb σ H1 fun y H2 => ∃ a dx fs, x = .ref a ∧ H2 a = some (.ins C dx fs) ∧ sp [x, y] H2 Q E
theorem pe_get {X : Cx} {CX : CXT} {k : Nat} {C : Addr} {ps : List Str} {sp : Sp} {E : XK} {a b : Expr} {ta tb : TE} {pos : Pos} (M : GetAt X.prog X.w X.K X.mg X.base CX k C ps sp) (hr : Room (k + 1) X.A) (hx : Passes CX X E) (ha : PE X a ta) (hb : PE X b tb)
    (hsl : ∀ (x : Addr) (i : Value), subscripted b true (.ref x) i = runValue (.builtin "lifetime.subscript" ⟨[.ref x, i], []⟩) := by intro _ _; with_unfolding_all rfl) : PE X (.Subscript a b pos) (tGet C sp E ta tb) := by
  obtain ⟨f, fd, hs, hf, hfn, F, hbd⟩ := M.ex
  refine ⟨fun pins s σ H Q I h => ?_⟩
  refine Subscript_ (binT ha hb I h fun v u s2 x y H2 I2 rx ry q => ?_)
  obtain ⟨p, dx, fs, rfl, hp, hsp⟩ := q
  obtain rfl : v = Value.ref p := rx
  obtain ⟨ox, od, J, _⟩ := ins_plain I2 hp
  obtain ⟨m', hF⟩ := I2.fr
  have U : Und X k X.A.in1 := (Und.here hr).in1
  exact PySem.W.sub_K hF I2.ok.mod.kin J hs hfn hf (run_at (vs := [.ref p, y]) F hbd hx U I2 (.cons rfl (.cons ry .nil)) hsp) (hsl _ _)
end My
/-! A class made by a star, a classmethod, an own __getitem__, from what the top finds. -/
namespace My
open PySem PySem.Spec PyProof.Rows L2
theorem nm_at : Sup.Nm "at" := ⟨by decide, by decide, by decide, by decide, fun _ _ _ _ _ _ _ _ _ _ _ _ => rfl⟩
theorem nm_value : Sup.Nm "value" := ⟨by decide, by decide, by decide, by decide, fun _ _ _ _ _ _ _ _ _ _ _ _ => rfl⟩
structure HasCM (K : PySem.W.Frag) (C : Addr) (m qual : Str) (st : Stmt) : Prop where
  ex : ∃ mc p g fd, ClX.CRead K C mc ∧ ClX.CMet K C mc m p g ∧ Fun K m qual st g fd
section
variable {P : Program} {w : World} {K : PySem.W.Frag} {mg : Str → Option Value} {base : Heap} {CX : CXT} {k : Nat} {x m qual : Str} {st : Stmt} {ps ks : List Str} {sp : Sp} {C : Addr}
theorem makeR_at (A : HasM K C "__init__" qual st) (hx : mg x = some (.ref C)) (mk : PySem.W.makesIn K C = true) (kp : PySem.W.keepIn K (.ref C) = true)
    (ok : ∀ (f : Addr) (oc : Value) (od : Option Addr) (kV doc pm : Value) (an : Option Addr) (cdv ct : Value) (osl : Array (Option Value)), K.lookup f = some ⟨oc, od, .func (PySem.W.fnOf "__init__" qual (defArgs st) (defBody st) (defScope st) .none kV doc pm an cdv ct), osl⟩ → PySem.W.codeIn K cdv qual = true → FnR P w K mg base CX k f sp) : MakeR P w K mg base CX k x C sp := by
  obtain ⟨f, fd, h1, h2, F⟩ := A.ex
  obtain ⟨oc, od, kV, doc, pm, an, cdv, ct, osl, rfl, lk, hcd⟩ := F.ex
  exact ⟨f, ⟨mk, h1, h2, kp⟩, ok f _ _ _ _ _ _ _ _ _ lk hcd, hx⟩
theorem cls_at (A : HasCM K C m qual st) (ok : ∀ f fd, Fun K m qual st f fd → FnOk P w K mg base CX k f fd ps sp) (b : BindW m qual st ps) : ClsAt P w K mg base CX k C m sp := by
  obtain ⟨mc, p, g, fd, h1, h2, F⟩ := A.ex
  exact ⟨mc, p, g, h1, h2, fnR_of (ok g fd F) (F.binds b)⟩
theorem get_at (A : HasM K C "__getitem__" qual st) (ok : ∀ f fd, Fun K "__getitem__" qual st f fd → FnOk P w K mg base CX k f fd ps sp) (b : BindW "__getitem__" qual st ps) : GetAt P w K mg base CX k C ps sp := by
  obtain ⟨f, fd, h1, h2, F⟩ := A.ex
  have F' := F
  obtain ⟨oc, od, kV, doc, pm, an, cdv, ct, osl, rfl, lk, _⟩ := id F.ex
  refine ⟨f, _, h1, h2, ?_, ok f _ F', F'.binds b⟩
  unfold PySem.W.fnIn
  rw [lk]
end
end My
/-! The head by one kernel run: what is looked at behind the top, and the end that goes with it. -/
namespace My
open PySem PySem.Spec PyProof.Rows L2 He
/-! ### what is looked at -/
/-- what is read off the heap, by names -/
inductive Sel where
  | fn (x : Str)
  | cls (x : Str)
  | meth (x m : Str)
  | rcd (x m : Str)
def nsG (g : Addr → Option Obj) (d : Addr) (x : Str) : Addr := match g d with
  | some ⟨_, _, .dict es _, _⟩ => (match es.toList.find? (·.key.isStr x) with
    | some e => (match e.val with
      | .ref a => a
      | _ => 0)
    | none => 0)
  | _ => 0
def clsNs (g : Addr → Option Obj) (C : Addr) : Addr := match g C with
  | some ⟨_, _, .cls cd, _⟩ => cd.ns
  | _ => 0
def mroG (g : Addr → Option Obj) (C : Addr) : List Addr := match g C with
  | some ⟨_, _, .cls cd, _⟩ => cd.mro.flatMap fun v => match v with
    | .ref D => [D, clsNs g D]
    | _ => []
  | _ => []
def fnRefs (g : Addr → Option Obj) (f : Addr) : List Addr := match g f with
  | some ⟨_, _, .func fd, _⟩ => f :: (refV fd.code ++ (refV fd.defaults ++ fd.closure.map (·.2)))
  | _ => []
def recRefs (g : Addr → Option Obj) (p : Addr) : List Addr := match g p with
  | some ⟨_, _, .fields vs, _⟩ => p :: (match vs.toList with
    | .ref f :: _ => fnRefs g f
    | _ => [])
  | _ => []
def Sel.adr (g : Addr → Option Obj) : Sel → List Addr
  | .fn x => fnRefs g (nsG g mainGlobals x)
  | .cls x => mroG g (nsG g mainGlobals x)
  | .meth x m => fnRefs g (nsG g (clsNs g (nsG g mainGlobals x)) m)
  | .rcd x m => recRefs g (nsG g (clsNs g (nsG g mainGlobals x)) m)
def asM (g : Addr → Option Obj) (sl : List Sel) : List Addr := mainGlobals :: cStatics :: sysModules :: sl.flatMap fun x => x.adr g
/-- one def: where it stands, its names, its statement, its defaults -/
structure FD where
  at_ : PySem.W.Frag → Addr
  nm : Str
  qual : Str
  st : Stmt
  dfl : List Dv := []
abbrev FV : Type := Option (Str × Str × Arguments × FuncBody × Scope)
def fv (K : PySem.W.Frag) (a : Addr) : FV := match K.lookup a with
  | some ⟨_, _, .func fd, _⟩ => some (fd.name, fd.qualname, fd.params, fd.body, fd.scope)
  | _ => none
def FD.val (d : FD) : FV := some (d.nm, d.qual, defArgs d.st, .stmts (defBody d.st), defScope d.st)
/-- a plain def -/
def fdB (K : PySem.W.Frag) (a : Addr) (qual : Str) (dvs : List V) : Bool := match K.lookup a with
  | some ⟨_, _, .func fd, _⟩ => decide (fd.globals = mainGlobals) && (decide (fd.builtins = builtinsNs) && (fd.closure.isEmpty && (PySem.W.codeIn K fd.code qual && (dflB K fd.defaults dvs && (decide (fd.kwdefaults = .none) && PySem.W.keepIn K (.ref a))))))
  | _ => false
/-- a def with its class in its closure -/
def fdC (K : PySem.W.Frag) (a : Addr) (qual : Str) (C : Addr) : Bool := match K.lookup a with
  | some ⟨_, _, .func fd, _⟩ => decide (fd.globals = mainGlobals) && (decide (fd.builtins = builtinsNs) && (PySem.W.codeIn K fd.code qual && (decide (fd.defaults = .none) && (decide (fd.kwdefaults = .none) && (match fd.closure with
    | [(x, cc)] => decide (x = ("__class__" : Str)) && (match K.lookup cc with
      | some ⟨_, _, .cell (some (.ref C')), _⟩ => decide (C' = C)
      | _ => false)
    | _ => false)))))
  | _ => false
theorem fdB_ok {K : PySem.W.Frag} {a : Addr} {nm qual : Str} {st : Stmt} {dvs : List V} (e : fv K a = some (nm, qual, defArgs st, .stmts (defBody st), defScope st)) (h : fdB K a qual dvs = true) : ∃ oc od dV doc pm an cdv ct osl,
    K.lookup a = some ⟨oc, od, .func (PySem.W.fnOf nm qual (defArgs st) (defBody st) (defScope st) dV .none doc pm an cdv ct), osl⟩ ∧ PySem.W.codeIn K cdv qual = true ∧ DflV K dV dvs ∧ PySem.W.keepIn K (.ref a) = true := by
  unfold fv at e
  unfold fdB at h
  cases q : K.lookup a with
  | none => rw [q] at h; cases h
  | some o =>
    obtain ⟨oc, od, dt, osl⟩ := o
    rw [q] at h e
    cases dt with
    | func fd =>
      obtain ⟨n1, n2, n3, n4, n5, n6, n7, n8, n9, n10, n11, n12, n13, n14, n15⟩ := fd
      have e2 : (some (n1, n2, n3, n4, n5) : FV) = some (nm, qual, defArgs st, .stmts (defBody st), defScope st) := e
      simp only [Option.some.injEq, Prod.mk.injEq] at e2
      obtain ⟨h1, h2, h3, h4, h5⟩ := e2
      subst h1 h2 h3 h4 h5
      obtain ⟨k1, h⟩ := ba h
      obtain ⟨k2, h⟩ := ba h
      obtain ⟨k3, h⟩ := ba h
      obtain ⟨k4, h⟩ := ba h
      obtain ⟨k5, h⟩ := ba h
      obtain ⟨k6, k7⟩ := ba h
      have l1 : n6 = mainGlobals := of_decide_eq_true k1
      have l2 : n15 = builtinsNs := of_decide_eq_true k2
      have l3 : n7 = [] := List.isEmpty_iff.mp k3
      have l6 : n9 = Value.none := of_decide_eq_true k6
      subst l1 l2 l3 l6
      exact ⟨oc, od, n8, n10, n11, n12, n13, n14, osl, rfl, k4, dflB_ok k5, k7⟩
    | _ => cases h
theorem fdC_ok {K : PySem.W.Frag} {a C : Addr} {nm qual : Str} {st : Stmt} (e : fv K a = some (nm, qual, defArgs st, .stmts (defBody st), defScope st)) (h : fdC K a qual C = true) : ∃ oc od doc pm an cda ct cc osl,
    K.lookup a = some ⟨oc, od, .func (PySem.W.ksFn nm qual (defArgs st) (defBody st) (defScope st) .none .none doc pm an (.ref cda) ct cc), osl⟩ ∧ PySem.W.codeIn K (.ref cda) qual = true ∧ ∃ cl cld csl, K.lookup cc = some ⟨cl, cld, .cell (some (.ref C)), csl⟩ := by
  unfold fv at e
  unfold fdC at h
  cases q : K.lookup a with
  | none => rw [q] at h; cases h
  | some o =>
    obtain ⟨oc, od, dt, osl⟩ := o
    rw [q] at h e
    cases dt with
    | func fd =>
      obtain ⟨n1, n2, n3, n4, n5, n6, n7, n8, n9, n10, n11, n12, n13, n14, n15⟩ := fd
      have e2 : (some (n1, n2, n3, n4, n5) : FV) = some (nm, qual, defArgs st, .stmts (defBody st), defScope st) := e
      simp only [Option.some.injEq, Prod.mk.injEq] at e2
      obtain ⟨h1, h2, h3, h4, h5⟩ := e2
      subst h1 h2 h3 h4 h5
      obtain ⟨k1, h⟩ := ba h
      obtain ⟨k2, h⟩ := ba h
      obtain ⟨k4, h⟩ := ba h
      obtain ⟨k5, h⟩ := ba h
      obtain ⟨k6, k7⟩ := ba h
      have l1 : n6 = mainGlobals := of_decide_eq_true k1
      have l2 : n15 = builtinsNs := of_decide_eq_true k2
      have l5 : n8 = Value.none := of_decide_eq_true k5
      have l6 : n9 = Value.none := of_decide_eq_true k6
      subst l1 l2 l5 l6
      obtain ⟨cda, l4⟩ := codeIn_ref k4
      have l4 : n13 = Value.ref cda := l4
      subst l4
      match n7, k7 with
      | [(x, cc)], k7 =>
        obtain ⟨m1, m2⟩ := ba k7
        have m1 : x = ("__class__" : Str) := of_decide_eq_true m1
        subst m1
        refine ⟨oc, od, n10, n11, n12, cda, n14, cc, osl, rfl, k4, ?_⟩
        cases q2 : K.lookup cc with
        | none => rw [q2] at m2; cases m2
        | some o2 =>
          obtain ⟨cl, cld, cdt, csl⟩ := o2
          rw [q2] at m2
          cases cdt with
          | cell v =>
            match v, m2 with
            | some (.ref C'), m2 =>
              have m3 : C' = C := of_decide_eq_true m2
              subst m3
              exact ⟨cl, cld, csl, rfl⟩
          | _ => cases m2
    | _ => cases h
/-! ### where things stand -/
def refB : Option (List Value) → Bool
  | some (.ref _ :: _) => true
  | _ => false
def refA : Option (List Value) → Addr
  | some (.ref f :: _) => f
  | _ => 0
theorem refB_ok : ∀ {l : Option (List Value)}, refB l = true → ∃ rest, l = some (.ref (refA l) :: rest)
  | none, h => by cases h
  | some [], h => by cases h
  | some (v :: r), h => by
    cases v with
    | ref f => exact ⟨r, rfl⟩
    | _ => cases h
def strQ : Option Value → Str → Bool
  | some (.str file _), f => f == file
  | _, _ => false
theorem strQ_ok : ∀ {o : Option Value} {f : Str}, strQ o f = true → ∃ file tf, o = some (.str file tf) ∧ (f == file) = true
  | none, _, h => by cases h
  | some v, f, h => by
    cases v with
    | str file tf => exact ⟨file, tf, rfl, h⟩
    | _ => cases h
def sAt (t : String) (K : PySem.W.Frag) (C : Addr) (m : Str) : Addr := match PySem.W.findCls K (.ref C) (.type "type") m with
  | some (.get _ (.ref p) _ _) => refA (PySem.W.recIn K p t)
  | _ => 0
def pAt (K : PySem.W.Frag) (C : Addr) (m : Str) : Addr := match PySem.W.findIn K (.ref C) m with
  | some (some (.ref p)) => refA (PySem.W.recIn K p "property")
  | _ => 0
def cAt (K : PySem.W.Frag) (f : Addr) : Addr := match K.lookup f with
  | some ⟨_, _, .func fd, _⟩ => (match fd.code with
    | .ref c => c
    | _ => 0)
  | _ => 0
theorem cAt_eq {K : PySem.W.Frag} {f : Addr} {oc : Value} {od : Option Addr} {osl : Array (Option Value)} {fd : FuncData} {c : Addr} (lk : K.lookup f = some ⟨oc, od, .func fd, osl⟩) (e : fd.code = .ref c) : cAt K f = c := by
  unfold cAt
  rw [lk]
  show (match fd.code with | .ref c => c | _ => 0) = c
  rw [e]
/-! ### the hook -/
abbrev AM : Type := Bool × List FV
def tabM (g : Addr → Option Obj) (tf : List (PySem.W.Frag → Addr)) (K : PySem.W.Frag) : Bool := tf.all fun f => PySem.W.codeHdIn K (cAt K (f K)) (tabOf K (cAt K (f K))) && (match g (tabOf K (cAt K (f K))) with
  | some o => emptyTab o
  | none => false)
def obsK (g : Addr → Option Obj) (fs : List (PySem.W.Frag → Bool)) (fn : List FD) (tf : List (PySem.W.Frag → Addr)) (K : PySem.W.Frag) : AM := ((fs.all fun f => f K) && tabM g tf K, fn.map fun d => fv K (d.at_ K))
def obsM (n : List Sel) (fs : List (PySem.W.Frag → Bool)) (fn : List FD) (tf : List (PySem.W.Frag → Addr)) (g : Addr → Option Obj) : AM := obsK g fs fn tf (frT g (asM g n))
def valM (fn : List FD) : AM := (true, fn.map FD.val)
structure SaysM (fs : List (PySem.W.Frag → Bool)) (fn : List FD) (tf : List (PySem.W.Frag → Addr)) (h : Heap) (K : PySem.W.Frag) : Prop where
  facts : ∀ (i : Nat) (f : PySem.W.Frag → Bool), fs[i]? = some f → f K = true
  defs : ∀ (i : Nat) (d : FD), fn[i]? = some d → fv K (d.at_ K) = d.val
  hd : ∀ (i : Nat) (f : PySem.W.Frag → Addr), tf[i]? = some f → PySem.W.codeHdIn K (cAt K (f K)) (tabOf K (cAt K (f K))) = true
  out : ∀ (i : Nat) (f : PySem.W.Frag → Addr), tf[i]? = some f → K.lookup (tabOf K (cAt K (f K))) = none
  empty : ∀ (i : Nat) (f : PySem.W.Frag → Addr), tf[i]? = some f → h.get? (tabOf K (cAt K (f K))) = some { cls := .none, data := .fields #[] }
theorem saysM_of {n : List Sel} {fs : List (PySem.W.Frag → Bool)} {fn : List FD} {tf : List (PySem.W.Frag → Addr)} {h : Heap} (e : obsM n fs fn tf h.get? = valM fn) : SaysM fs fn tf h (frT h.get? (asM h.get? n)) := by
  have e1 : ((fs.all fun f => f (frT h.get? (asM h.get? n))) && tabM h.get? tf (frT h.get? (asM h.get? n))) = true := congrArg (fun z : AM => z.1) e
  have e2 : (fn.map fun d => fv (frT h.get? (asM h.get? n)) (d.at_ (frT h.get? (asM h.get? n)))) = fn.map FD.val := congrArg (fun z : AM => z.2) e
  obtain ⟨h1, h2⟩ := ba e1
  have key : ∀ (i : Nat) (f : PySem.W.Frag → Addr), tf[i]? = some f → PySem.W.codeHdIn (frT h.get? (asM h.get? n)) (cAt (frT h.get? (asM h.get? n)) (f (frT h.get? (asM h.get? n)))) (tabOf (frT h.get? (asM h.get? n)) (cAt (frT h.get? (asM h.get? n)) (f (frT h.get? (asM h.get? n))))) = true ∧
      ∃ o, h.get? (tabOf (frT h.get? (asM h.get? n)) (cAt (frT h.get? (asM h.get? n)) (f (frT h.get? (asM h.get? n))))) = some o ∧ emptyTab o = true := fun i f hi => by
    obtain ⟨h3, h4⟩ := ba (List.all_eq_true.mp h2 f (List.mem_of_getElem? hi))
    refine ⟨h3, ?_⟩
    cases q : h.get? (tabOf (frT h.get? (asM h.get? n)) (cAt (frT h.get? (asM h.get? n)) (f (frT h.get? (asM h.get? n))))) with
    | none =>
      rw [q] at h4
      cases h4
    | some o =>
      rw [q] at h4
      exact ⟨o, rfl, h4⟩
  refine ⟨fun i f hi => List.all_eq_true.mp h1 f (List.mem_of_getElem? hi), fun i d hi => ?_, fun i f hi => (key i f hi).1, fun i f hi => ?_, fun i f hi => ?_⟩
  · have e3 : (fn.map fun d => fv (frT h.get? (asM h.get? n)) (d.at_ (frT h.get? (asM h.get? n))))[i]? = (fn.map FD.val)[i]? := by rw [e2]
    rw [List.getElem?_map, List.getElem?_map, hi] at e3
    exact Option.some.inj e3
  · obtain ⟨_, o, q, z⟩ := key i f hi
    exact frT_none q z
  · obtain ⟨_, o, q, z⟩ := key i f hi
    rw [q, emptyTab_eq z]
def hookM (n : List Sel) (fs : List (PySem.W.Frag → Bool)) (fn : List FD) (tf : List (PySem.W.Frag → Addr)) : PySem.W.Hook where
  α := AM
  obs := fun s => obsM n fs fn tf s.heap.get?
  val := fun _ => valM fn
  says := fun _ h => ∃ K : PySem.W.Frag, K.In h ∧ SaysM fs fn tf h K
  of := fun _ _ e => ⟨_, frT_in, saysM_of e⟩
  keeps := fun _ _ _ ⟨K, hK, c⟩ k => ⟨K, PySem.W.Frag.In.keeps hK k, ⟨c.facts, c.defs, c.hd, c.out, fun i f hi => k _ _ (c.empty i f hi)⟩⟩
theorem obsM_eq {n : List Sel} {fs : List (PySem.W.Frag → Bool)} {fn : List FD} {tf : List (PySem.W.Frag → Addr)} {g : Addr → Option Obj} {s : Shared} (h : ∀ a, g a = s.heap.get? a) : obsM n fs fn tf g = (hookM n fs fn tf).obs s := by
  have e : g = s.heap.get? := funext h
  rw [e] <;> rfl
/-! ### the end -/
theorem walk_GE {l : PySem.W.OpenLaw} {n k : Nat} {q : Program} {loose : List Str} {XP : (Str → Option Value) → Heap → Prop} {YP : World → Heap → Prop} {d : DefRec} {x : Str}
    (hn : l.most = some n) (hn2 : n ≤ sizeLine) (hdf : d.params.defaults = []) (hr : Room k callerA)
    (F : ∀ (w : World) (mg : Str → Option Value) (fa : Addr) (h : Heap), YP w h → h.Ns mainGlobals mg → mg d.name = some (.ref fa) → ∃ K : PySem.W.Frag, K.In h ∧ LawG l w K k n x mg fa h) :
    PySem.W.WalkO q loose XP YP l.row.toRowW d [] (fun f vs => PySem.call f vs) := by
  refine Att.attach_callB hn hdf fun w s₀ s₁ mg mb fa o pm cd doc a vs ns G Y ho hd hcd hmg hobj hints hlen hbits hg => ?_
  obtain ⟨K, KX, fd, cs, sp, ts, hb, hsp, hF⟩ := F w mg fa _ Y G.T.g hmg
  obtain ⟨H, B⟩ := begins (P := l.prog) (w := w) KX ts hobj hints (Nat.le_trans hlen hn2)
  exact from_begin B KX G.T.g G.T.b G.T.builtins G.T.nolimit hg ts G.T.bmain hobj hr hF hb (hsp H a ns hlen hbits B.tbl B.seq)
/-! ### facts -/
section
variable {K : PySem.W.Frag} {h : Heap} {mg : Str → Option Value} {fs : List (PySem.W.Frag → Bool)} {fn : List FD} {tf : List (PySem.W.Frag → Addr)}
theorem gloM (X : K.In h) (G : h.Ns mainGlobals mg) {x : Str} (c : (Fa.glo x).ok K = true) : mg x = some (.ref (ga K x)) := glo_ok X G c
theorem freeM (X : K.In h) (G : h.Ns mainGlobals mg) {x : Str} (c : (Fa.free x).ok K = true) : mg x = none := free_ok X G c
/-- an attribute of a class that is an object -/
def attB (K : PySem.W.Frag) (C : Addr) (m : Str) : Bool := eqO (PySem.W.findIn K (.ref C) m) (some (some (.ref (ma K C m))))
def fnB (K : PySem.W.Frag) (C : Addr) (m : Str) : Bool := attB K C m && PySem.W.isFn K (.ref (ma K C m))
def statB (K : PySem.W.Frag) (C : Addr) (m : Str) : Bool := eqO (PySem.W.specialIn K (.ref C) "__getattribute__") (some (some (.builtin "type.__getattribute__"))) && (PySem.W.readsIn K C (.type "type") && (PySem.W.keepIn K (.ref (sAt "staticmethod" K C m)) && (match PySem.W.findCls K (.ref C) (.type "type") m with
  | some (.get g (.ref p) o t) => decide (g = .builtin "staticmethod.__get__") && (decide (o = .none) && (decide (t = .ref C) && refB (PySem.W.recIn K p "staticmethod")))
  | _ => false)))
theorem statB_ok {C : Addr} {m : Str} (h : statB K C m = true) : Stat K C m (sAt "staticmethod" K C m) := by
  unfold statB at h
  obtain ⟨h1, h⟩ := ba h
  obtain ⟨h2, h⟩ := ba h
  obtain ⟨h3, h⟩ := ba h
  refine ⟨eqO_ok h1, ⟨.type "type", ?_⟩, h3⟩
  unfold sAt at h3 ⊢
  cases q : PySem.W.findCls K (.ref C) (.type "type") m with
  | none => rw [q] at h; cases h
  | some r =>
    rw [q] at h
    cases r with
    | val v => cases h
    | get g a o t =>
      cases a with
      | ref p =>
        obtain ⟨k1, h5⟩ := ba h
        obtain ⟨k2, h6⟩ := ba h5
        obtain ⟨k3, h7⟩ := ba h6
        have k1 := of_decide_eq_true k1
        have k2 := of_decide_eq_true k2
        have k3 := of_decide_eq_true k3
        subst k1 k2 k3
        obtain ⟨rest, e⟩ := refB_ok h7
        exact ⟨p, rest, h2, rfl, e⟩
      | _ => cases h
def cmetB (K : PySem.W.Frag) (C : Addr) (m : Str) : Bool := PySem.W.fnIn K (sAt "classmethod" K C m) && (match PySem.W.findCls K (.ref C) (.type "type") m with
  | some (.get g (.ref p) o t) => decide (g = .builtin "classmethod.__get__") && (decide (o = .none) && (decide (t = .ref C) && refB (PySem.W.recIn K p "classmethod")))
  | _ => false)
theorem cmetB_ok {C : Addr} {m : Str} (h : cmetB K C m = true) : ∃ p, ClX.CMet K C (.type "type") m p (sAt "classmethod" K C m) := by
  unfold cmetB at h
  obtain ⟨h3, h⟩ := ba h
  unfold sAt at h3 ⊢
  cases q : PySem.W.findCls K (.ref C) (.type "type") m with
  | none => rw [q] at h; cases h
  | some r =>
    rw [q] at h h3
    cases r with
    | val v => cases h
    | get g a o t =>
      cases a with
      | ref p =>
        obtain ⟨k1, h5⟩ := ba h
        obtain ⟨k2, h6⟩ := ba h5
        obtain ⟨k3, h7⟩ := ba h6
        have k1 := of_decide_eq_true k1
        have k2 := of_decide_eq_true k2
        have k3 := of_decide_eq_true k3
        subst k1 k2 k3
        exact ⟨p, q, refB_ok h7, h3⟩
      | _ => cases h
def creadB (K : PySem.W.Frag) (C : Addr) : Bool := PySem.W.readsIn K C (.type "type") && eqO (PySem.W.specialIn K (.ref C) "__getattribute__") (some (some (.builtin "type.__getattribute__")))
theorem creadB_ok {C : Addr} (h : creadB K C = true) : ClX.CRead K C (.type "type") := by
  obtain ⟨h1, h2⟩ := ba h
  exact ⟨h1, eqO_ok h2⟩
def cvalB (K : PySem.W.Frag) (C : Addr) (f : Str) (v : Dv) : Bool := match PySem.W.findCls K (.ref C) (.type "type") f with
  | some (.val u) => relB (v.v K) u
  | _ => false
theorem cvalB_ok {C : Addr} {f : Str} {v : Dv} (h : cvalB K C f v = true) : ∃ u, ClX.CVal K C (.type "type") f (v.v K) u := by
  unfold cvalB at h
  cases q : PySem.W.findCls K (.ref C) (.type "type") f with
  | none => rw [q] at h; cases h
  | some r =>
    rw [q] at h
    cases r with
    | val u => exact ⟨u, q, relB_ok h⟩
    | get _ _ _ _ => cases h
def propB (K : PySem.W.Frag) (C : Addr) (f : Str) : Bool := attB K C f && (eqO (PySem.W.specialIn K (.ref (ma K C f)) "__get__") (some (some (.builtin "property.__get__"))) && (decide (PySem.W.takesIn K (.ref (ma K C f)) = some true) && refB (PySem.W.recIn K (ma K C f) "property")))
theorem propB_ok {C : Addr} {f : Str} (h : propB K C f = true) : PropOf K C f (ma K C f) (pAt K C f) := by
  obtain ⟨h1, h⟩ := ba h
  obtain ⟨h2, h⟩ := ba h
  obtain ⟨h3, h⟩ := ba h
  have h1 := eqO_ok h1
  refine ⟨h1, eqO_ok h2, of_decide_eq_true h3, ?_⟩
  unfold pAt
  rw [h1]
  exact refB_ok h
def excO (K : PySem.W.Frag) (C : Addr) : Bool := (match K.lookup C with
  | some ⟨.type "type", _, .cls cd, sl⟩ => (match cd.mro, sl.toList with
    | .ref C' :: bm, [_, _, _, _, some (.builtin n), _] => C' == C && (n == "ValueError.__new__" && (!cd.hasDel && (cd.hasDict && PySem.HandSPX.refsVE bm)))
    | _, _ => false)
  | _ => false) && (eqO (PySem.W.findIn K (.ref C) "__setattr__") (some (some (.builtin "object.__setattr__"))) && (decide (PySem.W.subIn K (.ref C) (.type "BaseException") = some true) && (decide (PySem.W.typeIn K (.ref C) = some (.type "type")) && PySem.W.keepIn K (.ref C))))
theorem excO_ok {C : Addr} (h : excO K C = true) : L2.OexC K C := by
  obtain ⟨h0, h⟩ := ba h
  obtain ⟨h1, h⟩ := ba h
  obtain ⟨h2, h⟩ := ba h
  obtain ⟨h3, h4⟩ := ba h
  refine ⟨?_, eqO_ok h1, of_decide_eq_true h2, of_decide_eq_true h3, h4⟩
  split at h0
  · rename_i dd cd sl ho
    split at h0
    · rename_i C' bm k0 k1 k2 k3 n k5 hm hs
      simp only [Bool.and_eq_true, beq_iff_eq, Bool.not_eq_true'] at h0
      obtain ⟨rfl, rfl, hdel, hdic, ht⟩ := h0
      obtain ⟨nm, bs, mro, ns, qn, hd, sn, sub, ab, col, del⟩ := cd
      dsimp only at hm hdel hdic
      subst hm hdel hdic
      have hsl : sl = #[k0, k1, k2, k3, some (.builtin "ValueError.__new__"), k5] := by
        obtain ⟨l⟩ := sl
        simp only at hs
        rw [hs]
      subst hsl
      exact ⟨nm, qn, ns, bs, bm, sn, sub, ab, col, dd, k0, k1, k2, k3, k5, ho, ht⟩
    · cases h0
  · cases h0
def fileB (P : Program) (K : PySem.W.Frag) (f : Addr) : Bool := match K.lookup (cAt K f) with
  | some ⟨_, _, .fields vs, _⟩ => strQ (vs[2]? : Option Value) P.main.file
  | _ => false
theorem fileB_ok {P : Program} {f : Addr} (h : fileB P K f = true) : ∃ ccl cdd vs ccs file tf, K.lookup (cAt K f) = some ⟨ccl, cdd, .fields vs, ccs⟩ ∧ vs[2]? = some (.str file tf) ∧ ((P.main.file : Str) == file) = true := by
  unfold fileB at h
  cases q : K.lookup (cAt K f) with
  | none => rw [q] at h; cases h
  | some o =>
    obtain ⟨ccl, cdd, dt, ccs⟩ := o
    rw [q] at h
    cases dt with
    | fields vs =>
      obtain ⟨file, tf, e1, e2⟩ := strQ_ok h
      exact ⟨ccl, cdd, vs, ccs, file, tf, rfl, e1, e2⟩
    | _ => cases h
/-- an error of one field -/
def err1B (P : Program) (K : PySem.W.Frag) (x f qual : Str) : Bool := (Fa.glo x).ok K && (excO K (ga K x) && (xfB K (ga K x) && (eqO (PySem.W.findIn K (.ref (ga K x)) f) (some none) && (attB K (ga K x) "__init__" && (decide (PySem.W.typeIn K (.ref (ma K (ga K x) "__init__")) = some (.type "function")) &&
  (fdC K (ma K (ga K x) "__init__") qual (ga K x) && (fileB P K (ma K (ga K x) "__init__") && (eqO (PySem.W.ks_superIn K (ga K x) (ga K x) "__init__") (some (some (.builtin "ValueError.__init__"))) && (decide (PySem.W.subIn K (.ref (ga K x)) (.type "ValueError") = some true) && (decide (PySem.W.mroIn K (ga K x) (.ref (ga K x)) = some true) &&
  ((Fa.free "super").ok K && eqO (PySem.W.nsIn K cStatics "thirdparty.any") (some none))))))))))))
theorem err1_ok {P : Program} (X : K.In h) (G : h.Ns mainGlobals mg) {x f qual : Str} {st : Stmt} (nm : Sup.Nm f) (c : err1B P K x f qual = true) (e : fv K (ma K (ga K x) "__init__") = (some (("__init__" : Str), qual, defArgs st, FuncBody.stmts (defBody st), defScope st) : FV))
    (ha : ∃ p1 p2, defArgs st = Sup.a1 f p1 p2) (hb : ∃ q1 q2 q3 q4 q5 q6 r1 r2 r3 r4, defBody st = Sup.b1 f q1 q2 q3 q4 q5 q6 r1 r2 r3 r4 ∧ (q3.endLine == q5.line) = true) (hs : defScope st = Sup.s1 f) (top : (P.main.scope.names.lookup ("super" : Str)).isSome = false) :
    Sup.Err1 P K mg x f (ga K x) (ma K (ga K x) "__init__") := by
  obtain ⟨c1, c⟩ := ba c
  obtain ⟨c2, c⟩ := ba c
  obtain ⟨c3, c⟩ := ba c
  obtain ⟨c4, c⟩ := ba c
  obtain ⟨c5, c⟩ := ba c
  obtain ⟨c6, c⟩ := ba c
  obtain ⟨c7, c⟩ := ba c
  obtain ⟨c8, c⟩ := ba c
  obtain ⟨c9, c⟩ := ba c
  obtain ⟨c10, c⟩ := ba c
  obtain ⟨c11, c⟩ := ba c
  obtain ⟨c12, c13⟩ := ba c
  obtain ⟨oc, od, doc, pm, an, cda, ct, cc, osl, lk, hcd, hcell⟩ := fdC_ok e c7
  obtain ⟨p1, p2, ha⟩ := ha
  obtain ⟨q1, q2, q3, q4, q5, q6, r1, r2, r3, r4, hb, hq⟩ := hb
  have hf := fileB_ok c8
  rw [cAt_eq lk rfl] at hf
  rw [ha, hb, hs] at lk
  obtain ⟨ccl, cdd, vs, ccs, file, tf, f1, f2, f3⟩ := hf
  exact ⟨glo_ok X G c1, excO_ok c2, xfB_ok c3, eqO_ok c4, nm, eqO_ok c5, of_decide_eq_true c6, ⟨qual, oc, od, doc, pm, an, cda, ct, cc, osl, p1, p2, q1, q2, q3, q4, q5, q6, r1, r2, r3, r4, lk, hcd, hcell, ccl, cdd, vs, ccs, file, tf, f1, f2, f3, hq⟩, eqO_ok c9, of_decide_eq_true c10, of_decide_eq_true c11, free_ok X G c12, eqO_ok c13, top⟩
def excKB (K : PySem.W.Frag) (C : Addr) : Bool := (PySem.W.clsIn K C).isSome && (eqO (PySem.W.findIn K (.ref C) "__getattribute__") (some (some (.builtin "BaseException.__getattribute__"))) && (eqO (PySem.W.findIn K (.ref C) "__getattr__") (some none) && (decide (PySem.W.subIn K (.ref C) (.type "BaseException") = some true) &&
  (eqO (PySem.W.findIn K (.ref C) "__class__") (some (some (.builtin "object.__class__"))) && (eqO (PySem.W.specialIn K (.builtin "object.__class__") "__get__") (some (some (.builtin "getset_descriptor.__get__"))) && (decide (PySem.W.takesIn K (.builtin "object.__class__") = some true) && decide (PySem.W.mroIn K C (.type "object") = some true)))))))
theorem excKB_ok {C : Addr} (c : excKB K C = true) : ExcK K C := by
  obtain ⟨c1, c⟩ := ba c
  obtain ⟨c2, c⟩ := ba c
  obtain ⟨c3, c⟩ := ba c
  obtain ⟨c4, c⟩ := ba c
  obtain ⟨c5, c⟩ := ba c
  obtain ⟨c6, c⟩ := ba c
  obtain ⟨c7, c8⟩ := ba c
  exact ⟨c1, eqO_ok c2, eqO_ok c3, of_decide_eq_true c4, eqO_ok c5, eqO_ok c6, of_decide_eq_true c7, of_decide_eq_true c8⟩
def clsB (K : PySem.W.Frag) (C : Addr) : Bool := PySem.W.plainGet K C Str.empty && (PySem.W.hasDictIn K C && (PySem.W.plainOver K C && eqO (PySem.W.findIn K (.ref C) "__setattr__") (some (some (.builtin "object.__setattr__")))))
theorem clsB_ok {C : Addr} (c : clsB K C = true) : Cls K C := by
  obtain ⟨c1, c⟩ := ba c
  obtain ⟨c2, c⟩ := ba c
  obtain ⟨c3, c4⟩ := ba c
  exact ⟨c1, c2, c3, eqO_ok c4⟩
def kitB (K : PySem.W.Frag) (v C : Value) (b : Bool) : Bool := decide (PySem.W.kitOne K v C = some b)
def kindsB (K : PySem.W.Frag) (C : Addr) : Bool := ["int", "tuple", "NoneType", "str", "list", "bool", "dict"].all fun t => kitB K (.type t) (.ref C) false && PySem.W.notFirst K C (.type t)
theorem kindsB_ok {C : Addr} (c : kindsB K C = true) : ∀ t ∈ ["int", "tuple", "NoneType", "str", "list", "bool", "dict"], PySem.W.kitOne K (.type t) (.ref C) = some false ∧ PySem.W.notFirst K C (.type t) = true := fun t ht => by
  obtain ⟨c1, c2⟩ := ba (List.all_eq_true.mp c t ht)
  exact ⟨of_decide_eq_true c1, c2⟩
def binB (K : PySem.W.Frag) (C : Addr) (nm : String) : Bool := PySem.W.selfFirst K C && ((match PySem.W.findIn K (.ref C) (dunderR nm) with
  | some none => true
  | some (some (.ref _)) => true
  | _ => false) && ((PySem.W.findIn K (.type "int") (PySem.dunder nm)).isSome && ((PySem.W.findIn K (.type "int") (dunderR nm)).isSome && decide (PySem.W.subIn K (.type "int") (.ref C) = some false))))
theorem binB_ok {C : Addr} {nm : String} (c : binB K C nm = true) : BinF K C nm := by
  obtain ⟨c1, c⟩ := ba c
  obtain ⟨c2, c⟩ := ba c
  obtain ⟨c3, c⟩ := ba c
  obtain ⟨c4, c5⟩ := ba c
  refine ⟨c1, ?_, Option.isSome_iff_exists.mp c3, Option.isSome_iff_exists.mp c4, of_decide_eq_true c5⟩
  match q : PySem.W.findIn K (.ref C) (dunderR nm), c2 with
  | some none, _ => exact ⟨_, rfl, .inl rfl⟩
  | some (some (.ref g)), _ => exact ⟨_, rfl, .inr ⟨g, rfl⟩⟩
/-! ### what the top has written -/
theorem funM {a : Addr} {nm qual : Str} {st : Stmt} (e : fv K a = some (nm, qual, defArgs st, .stmts (defBody st), defScope st)) (c : fdB K a qual [] = true) : ∃ fd, L2.Fun K nm qual st a fd := by
  obtain ⟨oc, od, dV, doc, pm, an, cdv, ct, osl, lk, hcd, hd, kp⟩ := fdB_ok e c
  rcases hd with ⟨_, hd⟩ | ⟨hd, _⟩
  · rw [hd] at lk
    exact ⟨_, L2.fun_mk lk hcd kp⟩
  · exact absurd rfl hd
theorem funDM {a : Addr} {nm qual : Str} {st : Stmt} {dvs : List V} (e : fv K a = some (nm, qual, defArgs st, .stmts (defBody st), defScope st)) (c : fdB K a qual dvs = true) : ∃ fd, FunD K nm qual (defArgs st) (defBody st) (defScope st) dvs [] a fd := by
  obtain ⟨oc, od, dV, doc, pm, an, cdv, ct, osl, lk, hcd, hd, kp⟩ := fdB_ok e c
  exact ⟨_, ⟨oc, od, dV, .none, doc, pm, an, cdv, ct, osl, rfl, lk, hcd, hd, .inl rfl⟩, kp⟩
theorem hasM0 (X : K.In h) (G : h.Ns mainGlobals mg) {x : Str} {st : Stmt} (e : fv K (ga K x) = some (x, x, defArgs st, .stmts (defBody st), defScope st)) (c : ((Fa.glo x).ok K && fdB K (ga K x) x []) = true) : Has K mg x st := by
  obtain ⟨c1, c2⟩ := ba c
  obtain ⟨fd, F⟩ := funM e c2
  exact ⟨_, fd, glo_ok X G c1, F⟩
theorem hasCM (X : K.In h) (G : h.Ns mainGlobals mg) {x : Str} {st : Stmt} (e : fv K (ga K x) = some (x, x, defArgs st, .stmts (defBody st), defScope st)) (c : ((Fa.glo x).ok K && fdB K (ga K x) x []) = true) : HasC K mg x st (cAt K (ga K x)) := by
  obtain ⟨c1, c2⟩ := ba c
  obtain ⟨oc, od, dV, doc, pm, an, cdv, ct, osl, lk, hcd, hd, kp⟩ := fdB_ok e c2
  obtain ⟨cda, l4⟩ := codeIn_ref hcd
  subst l4
  rcases hd with ⟨_, hd⟩ | ⟨hd, _⟩
  · rw [hd] at lk
    rw [cAt_eq lk rfl]
    exact ⟨_, oc, od, _, doc, pm, an, ct, osl, glo_ok X G c1, lk, hcd, kp⟩
  · exact absurd rfl hd
theorem hasMM {C : Addr} {m qual : Str} {st : Stmt} (e : fv K (ma K C m) = some (m, qual, defArgs st, .stmts (defBody st), defScope st)) (c : (fnB K C m && fdB K (ma K C m) qual []) = true) : HasM K C m qual st := by
  obtain ⟨c1, c2⟩ := ba c
  obtain ⟨c3, c4⟩ := ba c1
  obtain ⟨fd, F⟩ := funM e c2
  exact ⟨_, fd, eqO_ok c3, c4, F⟩
theorem hasDM {C : Addr} {m qual : Str} {st : Stmt} {dvs : List V} (e : fv K (ma K C m) = some (m, qual, defArgs st, .stmts (defBody st), defScope st)) (c : (fnB K C m && fdB K (ma K C m) qual dvs) = true) : HasD K C m qual st dvs [] := by
  obtain ⟨c1, c2⟩ := ba c
  obtain ⟨c3, c4⟩ := ba c1
  obtain ⟨fd, F⟩ := funDM e c2
  exact ⟨_, fd, eqO_ok c3, c4, F⟩
theorem hasSM {C : Addr} {m qual : Str} {st : Stmt} (e : fv K (sAt "staticmethod" K C m) = some (m, qual, defArgs st, .stmts (defBody st), defScope st)) (c : (statB K C m && fdB K (sAt "staticmethod" K C m) qual []) = true) : HasS K C m qual st := by
  obtain ⟨c1, c2⟩ := ba c
  obtain ⟨fd, F⟩ := funM e c2
  exact ⟨_, fd, statB_ok c1, F⟩
theorem hasCMM {C : Addr} {m qual : Str} {st : Stmt} (e : fv K (sAt "classmethod" K C m) = some (m, qual, defArgs st, .stmts (defBody st), defScope st)) (c : ((creadB K C && cmetB K C m) && fdB K (sAt "classmethod" K C m) qual []) = true) : HasCM K C m qual st := by
  obtain ⟨c1, c2⟩ := ba c
  obtain ⟨c3, c4⟩ := ba c1
  obtain ⟨fd, F⟩ := funM e c2
  obtain ⟨p, hp⟩ := cmetB_ok c4
  exact ⟨_, p, _, fd, creadB_ok c3, hp, F⟩
theorem tabFM {f : PySem.W.Frag → Addr} (X : K.In h) (c : SaysM fs fn tf h K) (i : Nat) (hi : tf[i]? = some f) : TabF K h (cAt K (f K), tabOf K (cAt K (f K))) := ⟨c.empty i f hi, c.out i f hi, PySem.W.codeHd_of_K X (c.hd i f hi)⟩
end
end My
/-! A def of the module called by keywords alone. -/
namespace My
open PySem PySem.Spec PySem.Calls PyProof.Rows L2
structure DefK (P : Program) (w : World) (K : PySem.W.Frag) (mg : Str → Option Value) (base : Heap) (CX : CXT) (k : Nat) (x : Str) (ps ks : List Str) (sp : Sp) (gV : List V → List V → List V) : Prop where
  ex : ∃ f fd g, mg x = some (.ref f) ∧ PySem.W.keepIn K (.ref f) = true ∧ FnOk P w K mg base CX k f fd ps sp ∧ KBn K fd ps 0 ks g gV
def tDK (j : Nat) (sp : Sp) (gV : List V → List V → List V) (E : XK) (tk : TA) : TE := fun σ H Q => tk σ H fun zs H2 => zs.length = j ∧ sp (gV [] zs) H2 Q E
section
variable {X : Cx} {CX : CXT} {k : Nat} {ps ks : List Str} {sp : Sp} {E : XK} {x : Str} {kws : List Keyword} {tk : TA} {p pos : Pos} {gV : List V → List V → List V}
theorem pe_dK (M : DefK X.prog X.w X.K X.mg X.base CX k x ps ks sp gV) (hr : Room k X.A) (hg : Gl X x) (hx : Passes CX X E) (hkw : PK X kws tk)
    (hall : (backToKw pos (keywordEach kws X.env)).all (·.1.isSome) = true := by rfl) (hks : (backToKw pos (keywordEach kws X.env)).filterMap (·.1) = ks := by rfl) (hdb : (x == ("__debug__" : Str)) = false := by decide)
    (hpl : ((backTo pos (starEach [] X.env)).any (·.1) || (backToKw pos (keywordEach kws X.env)).any (·.1.isNone)) = false := by rfl) :
    PE X (.Call (.Name x p) [] kws pos) (tDK ks.length sp gV E tk) := by
  obtain ⟨f, fd, g, hm, hk, F, b⟩ := M.ex
  refine ⟨fun pins s σ H Q I h => ?_⟩
  refine wpAny_Call_Name_kw (ld_glob I hg hm ?_ hdb)
  refine PySem.W.callWith_KW0 (first := []) (h₀ := X.base) I.ok.mod.kin hk hall (thn (hkw.run pos pins s σ H _ I h) fun ws s2 ⟨zs, H2, I2, rz, l2, q2⟩ => ⟨I2.kIn, ?_⟩) hpl
  rw [hks]
  exact run_fnN (us := []) (vs := []) F hr b hx I2 .nil rz rfl l2 q2
end
end My
/-! For the end: defs called by keywords. -/
namespace My
open PySem PySem.Spec PyProof.Rows L2 He
theorem defK_at {P : Program} {w : World} {K : PySem.W.Frag} {mg : Str → Option Value} {base : Heap} {CX : CXT} {k : Nat} {x : Str} {st : Stmt} {ps ks : List Str} {sp : Sp} {gV : List V → List V → List V} {g : List Value → List Value → List Value} (A : Has K mg x st) (ok : ∀ f fd, Fun K x x st f fd → FnOk P w K mg base CX k f fd ps sp)
    (b : ∀ (kV doc pm : Value) (an : Option Addr) (cdv ct : Value) (us ws : List Value), us.length = 0 → ws.length = ks.length → bindArgs (PySem.W.fnOf x x (defArgs st) (defBody st) (defScope st) .none kV doc pm an cdv ct) ⟨us, ks.zip ws⟩ = pure (ps.zip (g us ws)))
    (r : ∀ {vs : List V} {us : List Value} {zs : List V} {ws : List Value}, Vals vs us → Vals zs ws → Vals (gV vs zs) (g us ws)) : DefK P w K mg base CX k x ps ks sp gV := by
  obtain ⟨f, fd, h1, F⟩ := A.ex
  have kp := F.kp
  obtain ⟨oc, od, kV, doc, pm, an, cdv, ct, osl, rfl, _⟩ := id F.ex
  exact ⟨f, _, g, h1, kp, ok f _ F, ⟨fun s us ws _ l1 l2 => .of_eq (b kV doc pm an cdv ct us ws l1 l2), r⟩⟩
end My
/-! What runs does not touch a generator that sleeps: run it where the sleepers cannot be woken, and put them back. -/
namespace My
open PySem PySem.Spec PyProof.Rows L2 GenW
open Sem (wp)
/-- the same sleeper, but it cannot be woken -/
def killed : GenState → GenState
  | .suspended _ l c p fs cl => .suspended (fun _ => .unsupported "") l c p fs cl
  | x => x
/-- the frames hold no generator's -/
def NoG (fs : List Frame) : Prop := ∀ f ∈ fs, ∀ g k l c p, f ≠ .gen g k l c p
theorem NoG.nil : NoG [] := fun f h => by cases h
theorem NoG.app {a b : List Frame} (h : NoG a) (k : NoG b) : NoG (a ++ b) := fun f hf => by
  rcases List.mem_append.mp hf with z | z
  · exact h f z
  · exact k f z
theorem NoG.ret {k : Result → Sem PySem.Fin} {h g l c p kp} {fs : List Frame} (n : NoG fs) : NoG (.ret k h g l c p kp :: fs) := fun f hf => by
  rcases List.mem_cons.mp hf with z | z
  · rw [z]; intro _ _ _ _ _ w; cases w
  · exact n f z
theorem NoG.tail {f : Frame} {fs : List Frame} (n : NoG (f :: fs)) : NoG fs := fun x hx => n x (List.mem_cons_of_mem _ hx)
theorem NoG.split : ∀ {fs : List Frame}, NoG fs → splitAtGen fs = none
  | [], _ => rfl
  | .ret k h g l c p kp :: fs, n => by
    show (splitAtGen fs).map _ = none
    rw [NoG.split n.tail]; rfl
  | .gen g k l c p :: fs, n => absurd rfl (n _ List.mem_cons_self g k l c p)
theorem no_unsup0 {M : Model} {Γ : PySem.Ctx} {p : Pos} {w : String} {s s' : Shared} {e : End} (h : Runs M Γ p (.unsupported w) [] s e s') : False := by cases h
theorem no_unsup {M : Model} {Γ : PySem.Ctx} {p : Pos} {w : String} {fs : List Frame} {s s' : Shared} {e : End} (h : Runs M Γ p (.unsupported w) fs s e s') : False := by
  cases h with
  | segRet h1 _ => exact no_unsup0 h1
  | segGen h1 _ => exact no_unsup0 h1
  | segSuspOut _ h1 => exact no_unsup0 h1
  | segSuspGen _ h1 _ _ => exact no_unsup0 h1
/-- the sleepers of a table -/
def isSusp : GenState → Bool
  | .suspended .. => true
  | _ => false
/-- a mask: which places are kept, and what sleeps there -/
abbrev Mask := Nat → Option GenState
def putBack (m : Mask) (s : Shared) : Shared := { s with gens := s.gens.mapIdx fun i x => (m i).getD x }
structure Masked (m : Mask) (s : Shared) : Prop where
  at_ : ∀ i S, m i = some S → s.gens[i]? = some (killed S) ∧ isSusp S = true
  fr : ∀ (i : Nat) k l c p fs cl, m i = none → s.gens[i]? = some (.suspended k l c p fs cl) → NoG fs
theorem pb_get (m : Mask) (s : Shared) (i : Nat) : (putBack m s).gens[i]? = (s.gens[i]?).map fun x => (m i).getD x := by
  show (s.gens.mapIdx _)[i]? = _
  rw [Array.getElem?_mapIdx]
theorem pb_none {m : Mask} {s : Shared} {i : Nat} {x : GenState} (h : m i = none) (e : s.gens[i]? = some x) : (putBack m s).gens[i]? = some x := by
  rw [pb_get, e, h]; rfl
theorem pb_some {m : Mask} {s : Shared} {i : Nat} {S x : GenState} (h : m i = some S) (e : s.gens[i]? = some x) : (putBack m s).gens[i]? = some S := by
  rw [pb_get, e, h]; rfl
theorem pb_size (m : Mask) (s : Shared) : (putBack m s).gens.size = s.gens.size := by show (s.gens.mapIdx _).size = _; rw [Array.size_mapIdx]
theorem sh_ext {s t : Shared} (h1 : s.heap = t.heap) (h2 : s.drawn = t.drawn) (h3 : s.toks = t.toks) (h4 : s.os = t.os) (h5 : ∀ i : Nat, s.gens[i]? = t.gens[i]?) : s = t := by
  have e : s.gens = t.gens := Array.ext_getElem? h5
  cases s; cases t; simp_all
theorem pb_setGen {m : Mask} {s : Shared} {g : Nat} {x : GenState} (h : m g = none) : putBack m (s.setGen g x) = (putBack m s).setGen g x := by
  refine sh_ext rfl rfl rfl rfl fun i => ?_
  rw [pb_get]
  show ((s.gens.setIfInBounds g x)[i]?).map _ = ((putBack m s).gens.setIfInBounds g x)[i]?
  rw [Array.getElem?_setIfInBounds, Array.getElem?_setIfInBounds, pb_size, pb_get]
  by_cases z : g = i
  · subst z
    rw [if_pos rfl, if_pos rfl]
    by_cases hl : g < s.gens.size
    · rw [if_pos hl]; simp [h]
    · rw [if_neg hl]; rfl
  · rw [if_neg z, if_neg z]
theorem pb_push {m : Mask} {s : Shared} {x : GenState} (h : m s.gens.size = none) : putBack m { s with gens := s.gens.push x } = { putBack m s with gens := (putBack m s).gens.push x } := by
  refine sh_ext rfl rfl rfl rfl fun i => ?_
  rw [pb_get]
  show ((s.gens.push x)[i]?).map _ = ((putBack m s).gens.push x)[i]?
  rw [Array.getElem?_push, Array.getElem?_push, pb_size, pb_get]
  by_cases z : i = s.gens.size
  · subst z
    rw [if_pos rfl, if_pos rfl]; simp [h]
  · rw [if_neg z, if_neg z]
theorem Masked.size {m : Mask} {s : Shared} (j : Masked m s) : m s.gens.size = none := by
  cases e : m s.gens.size with
  | none => rfl
  | some S =>
    have := (j.at_ _ S e).1
    rw [Array.getElem?_eq_none (Nat.le_refl _)] at this
    cases this
theorem Masked.push {m : Mask} {s : Shared} {c : Code} (j : Masked m s) : Masked m { s with gens := s.gens.push (.fresh c) } := by
  refine ⟨fun i S e => ?_, fun i k l c' p fs cl e q => ?_⟩
  · obtain ⟨h1, h2⟩ := j.at_ i S e
    refine ⟨?_, h2⟩
    have hl : i < s.gens.size := by
      obtain ⟨z, _⟩ := Array.getElem?_eq_some_iff.mp h1; exact z
    show (s.gens.push _)[i]? = _
    rw [Array.getElem?_push, if_neg (Nat.ne_of_lt hl)]; exact h1
  · have q : (s.gens.push (.fresh c))[i]? = _ := q
    rw [Array.getElem?_push] at q
    split at q
    · cases q
    · exact j.fr i k l c' p fs cl e q
theorem Masked.set {m : Mask} {s : Shared} {g : Nat} {x : GenState} (j : Masked m s) (hg : m g = none) (hx : ∀ k l c p fs cl, x = .suspended k l c p fs cl → NoG fs) : Masked m (s.setGen g x) := by
  refine ⟨fun i S e => ?_, fun i k l c p fs cl e q => ?_⟩
  · obtain ⟨h1, h2⟩ := j.at_ i S e
    refine ⟨?_, h2⟩
    have ne : g ≠ i := fun z => by rw [← z, hg] at e; cases e
    show (s.gens.setIfInBounds g x)[i]? = _
    rw [Array.getElem?_setIfInBounds_ne ne]; exact h1
  · have q : (s.gens.setIfInBounds g x)[i]? = _ := q
    rw [Array.getElem?_setIfInBounds] at q
    split at q
    · split at q
      · cases q; exact hx _ _ _ _ _ _ rfl
      · cases q
    · exact j.fr i k l c p fs cl e q
theorem Masked.same {m : Mask} {s t : Shared} (j : Masked m s) (e : t.gens = s.gens) : Masked m t := ⟨fun i S h => by rw [e]; exact j.at_ i S h, fun i k l c p fs cl h q => by rw [e] at q; exact j.fr i k l c p fs cl h q⟩
theorem Masked.free {m : Mask} {s : Shared} {g : Nat} {x : GenState} (j : Masked m s) (e : s.gens[g]? = some x) (n : isSusp x = false) : m g = none := by
  cases h : m g with
  | none => rfl
  | some S =>
    obtain ⟨h1, h2⟩ := j.at_ g S h
    rw [e] at h1
    cases S <;> first | (cases h2; done) | (cases h1; cases n)
theorem killed_seen {S : GenState} : (killed S).seen = S.seen := by cases S <;> rfl
theorem pb_seen {m : Mask} {s : Shared} {g : Nat} {x : GenState} (j : Masked m s) (e : s.gens[g]? = some x) : ∃ y, (putBack m s).gens[g]? = some y ∧ y.seen = x.seen := by
  cases h : m g with
  | none => exact ⟨x, pb_none h e, rfl⟩
  | some S =>
    refine ⟨S, pb_some h e, ?_⟩
    have := (j.at_ g S h).1
    rw [e] at this; cases this
    exact killed_seen.symm
/-- the frames that an end leaves asleep hold no generator's -/
def EndNoG : End → Prop
  | .ret _ => True
  | .susp _ _ _ _ _ _ fs => NoG fs
theorem EndNoG.state {e : End} (h : EndNoG e) : ∀ k l c p fs cl, e.genState = .suspended k l c p fs cl → NoG fs := by
  intro k l c p fs cl q
  cases e with
  | ret r => cases q
  | susp v g l' k' c' p' fs' => cases q; exact h
theorem runs_masked {M : Model} {m : Mask} {Γ : PySem.Ctx} {p : Pos} {t : Sem PySem.Fin} {fs : List Frame} {s s' : Shared} {e : End} (h : Runs M Γ p t fs s e s') :
    NoG fs → Masked m s → Masked m s' ∧ EndNoG e ∧ Runs M Γ p t fs (putBack m s) e (putBack m s') := by
  induction h with
  | done => intro _ j; exact ⟨j, trivial, .done⟩
  | raise => intro _ j; exact ⟨j, trivial, .raise⟩
  | again hq _ ih => intro _ j; obtain ⟨a, b, c⟩ := ih .nil j; exact ⟨a, b, .again hq c⟩
  | rule _ ih => intro _ j; obtain ⟨a, b, c⟩ := ih .nil j; exact ⟨a, b, .rule c⟩
  | «at» _ ih => intro _ j; obtain ⟨a, b, c⟩ := ih .nil j; exact ⟨a, b, .at c⟩
  | load ho _ ih => intro _ j; obtain ⟨a, b, c⟩ := ih .nil j; exact ⟨a, b, .load ho c⟩
  | update ha _ ih => intro _ j; obtain ⟨a, b, c⟩ := ih .nil (j.same rfl); exact ⟨a, b, .update ha c⟩
  | loadIfAlive _ ih => intro _ j; obtain ⟨a, b, c⟩ := ih .nil j; exact ⟨a, b, .loadIfAlive c⟩
  | point _ ih => intro _ j; obtain ⟨a, b, c⟩ := ih .nil j; exact ⟨a, b, .point c⟩
  | alloc _ ih => intro _ j; obtain ⟨a, b, c⟩ := ih .nil (j.same rfl); exact ⟨a, b, .alloc c⟩
  | fresh _ ih => intro _ j; obtain ⟨a, b, c⟩ := ih .nil (j.same rfl); exact ⟨a, b, .fresh c⟩
  | ask _ ih => intro _ j; obtain ⟨a, b, c⟩ := ih .nil j; exact ⟨a, b, .ask c⟩
  | choose hn _ ih => intro _ j; obtain ⟨a, b, c⟩ := ih .nil (j.same rfl); exact ⟨a, b, .choose hn c⟩
  | os _ ih => intro _ j; obtain ⟨a, b, c⟩ := ih .nil (j.same rfl); exact ⟨a, b, .os c⟩
  | handled _ ih => intro _ j; obtain ⟨a, b, c⟩ := ih .nil j; exact ⟨a, b, .handled c⟩
  | genState hg _ ih =>
    intro _ j
    obtain ⟨a, b, c⟩ := ih .nil j
    obtain ⟨y, hy, hs⟩ := pb_seen j hg
    exact ⟨a, b, .genState hy (by rw [hs]; exact c)⟩
  | stack _ ih => intro _ j; obtain ⟨a, b, c⟩ := ih .nil j; exact ⟨a, b, .stack c⟩
  | thread _ ih => intro _ j; obtain ⟨a, b, c⟩ := ih .nil j; exact ⟨a, b, .thread c⟩
  | newGen _ ih =>
    intro _ j
    obtain ⟨a, b, c⟩ := ih .nil j.push
    rw [pb_push j.size] at c
    exact ⟨a, b, .newGen (by rw [pb_size]; exact c)⟩
  | call _ _ ih1 ih2 =>
    intro _ j
    obtain ⟨a1, _, c1⟩ := ih1 .nil j
    obtain ⟨a2, b2, c2⟩ := ih2 .nil a1
    exact ⟨a2, b2, .call c1 c2⟩
  | callSusp _ ih =>
    intro _ j
    obtain ⟨a, b, c⟩ := ih .nil j
    exact ⟨a, NoG.app b (NoG.ret .nil), .callSusp c⟩
  | «yield» => intro _ j; exact ⟨j, .nil, .yield⟩
  | resumeFresh hg _ hq _ ih1 ih2 =>
    intro _ j
    have hm := j.free hg rfl
    obtain ⟨a1, b1, c1⟩ := ih1 .nil (j.set hm fun _ _ _ _ _ _ (z : GenState.running = _) => GenState.noConfusion z)
    rw [pb_setGen hm] at c1
    obtain ⟨a2, b2, c2⟩ := ih2 .nil (a1.set hm b1.state)
    rw [pb_setGen hm] at c2
    exact ⟨a2, b2, .resumeFresh (pb_none hm hg) c1 hq c2⟩
  | @resumeSuspended _ _ g _ _ _ _ _ _ _ _ _ _ _ _ _ _ hg hr hq _ ih1 ih2 =>
    intro _ j
    cases hm : m g with
    | some S =>
      obtain ⟨h1, h2⟩ := j.at_ g S hm
      rw [hg] at h1
      cases S with
      | suspended k l c p fs cl =>
        have h1 := Option.some.inj h1
        unfold killed at h1
        cases h1
        exact (no_unsup hr).elim
      | _ => cases h2
    | none =>
      have nf := j.fr g _ _ _ _ _ _ hm hg
      obtain ⟨a1, b1, c1⟩ := ih1 nf (j.set hm fun _ _ _ _ _ _ (z : GenState.running = _) => GenState.noConfusion z)
      rw [pb_setGen hm] at c1
      obtain ⟨a2, b2, c2⟩ := ih2 .nil (a1.set hm b1.state)
      rw [pb_setGen hm] at c2
      exact ⟨a2, b2, .resumeSuspended (pb_none hm hg) c1 hq c2⟩
  | resumeJustStarted hg hv _ ih =>
    intro _ j
    obtain ⟨a, b, c⟩ := ih .nil j
    exact ⟨a, b, .resumeJustStarted (pb_none (j.free hg rfl) hg) hv c⟩
  | resumeThrowFresh hg _ ih =>
    intro _ j
    have hm := j.free hg rfl
    obtain ⟨a, b, c⟩ := ih .nil (j.set hm fun _ _ _ _ _ _ (z : GenState.finished = _) => GenState.noConfusion z)
    rw [pb_setGen hm] at c
    exact ⟨a, b, .resumeThrowFresh (pb_none hm hg) c⟩
  | resumeRunning hg _ ih =>
    intro _ j
    obtain ⟨a, b, c⟩ := ih .nil j
    exact ⟨a, b, .resumeRunning (pb_none (j.free hg rfl) hg) c⟩
  | resumeFinished hg _ ih =>
    intro _ j
    obtain ⟨a, b, c⟩ := ih .nil j
    exact ⟨a, b, .resumeFinished (pb_none (j.free hg rfl) hg) c⟩
  | segRet _ _ ih1 ih2 =>
    intro n j
    obtain ⟨a1, _, c1⟩ := ih1 .nil j
    obtain ⟨a2, b2, c2⟩ := ih2 n.tail a1
    exact ⟨a2, b2, .segRet c1 c2⟩
  | segGen _ _ _ _ => intro n _; exact absurd rfl (n _ List.mem_cons_self _ _ _ _ _)
  | segSuspOut hs _ ih =>
    intro n j
    obtain ⟨a, b, c⟩ := ih .nil j
    exact ⟨a, NoG.app b n, .segSuspOut hs c⟩
  | segSuspGen hs _ _ _ _ _ => intro n _; rw [n.split] at hs; cases hs
theorem wakes_masked {M : Model} {m : Mask} {Γ : PySem.Ctx} {p : Pos} {g : Nat} {r : Resume} {s s' : Shared} {res : GenResult} (h : Wakes M Γ p g r s res s') (j : Masked m s) : Masked m s' ∧ Wakes M Γ p g r (putBack m s) res (putBack m s') := by
  unfold Wakes at h
  cases hg : s.gens[g]? with
  | none => simp only [hg] at h
  | some gs =>
    simp only [hg] at h
    cases gs with
    | fresh c =>
      have hm := j.free hg rfl
      have e := pb_none hm hg
      cases r with
      | send v =>
        by_cases hv : v = .none
        · subst hv
          obtain ⟨e₁, s₁, h1, hq, hr, hs⟩ := h
          obtain ⟨a1, b1, c1⟩ := runs_masked h1 .nil (j.set hm fun _ _ _ _ _ _ (z : GenState.running = _) => GenState.noConfusion z)
          rw [pb_setGen hm] at c1
          subst hs
          refine ⟨a1.set hm b1.state, ?_⟩
          unfold Wakes
          rw [e]
          exact ⟨e₁, _, c1, hq, hr, pb_setGen hm⟩
        · have h : res = .justStarted ∧ s' = s := by cases v <;> first | exact absurd rfl hv | exact h
          obtain ⟨rfl, rfl⟩ := h
          exact ⟨j, Sem.wakes_justStarted M Γ e hv⟩
      | throw x =>
        obtain ⟨rfl, rfl⟩ := h
        refine ⟨j.set hm (fun _ _ _ _ _ _ (z : GenState.finished = _) => GenState.noConfusion z), ?_⟩
        unfold Wakes; rw [e]; exact ⟨rfl, pb_setGen hm⟩
    | suspended k₀ l₀ c₀ p₀ fs cl =>
      obtain ⟨e₁, s₁, h1, hq, hr, hs⟩ := h
      cases hm : m g with
      | some S =>
        obtain ⟨h1', h2⟩ := j.at_ g S hm
        rw [hg] at h1'
        cases S with
        | suspended k l c p fs cl =>
          have h1' := Option.some.inj h1'
          unfold killed at h1'
          cases h1'
          exact (no_unsup h1).elim
        | _ => cases h2
      | none =>
        obtain ⟨a1, b1, c1⟩ := runs_masked h1 (j.fr g _ _ _ _ _ _ hm hg) (j.set hm fun _ _ _ _ _ _ (z : GenState.running = _) => GenState.noConfusion z)
        rw [pb_setGen hm] at c1
        subst hs
        refine ⟨a1.set hm b1.state, ?_⟩
        unfold Wakes
        rw [pb_none hm hg]
        exact ⟨e₁, _, c1, hq, hr, pb_setGen hm⟩
    | running =>
      obtain ⟨rfl, rfl⟩ := h
      refine ⟨j, ?_⟩
      unfold Wakes; rw [pb_none (j.free hg rfl) hg]; exact ⟨rfl, rfl⟩
    | finished =>
      obtain ⟨rfl, rfl⟩ := h
      refine ⟨j, ?_⟩
      unfold Wakes; rw [pb_none (j.free hg rfl) hg]; exact ⟨rfl, rfl⟩
theorem wp_masked {α : Type} (M : Model) (m : Mask) (Γ : PySem.Ctx) (t : Sem α) : ∀ (Q : α → Pos → Shared → Prop) (E : Value → Pos → Shared → Prop) (p : Pos) (s : Shared), Masked m s → wp M Γ t Q E p s →
    wp M Γ t (fun a p' s' => ∃ s1, s' = putBack m s1 ∧ Masked m s1 ∧ Q a p' s1) (fun e p' s' => ∃ s1, s' = putBack m s1 ∧ Masked m s1 ∧ E e p' s1) p (putBack m s) := by
  induction t with
  | pure a => intro Q E p s j h; exact ⟨s, rfl, j, h⟩
  | raise e => intro Q E p s j h; exact ⟨s, rfl, j, h⟩
  | unsupported _ => intro Q E p s _ h; exact h
  | finish _ => intro Q E p s _ h; exact h
  | rule _ k ih => intro Q E p s j h; exact ih () Q E p s j h
  | «at» p' k ih => intro Q E p s j h; exact ih () Q E p' s j h
  | load a _ k ih => intro Q E p s j h; obtain ⟨o, ho, h⟩ := h; exact ⟨o, ho, ih o Q E p s j h⟩
  | update a _ f k ih => intro Q E p s j h; exact ⟨h.1, ih () Q E p { s with heap := s.heap.update a f } (j.same rfl) h.2⟩
  | loadIfAlive a k ih => intro Q E p s j h; exact ih _ Q E p s j h
  | point _ k ih => intro Q E p s j h; exact ih () Q E p s j h
  | register _ _ => intro Q E p s _ h; exact h
  | alloc o k ih => intro Q E p s j h; exact ih _ Q E p { s with heap := s.heap.push o } (j.same rfl) h
  | fresh k ih => intro Q E p s j h; exact ih _ Q E p { s with toks := s.toks + 1 } (j.same rfl) h
  | ask k ih => intro Q E p s j h; exact ih _ Q E p s j h
  | choose src n k ih => intro Q E p s j h; exact ⟨h.1, ih _ Q E p { s with drawn := s.drawn.bump src } (j.same rfl) h.2⟩
  | os q _ k ih => intro Q E p s j h; exact ih _ Q E p { s with os := (Os.step s.os q).1 } (j.same rfl) h
  | call c hd _ _ k ih =>
    intro Q E p s j h
    obtain ⟨r, s', hr, h⟩ := h
    obtain ⟨a, _, c⟩ := runs_masked hr .nil j
    exact ⟨r, putBack m s', c, ih r Q E p s' a h⟩
  | handled own k ih => intro Q E p s j h; exact ih _ Q E p s j h
  | genState g k ih =>
    intro Q E p s j h
    obtain ⟨st, hs, h⟩ := h
    obtain ⟨y, hy, e⟩ := pb_seen j hs
    refine ⟨y, hy, ?_⟩
    rw [e]
    exact ih _ Q E p s j h
  | newGen c k ih =>
    intro Q E p s j h
    have z := ih _ Q E p { s with gens := s.gens.push (.fresh c) } j.push h
    rw [pb_push j.size] at z
    show wp M Γ (k (putBack m s).gens.size) _ _ p _
    rw [pb_size]
    exact z
  | resume g r _ k ih =>
    intro Q E p s j h
    obtain ⟨res, s', hw, h⟩ := h
    obtain ⟨a, b⟩ := wakes_masked hw j
    exact ⟨res, putBack m s', b, ih res Q E p s' a h⟩
  | yield _ _ _ _ => intro Q E p s _ h; exact h
  | stack k ih => intro Q E p s j h; exact ih _ Q E p s j h
  | fork _ _ => intro Q E p s _ h; exact h
  | thread k ih => intro Q E p s j h; exact ih _ Q E p s j h
  | await _ _ _ _ _ => intro Q E p s _ h; exact h
/-- the sleepers of s, where they stand -/
def maskOf (s : Shared) : Mask := fun i => match s.gens[i]? with
  | some (.suspended k l c p fs cl) => some (.suspended k l c p fs cl)
  | _ => none
/-- s with its sleepers killed -/
def lulled (s : Shared) : Shared := { s with gens := s.gens.map killed }
theorem lulled_get (s : Shared) (i : Nat) : (lulled s).gens[i]? = (s.gens[i]?).map killed := by show (s.gens.map killed)[i]? = _; rw [Array.getElem?_map]
theorem lulled_masked (s : Shared) : Masked (maskOf s) (lulled s) := by
  refine ⟨fun i S e => ?_, fun i k l c p fs cl e q => ?_⟩
  · unfold maskOf at e
    rw [lulled_get]
    split at e
    · rename_i hq; rw [hq]; cases e; exact ⟨rfl, rfl⟩
    · cases e
  · rw [lulled_get] at q
    unfold maskOf at e
    split at e
    · cases e
    · rename_i hn
      cases hs : s.gens[i]? with
      | none => rw [hs] at q; cases q
      | some x =>
        rw [hs] at q
        cases x with
        | suspended k l c p fs cl => exact absurd hs (hn _ _ _ _ _ _)
        | _ => cases q
theorem putBack_lulled (s : Shared) : putBack (maskOf s) (lulled s) = s := by
  refine sh_ext rfl rfl rfl rfl fun i => ?_
  rw [pb_get, lulled_get]
  unfold maskOf
  cases hs : s.gens[i]? with
  | none => rfl
  | some x => cases x <;> rfl
theorem killed_bare (x : GenState) : (killed x).bare = x.bare := by cases x <;> rfl
theorem lulled_bare {s : Shared} (h : AllBare s.gens) : AllBare (lulled s).gens := fun y hy => by
  obtain ⟨x, hx, e⟩ := Array.mem_map.mp hy
  rw [← e, killed_bare]
  exact h x hx
/-- behind it: the sleepers stand as they stood -/
structure Kept (s s1 s' : Shared) : Prop where
  heap : s'.heap = s1.heap
  os : s'.os = s1.os
  bare : AllBare s.gens → AllBare s1.gens → AllBare s'.gens
  gens : ∀ (g : Nat) S, s.gens[g]? = some S → isSusp S = true → s'.gens[g]? = some S
theorem kept_of {s s1 : Shared} (j : Masked (maskOf s) s1) : Kept s s1 (putBack (maskOf s) s1) where
  heap := rfl
  os := rfl
  bare := fun h h1 y hy => by
    obtain ⟨i, hi, e⟩ := Array.mem_iff_getElem.mp hy
    have q : (putBack (maskOf s) s1).gens[i]? = some y := by rw [Array.getElem?_eq_getElem hi, e]
    rw [pb_get] at q
    cases hx : s1.gens[i]? with
    | none => rw [hx] at q; cases q
    | some x =>
      rw [hx] at q
      cases hm : maskOf s i with
      | none => rw [hm] at q; cases q; exact h1 _ (Array.mem_of_getElem? hx)
      | some S =>
        rw [hm] at q; cases q
        unfold maskOf at hm
        split at hm
        · rename_i hq; cases hm; exact h _ (Array.mem_of_getElem? hq)
        · cases hm
  gens := fun g S e hS => by
    have hm : maskOf s g = some S := by
      unfold maskOf; rw [e]
      cases S <;> first | rfl | cases hS
    exact pb_some hm (j.at_ g S hm).1
/-- THE RULE: run where the sleepers cannot be woken -/
theorem wpAny_asleep {α : Type} {M : Model} {A : Around} {s : Shared} {t : Sem α} {Q : α → Shared → Prop} {E : Value → Shared → Prop} (h : wpAny M A t Q E (lulled s)) :
    wpAny M A t (fun a s' => ∃ s1, Kept s s1 s' ∧ Q a s1) (fun e s' => ∃ s1, Kept s s1 s' ∧ E e s1) s := by
  intro Γ p hΓ
  have z := wp_masked M (maskOf s) Γ t (fun a _ s' => Q a s') (fun e _ s' => E e s') p (lulled s) (lulled_masked s) (h Γ p hΓ)
  rw [putBack_lulled] at z
  refine Sem.wp_mono M Γ t (fun a p' s' ⟨s1, e, j, q⟩ => ?_) (fun a p' s' ⟨s1, e, j, q⟩ => ?_) p s z
  · subst e; exact ⟨s1, kept_of j, q⟩
  · subst e; exact ⟨s1, kept_of j, q⟩
theorem Inv.lulled {X : Cx} {pins : List (Addr × Obj)} {σ : L2.St} {H : Hp} {s : Shared} (I : Inv X pins σ H s) : Inv X pins σ H (lulled s) :=
  ⟨I.ok, I.os, lulled_bare I.bare, I.base, I.loc, I.cell, I.free, I.freeC, I.pin, I.hok, I.len⟩
theorem Inv.awake {X : Cx} {pins : List (Addr × Obj)} {σ : L2.St} {H : Hp} {s s1 s' : Shared} (I : Inv X pins σ H s1) (k : Kept s s1 s') (hb : AllBare s.gens) : Inv X pins σ H s' := by
  obtain ⟨a, b, c, d, e, f, g, h, i, j, l⟩ := I
  exact ⟨a, k.os.trans b, k.bare hb c, k.heap ▸ d, k.heap ▸ e, k.heap ▸ f, g, h, fun p hp => k.heap ▸ i p hp, k.heap ▸ j, l⟩
end My
/-! One stretch of a generator's run, from a wake to its next sleep or its end. -/
namespace My
open PySem PySem.Spec PyProof.Rows L2 GenW
open Sem (wp)
/-- one stretch: it ends, and the end is as told -/
def Seg1 (M : Model) (A : Around) (F : End → Shared → Prop) (c : Code) (t : Sem PySem.Fin) (fs : List Frame) (s : Shared) : Prop :=
  ∀ Γ p, Γ.code = c → Γ.Woken A → ∃ e s', Runs M Γ p t fs s e s' ∧ F e s'
section
variable {M : Model} {A : Around} {F : End → Shared → Prop} {c : Code} {fs : List Frame} {s : Shared}
theorem seg1_wrap {α : Type} {m : Sem α} {K : α → Sem PySem.Fin} {H : Value → Sem PySem.Fin} {gd lv}
    (h : wpAny M (A.over c fs) m (fun a s' => Seg1 M A F c (K a) fs s') (fun x s' => Seg1 M A F c (H x) fs s') s) : Seg1 M A F c (m.wrap K H gd lv) fs s := by
  rintro Γ p rfl hΓ
  exact runs_wrap_of_wp K H gd lv m (h (Γ.over fs) p (hΓ.over fs)) (fun a p' s' h' => h' Γ p' rfl hΓ) (fun x p' s' h' => h' Γ p' rfl hΓ)
theorem seg1_bind {α : Type} {m : Sem α} {K : α → Sem PySem.Fin}
    (h : wpAny M (A.over c fs) m (fun a s' => Seg1 M A F c (K a) fs s') (fun x s' => Seg1 M A F c (.raise x) fs s') s) : Seg1 M A F c (m >>= K) fs s := by
  rw [Sem.bind_eq_wrap']; exact seg1_wrap h
theorem seg1_at {p' : Pos} {k : Unit → Sem PySem.Fin} (h : Seg1 M A F c (k ()) fs s) : Seg1 M A F c (.at p' k) fs s :=
  seg1_wrap (m := standAt p') (K := k) (H := .raise) (gd := id) (lv := id) (wpAny_standAt h)
theorem seg1_point {l : List Value} {k : Unit → Sem PySem.Fin} (h : Seg1 M A F c (k ()) fs s) : Seg1 M A F c (.point l k) fs s :=
  seg1_wrap (m := point) (K := k) (H := .raise) (gd := id) (lv := fun _ => l) (wpAny_point h)
theorem seg1_call {c' : Code} {h g l} {k : Result → Sem PySem.Fin} (hc : ∀ p, Seg1 M A F c' (M.den c') (.ret k h g l c p [] :: fs) s) : Seg1 M A F c (.call c' h g l k) fs s := by
  rintro Γ p rfl hΓ
  obtain ⟨e, s', hr, he⟩ := hc p (Γ.goto c') p rfl (hΓ.goto c')
  exact ⟨e, s', runs_call_seg hr, he⟩
theorem seg1_leaf {k h g l c₁ p₁ kp} (r : Result) (hk : Seg1 M A F c₁ (k r) fs s) : Seg1 M A F c (leafOf r) (.ret k h g l c₁ p₁ kp :: fs) s := by
  rintro Γ p rfl hΓ
  obtain ⟨e, s', hr, he⟩ := hk (Γ.goto c₁) p₁ rfl (hΓ.goto c₁)
  exact ⟨e, s', Runs.pop r hr, he⟩
theorem seg1_again {c' : Code} (hq : c'.quiet = true) (hc : Seg1 M A F c' (M.den c') fs s) : Seg1 M A F c (.pure (.again c')) fs s := by
  rintro Γ p rfl hΓ
  obtain ⟨e, s', hr, he⟩ := hc (Γ.goto c') p rfl (hΓ.goto c')
  exact ⟨e, s', Runs.head (c₁ := c') (fun _ _ x => .again hq x) hr, he⟩
theorem seg1_end (r : Result) (h : F (.ret r) s) : Seg1 M A F c (leafOf r) [] s := by
  rintro Γ p rfl _
  exact ⟨.ret r, s, Runs.leaf r, h⟩
theorem seg1_yield {v g l} {k : Resume → Sem PySem.Fin} (hfs : splitAtGen fs = none) (h : ∀ p, F (.susp v g l k c p fs) s) : Seg1 M A F c (.yield v g l k) fs s := by
  rintro Γ p rfl _
  exact ⟨_, s, Runs.yield' fs hfs, h p⟩
theorem seg1_execs_nil {env : Env} {K : Flow → Sem PySem.Fin} {H : Value → Sem PySem.Fin} {gd : Bool → Bool} {lv : List Value → List Value} (h : Seg1 M A F c (K .next) fs s) : Seg1 M A F c ((execs [] env).wrap K H gd lv) fs s := h
theorem seg1_execs_cons {env : Env} {K : Flow → Sem PySem.Fin} {H : Value → Sem PySem.Fin} {gd : Bool → Bool} {lv : List Value → List Value} {st : Stmt} {rest : List Stmt}
    (h : Seg1 M A F c ((exec st env).wrap (fun f => match f with | .next => (execs rest env).wrap K H gd lv | f => K f) H gd lv) fs s) : Seg1 M A F c ((execs (st :: rest) env).wrap K H gd lv) fs s := by rw [execs_cons_wrap]; exact h
theorem seg1_Expr_Yield {env : Env} {K : Flow → Sem PySem.Fin} {H : Value → Sem PySem.Fin} {gd : Bool → Bool} {lv : List Value → List Value} {e : Expr} {ypos pos : Pos} (hfs : splitAtGen fs = none)
    (h : wpAny M (A.over c fs) (eval e env) (fun v s' => ∀ l (k : Resume → Sem PySem.Fin), (∀ s'' F', Seg1 M A F' c (K .next) fs s'' → Seg1 M A F' c (k (.send .none)) fs s'') → ∀ p, F (.susp v (gd false) l k c p fs) s')
      (fun x s' => Seg1 M A F c (H x) fs s') s) (hco : env.scope.isCoroutine = false := by rfl) (hi : interactive env = false := by rfl) :
    Seg1 M A F c ((exec (.Expr (.Yield (some e) ypos) pos) env).wrap K H gd lv) fs s := by
  rw [exec_Expr env _ pos hi rfl]
  show Seg1 M A F c (.at pos fun _ => ((eval e env >>= fun v => (standAt ypos >>= fun _ => yieldOut env v)) >>= fun x => dropValue (.Yield (some e) ypos) pos x).wrap K H gd lv) fs s
  have hy : ∀ v, yieldOut env v = yieldValue v := fun v => by simp only [yieldOut, hco, Bool.false_eq_true, if_false]
  simp only [hy]
  refine seg1_at ?_
  rw [Sem.bind_eq_wrap', Sem.bind_eq_wrap', Sem.wrap_wrap, Sem.wrap_wrap]
  refine seg1_wrap (wpAny_mono h (fun v s' h' => ?_) fun _ _ x => x)
  refine seg1_at (seg1_yield hfs ?_)
  refine h' _ _ fun s'' F' hx => ?_
  exact hx
theorem seg1_For {tg iter : Expr} {body : List Stmt} {pos : Pos} {env : Env} {K : Flow → Sem PySem.Fin} {H : Value → Sem PySem.Fin} {gd : Bool → Bool} {lv : List Value → List Value} (hs : ∀ x, foldedSetIterable iter env x = pure x)
    (h : wpAny M (A.over c fs) (eval iter env) (fun x s1 => wpAny M (A.over c fs) (pyIter x) (fun it s2 => ∀ p, Seg1 M A F (.forLoop tg it body [] env) (M.den (.forLoop tg it body [] env))
      (.ret (fun r => ((match r with | .ok f => (.pure f : Sem Flow) | .error e => .raise e).onRaise (cameBack env)).wrap K H gd lv) none (gd false) (lv []) c p [] :: fs) s2) (fun x s' => Seg1 M A F c (H x) fs s') s1)
      (fun x s' => Seg1 M A F c (H x) fs s') s) : Seg1 M A F c ((exec (.For tg iter body [] pos) env).wrap K H gd lv) fs s := by
  have e0 : (exec (.For tg iter body [] pos) env).wrap K H gd lv = (standAt pos).wrap (fun _ => (eval iter env).wrap (fun v => (foldedSetIterable iter env v).wrap (fun x => (standAt iter.pos).wrap (fun _ => (holding [x] (pyIter x)).wrap (fun it => (runOwn (.forLoop tg it body [] env) env).wrap K H gd lv) H gd lv) H gd lv) H gd lv) H gd lv) H gd lv := by
    rw [exec_For]
    simp only [Sem.bind_eq_wrap', Sem.wrap_wrap, id]
    rfl
  rw [e0]
  refine seg1_wrap (wpAny_standAt (seg1_wrap (wpAny_mono h (fun x s1 h1 => ?_) fun _ _ z => z)))
  rw [hs x]
  show Seg1 M A F c ((standAt iter.pos).wrap _ H gd lv) fs s1
  refine seg1_wrap (wpAny_standAt (seg1_wrap (wpAny_holding (wpAny_mono h1 (fun it s2 h2 => ?_) fun _ _ z => z))))
  exact seg1_call h2
end
section
variable {prog : Program} {w : World} {A : Around} {F : End → Shared → Prop} {fs : List Frame} {s : Shared} {env : Env}
theorem seg1_forLoop {tg : Expr} {it : Value} {body : List Stmt}
    (h : wpAny (model prog w) (A.over (.forLoop tg it body [] env) fs) (pyNext it) (fun r s' => match r with
        | none => Seg1 (model prog w) A F (.block [] env) ((model prog w).den (.block [] env)) fs s'
        | some v => wpAny (model prog w) (A.over (.forLoop tg it body [] env) fs) (letOwnedTupleGo tg it v) (fun _ s1 => wpAny (model prog w) (A.over (.forLoop tg it body [] env) fs) (assign tg env v) (fun _ s2 =>
            Seg1 (model prog w) A F (.forLoop tg it body [] env) ((execs body env).wrap (fun f => match f with
              | .next | .cont => .pure (.again (.forLoop tg it body [] env))
              | .brk => .pure (.done .next)
              | .ret v => .pure (.done (.ret v))) (fun e => (do noteFrame e env; theTreesLotGoes e : Sem Unit).wrap (fun _ => .raise e) .raise id id) id id) fs s2)
              (fun x s' => Seg1 (model prog w) A F (.forLoop tg it body [] env) ((do noteFrame x env; theTreesLotGoes x : Sem Unit).wrap (fun _ => .raise x) .raise id id) fs s') s1)
            (fun x s' => Seg1 (model prog w) A F (.forLoop tg it body [] env) ((do noteFrame x env; theTreesLotGoes x : Sem Unit).wrap (fun _ => .raise x) .raise id id) fs s') s')
      (fun x s' => Seg1 (model prog w) A F (.forLoop tg it body [] env) ((do noteFrame x env; theTreesLotGoes x : Sem Unit).wrap (fun _ => .raise x) .raise id id) fs s') s) :
    Seg1 (model prog w) A F (.forLoop tg it body [] env) ((model prog w).den (.forLoop tg it body [] env)) fs s := by
  show Seg1 _ A F _ ((forTurn tg it body [] env).onRaise (fun x => do noteFrame x env; theTreesLotGoes x)) fs s
  unfold forTurn
  rw [Sem.onRaise_eq_wrap, Sem.bind_eq_wrap', Sem.wrap_wrap]
  refine seg1_wrap (wpAny_standAt ?_)
  rw [Sem.bind_eq_wrap', Sem.wrap_wrap]
  refine seg1_wrap (wpAny_onRaise (wpAny_mono h (fun r s' hr => ?_) fun x s' hx => wpAny_standAt ?_))
  · cases r with
    | none => exact seg1_again rfl hr
    | some v =>
      show Seg1 _ A F _ (Sem.wrap _ _ _ _ (letOwnedTupleGo tg it v >>= fun _ => assign tg env v >>= fun _ => execs body env >>= fun f => _)) fs s'
      rw [Sem.bind_eq_wrap', Sem.wrap_wrap]
      refine seg1_wrap (wpAny_mono hr (fun _ s1 h1 => ?_) fun x s1 hx => ?_)
      · rw [Sem.bind_eq_wrap', Sem.wrap_wrap]
        refine seg1_wrap (wpAny_mono h1 (fun _ s2 h2 => ?_) fun x s2 hx => ?_)
        · rw [Sem.bind_eq_wrap', Sem.wrap_wrap]
          rw [Sem.wrap_congr (execs body env) _ _ (K' := fun f => match f with
              | .next | .cont => .pure (.again (.forLoop tg it body [] env))
              | .brk => .pure (.done .next)
              | .ret v => .pure (.done (.ret v))) (H' := (fun e => (do noteFrame e env; theTreesLotGoes e : Sem Unit).wrap (fun _ => .raise e) .raise id id))
            (fun f => by cases f <;> rfl)
            (fun e => by first | exact Sem.bind_eq_wrap _ _ | (show (do noteFrame e env; theTreesLotGoes e : Sem Unit).bind (fun _ => .raise e) = _; rw [Sem.bind_eq_wrap]))]
          exact h2
        · show Seg1 _ A F _ ((do noteFrame x env; theTreesLotGoes x : Sem Unit).bind fun _ => .raise x) fs s2
          rw [Sem.bind_eq_wrap]; exact hx
      · show Seg1 _ A F _ ((do noteFrame x env; theTreesLotGoes x : Sem Unit).bind fun _ => .raise x) fs s1
        rw [Sem.bind_eq_wrap]; exact hx
  · show Seg1 _ A F _ ((do noteFrame x env; theTreesLotGoes x : Sem Unit).bind fun _ => .raise x) fs s'
    rw [Sem.bind_eq_wrap]; exact hx
theorem seg1_func {body : List Stmt}
    (h : Seg1 (model prog w) A F (.func body env) ((execs body env).wrap (fun f => .pure (.done (.ret (match f with | .ret v => v | _ => .none))))
      (fun e => (leaving env e).wrap (fun _ => .raise e) .raise id id) id id) fs s) :
    Seg1 (model prog w) A F (.func body env) ((model prog w).den (.func body env)) fs s := by
  show Seg1 _ A F _ (.point [] fun _ => ((execs body env).onRaise (leaving env)) >>= _) fs s
  refine seg1_point ?_
  rw [Sem.onRaise_eq_wrap, Sem.bind_eq_wrap', Sem.wrap_wrap]
  rw [Sem.wrap_congr (execs body env) _ _ (K' := fun f => .pure (.done (.ret (match f with | .ret v => v | _ => .none))))
    (H' := fun e => (leaving env e).wrap (fun _ => .raise e) .raise id id) (fun f => by cases f <;> rfl)
    (fun e => by rw [Sem.bind_eq_wrap, Sem.wrap_wrap]; rfl)]
  exact h
end
/-- what a state does when it is woken by next -/
def Wake1 (M : Model) (A : Around) (F : End → Shared → Prop) (gs : GenState) (s : Shared) : Prop :=
  match gs with
  | .fresh c => Seg1 M A F c (M.den c) [] s
  | .suspended k _ c _ fs _ => Seg1 M A F c (k (.send .none)) fs s
  | _ => False
theorem wpAny_resume1 {M : Model} {A : Around} {F : End → Shared → Prop} {E : Value → Shared → Prop} {s : Shared} {g : Nat} {gs : GenState} {l : List Value} {α : Type} {k : GenResult → Sem α} {Q : α → Shared → Prop} (hg : s.gens[g]? = some gs)
    (hgo : Wake1 M A F gs (s.setGen g .running)) (hF : ∀ e s₁, s.gens.size ≤ s₁.gens.size → F e s₁ → e.quiet = true ∧ wpAny M A (k e.result) Q E (s₁.setGen g e.genState)) :
    wpAny M A (.resume g (.send .none) l k) Q E s := by
  intro Γ p hΓ
  rw [Sem.wp_resume]
  have hB : ∀ c, (Γ.wake c p).Woken A := fun c => hΓ.wake c p
  cases gs with
  | fresh c =>
    obtain ⟨e₁, s₁, hr, he⟩ := hgo (Γ.wake c p) p rfl (hB c)
    have hz := runs_gsz hr
    rw [setGen_size] at hz
    obtain ⟨hq, h⟩ := hF e₁ s₁ hz he
    exact ⟨_, _, by unfold Wakes; rw [hg]; exact ⟨e₁, s₁, hr, hq, rfl, rfl⟩, h Γ p hΓ⟩
  | suspended k₀ l₀ c₀ p₀ fs₀ cl =>
    obtain ⟨e₁, s₁, hr, he⟩ := hgo (Γ.wake c₀ p) p₀ rfl (hB c₀)
    have hz := runs_gsz hr
    rw [setGen_size] at hz
    obtain ⟨hq, h⟩ := hF e₁ s₁ hz he
    exact ⟨_, _, by unfold Wakes; rw [hg]; exact ⟨e₁, s₁, hr, hq, rfl, rfl⟩, h Γ p hΓ⟩
  | running => exact hgo.elim
  | finished => exact hgo.elim
section
variable {P : Program} {w : World} {A : Around} {E : Value → Shared → Prop} {s : Shared}
/-- next(g): it hands out, it ends, or an exception leaves it -/
theorem next_gen1 {a : Addr} {g : Nat} {gs : GenState} {F : End → Shared → Prop} {Q : Option Value → Shared → Prop} (hh : A.handled = none) (hl : s.heap.NoLimit) (hroom : A.depth < recursionLimit) (hg : s.heap.IsGen a g) (hgs : s.gens[g]? = some gs)
    (hgo : Wake1 (model P w) A.in1 F gs (s.setGen g .running)) (hF : ∀ e s₁, s.gens.size ≤ s₁.gens.size → F e s₁ → e.quiet = true ∧ match e with
      | .susp v _ _ _ _ _ _ => Q (some v) (s₁.setGen g e.genState)
      | .ret (.ok f) => (f = .ret .none ∨ f = .next) ∧ ∀ h', (∀ b o, s₁.heap.get? b = some o → h'.get? b = some o) → Q none { s₁.setGen g .finished with heap := h' }
      | .ret (.error x) => s₁.heap.IsGen a g ∧ NotStop (model P w) x s₁.heap ∧ E x (s₁.setGen g .finished)) :
    wpAny (model P w) A (pyNext (.ref a)) Q E s := by
  unfold pyNext
  refine wpAny_bind (wpAny_attempt (wpAny_callSpecial?_slot (name := Str.ofString "__next__") hg.typeIs slot_gen_next
    (wpAny_call_entry slot_gen_next hg.typeIs entry_gen_next ?_ (args_gen_next _))))
  show wpAny _ A.in1 (Builtin.Generator.genWake (.ref a) (.send .none)) _ _ s
  unfold Builtin.Generator.genWake
  refine wpAny_bind (wpAny_holding (wpAny_genNumber hg (wpAny_bind (wpAny_genState hgs ?_))))
  cases gs with
  | running => exact hgo.elim
  | finished => exact hgo.elim
  | _ =>
    refine wpAny_bind (wpAny_roomToWake hl hroom ?_)
    show wpAny _ A.in1 (.resume g (.send .none) [] _) _ _ s
    refine wpAny_resume1 hgs hgo fun e s₁ hz he => ?_
    obtain ⟨hq, hm⟩ := hF e s₁ hz he
    refine ⟨hq, ?_⟩
    cases e with
    | susp v g' l' k' c' p' fs' => exact wpAny_pure ⟨v, rfl, wpAny_pure hm⟩
    | ret r =>
      cases r with
      | ok f =>
        obtain ⟨hr, hp⟩ := hm
        have hres : End.result (.ret (.ok f)) = .returned .none := by
          rcases hr with hr | hr <;> rw [hr] <;> rfl
        first | rw [hres] | simp only [hres]
        show wpAny _ A.in1 (newExc (.type "StopIteration") [] >>= _) _ _ _
        refine wpAny_bind ?_
        simp only [newExc, newTuple]
        refine wpAny_bind (wpAny_newObj_type ?_ (by size_fits))
        refine wpAny_bind (m := firstArgMember _ _) (wpAny_of_eq (a := Value.none) (by first | rfl | (simp only [firstArgMember]; rfl)) ?_)
        refine wpAny_newObj_type ?_ (by size_fits)
        simp only [raiseNew]
        refine wpAny_bind (wpAny_bind (wpAny_handled ?_))
        first | rw [show A.in1.handled = none from hh] | rw [hh]
        refine wpAny_throw ?_
        refine wpAny_bind (wpAny_isInstance (T := "StopIteration") (b := true) ⟨_, Heap.get?_push_size _ rfl, rfl⟩ isSubtype_stop ?_)
        exact wpAny_pure (hp _ fun b o hb => Heap.get?_push_of_some _ (Heap.get?_push_of_some _ hb))
      | error x =>
        obtain ⟨hg1, hns, hq'⟩ := hm
        obtain ⟨o, nm, qn, ho, hc, hd, hsl⟩ := hg1
        show wpAny _ A.in1 (Builtin.Generator.genLeft (.ref a) x) _ _ _
        unfold Builtin.Generator.genLeft Builtin.Generator.madeByALambda
        refine wpAny_bind (wpAny_bind (wpAny_load (o := o) ho (wpAny_pure ?_)))
        refine wpAny_bind (hns _ _ _ _ rfl ?_)
        rw [Bool.and_false, if_neg Bool.false_ne_true]
        unfold Builtin.Generator.genEscaped
        first
          | refine wpAny_bind (hns _ _ _ _ rfl ?_)
          | refine wpAny_bind (wpAny_pure (wpAny_bind (hns _ _ _ _ rfl ?_)))
        rw [if_pos (show (!false) = true from rfl)]
        first
          | refine wpAny_throw ?_
          | refine wpAny_bind (wpAny_throw ?_)
        refine wpAny_bind (hns _ _ _ _ rfl ?_)
        rw [if_neg Bool.false_ne_true]
        exact wpAny_throw hq'
end
end My
/-! A generator def's body, whoever takes what it hands out. -/
namespace My
open PySem PySem.Spec PyProof.Rows L2 GenW
/-- the heap's first n objects -/
def cutH (h : Heap) (n : Nat) : Heap := ⟨h.objs.extract 0 n, h.life⟩
theorem cutH_size {h : Heap} {n : Nat} (l : n ≤ h.objs.size) : (cutH h n).objs.size = n := by
  show (h.objs.extract 0 n).size = n
  rw [Array.size_extract]; omega
theorem cutH_get {h : Heap} {n b : Nat} (l : b < n) : (cutH h n).get? b = h.get? b := by
  unfold Heap.get? cutH
  have e : (h.objs.extract 0 n)[b]? = h.objs[b]? := by
    rw [Array.getElem?_extract]
    by_cases hb : b < h.objs.size
    · rw [if_pos (by omega)]; simp
    · rw [if_neg (by omega), Array.getElem?_eq_none (by omega)]
  simp only [e]
theorem cutH_of {h : Heap} {n b : Nat} {o : Obj} (e : (cutH h n).get? b = some o) : b < n ∧ h.get? b = some o := by
  have hl := Heap.lt_size e
  have hl : b < (h.objs.extract 0 n).size := hl
  rw [Array.size_extract] at hl
  have : b < n := by omega
  exact ⟨this, (cutH_get this).symm.trans e⟩
/-- from where a stretch is seen: the objects ahead of the generator's frame as they stand at its wake, the tracked heap, what is pinned -/
structure Root where
  s : Shared
  H : Hp
  pn : List (Addr × Obj)
structure GPar where
  P : Program
  w : World
  K : PySem.W.Frag
  mg : Str → Option Value
  base : Heap
  N : List Str
  qual : Str
  scope : Scope
  f : Addr
  cd : Value
  A : Around
  outer : List Env
  L : Addr
  E : XK
def GPar.env (g : GPar) : Env := envOfC g.qual g.scope g.L g.f g.cd
def GPar.X (g : GPar) (r : Root) : Cx where
  prog := g.P
  w := g.w
  K := g.K
  mg := g.mg
  base := g.base
  A := g.A.deeper (envOfC g.qual g.scope g.L g.f g.cd)
  N := g.N
  s_0 := r.s
  H_0 := r.H
  env := envOfC g.qual g.scope g.L g.f g.cd
  outer := g.outer
  stack := envOfC g.qual g.scope g.L g.f g.cd :: g.outer
  ex := []
  calm := true
  fn := fun _ => true
  pn := r.pn
  xe := fun e s' => wpAny (model g.P g.w) (g.A.deeper (envOfC g.qual g.scope g.L g.f g.cd)) (leaving (envOfC g.qual g.scope g.L g.f g.cd) e)
      (fun _ s'' => CX g.P g.w g.outer r.H r.s g.E e s'' ∧ ∀ p ∈ r.pn, s''.heap.get? p.1 = some p.2) (fun _ _ => False) s'
theorem takes_gX {g : GPar} {r : Root} : Takes (g.X r) (fun cls d _ H' => g.E cls d H') := fun u s' x =>
  XE.leaveG (W := fun cls d _ H' => g.E cls d H') (E := g.E) rfl rfl rfl (fun _ _ _ _ h => h) x
theorem owns_gX {g : GPar} {r : Root} : PassesOwn (model g.P g.w) (g.X r).A (g.X r).env (g.X r).xe :=
  passes_of (X := g.X r) (K := fun e s'' => CX g.P g.w g.outer r.H r.s g.E e s'' ∧ ∀ p ∈ r.pn, s''.heap.get? p.1 = some p.2) (E₁ := fun _ _ => False) rfl
/-- the generator's own state: ip its iterators as they stand -/
structure GInv (g : GPar) (r : Root) (ip : List (Addr × Obj)) (σ : L2.St) (H : Hp) (s : Shared) : Prop where
  size : r.s.heap.objs.size = g.L
  low : ∀ q ∈ ip, g.L ≤ q.1
  apart : ∀ p ∈ r.pn, ∀ q ∈ ip, p.1 ≠ q.1
  inv : Inv (g.X r) ip σ H s
/-- what is handed out at turn i, by the heap at the wake and the heap then; what is promised of the heap at the wake behind turn i -/
structure Prt where
  out : Nat → Hp → V → Hp → Prop
  back : Nat → Hp → Hp → Prop
/-- asleep with i items out: whoever wakes it so .. -/
def PhiG (g : GPar) (T : Prt) (Fn : Nat → Hp → Hp → Prop) : Nat → Nat → Root → End → Shared → Prop
  | 0 => fun i r e s' => match e with
    | .ret (.ok f) => (f = .ret .none ∨ f = .next) ∧ ∃ ip σ H, GInv g r ip σ H s' ∧ Fn i r.H H
    | .ret (.error x) => CX g.P g.w g.outer r.H r.s g.E x s' ∧ ∀ p ∈ r.pn, s'.heap.get? p.1 = some p.2
    | .susp .. => False
  | n + 1 => fun i r e s' => match e with
    | .ret (.ok f) => (f = .ret .none ∨ f = .next) ∧ ∃ ip σ H, GInv g r ip σ H s' ∧ Fn i r.H H
    | .ret (.error x) => CX g.P g.w g.outer r.H r.s g.E x s' ∧ ∀ p ∈ r.pn, s'.heap.get? p.1 = some p.2
    | .susp v gd l k c p fs => (End.susp v gd l k c p fs).quiet = true ∧ ∃ x ip σ H, GInv g r ip σ H s' ∧ RelV x v ∧ T.out i r.H x H ∧
        ∀ r' s'', GInv g r' ip σ r'.H s'' → T.back i H r'.H → Seg1 (model g.P g.w) g.A (PhiG g T Fn n (i + 1) r') c (k (.send .none)) fs s''
theorem phi_end {g : GPar} {T : Prt} {Fn : Nat → Hp → Hp → Prop} {n i : Nat} {r : Root} {f : Flow} {s' : Shared} (h : (f = .ret .none ∨ f = .next) ∧ ∃ ip σ H, GInv g r ip σ H s' ∧ Fn i r.H H) : PhiG g T Fn n i r (.ret (.ok f)) s' := by
  cases n <;> exact h
theorem phi_exc {g : GPar} {T : Prt} {Fn : Nat → Hp → Hp → Prop} {n i : Nat} {r : Root} {x : Value} {s' : Shared} (h : CX g.P g.w g.outer r.H r.s g.E x s' ∧ ∀ p ∈ r.pn, s'.heap.get? p.1 = some p.2) : PhiG g T Fn n i r (.ret (.error x)) s' := by
  cases n <;> exact h
/-- what is wanted behind a statement of a generator: by how many are out -/
structure GEn where
  nx : Nat → Hp → L2.St → Hp → Prop
  rt : Nat → Hp → VK
  bk : Nat → Hp → L2.St → Hp → Prop := fun _ _ _ _ => False
  ct : Nat → Hp → L2.St → Hp → Prop := fun _ _ _ _ => False
def GEn.at (D : GEn) (i : Nat) (Hw : Hp) : Ends := { nx := D.nx i Hw, rt := D.rt i Hw, bk := D.bk i Hw, ct := D.ct i Hw }
abbrev TGg := GEn → Nat → Hp → L2.St → Hp → Prop
def GSQ (g : GPar) (ip : List (Addr × Obj)) (D : GEn) (i : Nat) (f : Flow) (r : Root) (s : Shared) : Prop :=
  match f with
  | .next => ∃ σ H, GInv g r ip σ H s ∧ D.nx i r.H σ H
  | .brk => ∃ σ H, GInv g r ip σ H s ∧ D.bk i r.H σ H
  | .cont => ∃ σ H, GInv g r ip σ H s ∧ D.ct i r.H σ H
  | .ret u => ∃ v σ H, GInv g r ip σ H s ∧ RelV v u ∧ D.rt i r.H v H
structure GCo (g : GPar) (c : Code) (fs : List Frame) (gd : Bool → Bool) : Prop where
  over : g.A.over c fs = g.A.deeper (envOfC g.qual g.scope g.L g.f g.cd)
  split : splitAtGen fs = none
  guard : fs.any Frame.guarded = false
  gd : gd false = false
structure GKo (g : GPar) (T : Prt) (Fn : Nat → Hp → Hp → Prop) (tot : Nat) (ip : List (Addr × Obj)) (c : Code) (fs : List Frame) (K : Flow → Sem PySem.Fin) (J : Value → Sem PySem.Fin) (D : GEn) : Prop where
  ok : ∀ (n i : Nat) (r : Root) (s : Shared) (f : Flow), n + i = tot → GSQ g ip D i f r s → Seg1 (model g.P g.w) g.A (PhiG g T Fn n i r) c (K f) fs s
  exc : ∀ (n i : Nat) (r : Root) (e : Value) (s : Shared), (g.X r).xe e s → Seg1 (model g.P g.w) g.A (PhiG g T Fn n i r) c (J e) fs s
structure GS1 (g : GPar) (T : Prt) (tot : Nat) (st : Stmt) (t : TGg) : Prop where
  run : ∀ (Fn : Nat → Hp → Hp → Prop) (ip : List (Addr × Obj)) (n i : Nat) (r : Root) (c : Code) (fs : List Frame) (K : Flow → Sem PySem.Fin) (J : Value → Sem PySem.Fin) (gd : Bool → Bool) (lv : List Value → List Value) (s : Shared) (σ : L2.St) (H : Hp) (D : GEn),
    GCo g c fs gd → n + i = tot → GKo g T Fn tot ip c fs K J D → GInv g r ip σ H s → t D i r.H σ H → Seg1 (model g.P g.w) g.A (PhiG g T Fn n i r) c ((exec st (envOfC g.qual g.scope g.L g.f g.cd)).wrap K J gd lv) fs s
structure GS1s (g : GPar) (T : Prt) (tot : Nat) (st : List Stmt) (t : TGg) : Prop where
  run : ∀ (Fn : Nat → Hp → Hp → Prop) (ip : List (Addr × Obj)) (n i : Nat) (r : Root) (c : Code) (fs : List Frame) (K : Flow → Sem PySem.Fin) (J : Value → Sem PySem.Fin) (gd : Bool → Bool) (lv : List Value → List Value) (s : Shared) (σ : L2.St) (H : Hp) (D : GEn),
    GCo g c fs gd → n + i = tot → GKo g T Fn tot ip c fs K J D → GInv g r ip σ H s → t D i r.H σ H → Seg1 (model g.P g.w) g.A (PhiG g T Fn n i r) c ((execs st (envOfC g.qual g.scope g.L g.f g.cd)).wrap K J gd lv) fs s
section
variable {g : GPar} {T : Prt} {tot : Nat} {st : Stmt} {rest : List Stmt}
def tPl (t : TS) : TGg := fun D i Hw σ H => t (D.at i Hw) σ H
theorem sp_gsq {ip : List (Addr × Obj)} {r : Root} {s : Shared} {D : GEn} {i : Nat} {f : Flow} (hs : r.s.heap.objs.size = g.L) (hw : ∀ q ∈ ip, g.L ≤ q.1) (ha : ∀ p ∈ r.pn, ∀ q ∈ ip, p.1 ≠ q.1) (h : SP (g.X r) ip (D.at i r.H) f s) : GSQ g ip D i f r s := by
  cases f with
  | next => obtain ⟨σ, H, I, q⟩ := h; exact ⟨σ, H, ⟨hs, hw, ha, I⟩, q⟩
  | brk => obtain ⟨σ, H, I, q⟩ := h; exact ⟨σ, H, ⟨hs, hw, ha, I⟩, q⟩
  | cont => obtain ⟨σ, H, I, q⟩ := h; exact ⟨σ, H, ⟨hs, hw, ha, I⟩, q⟩
  | ret u => obtain ⟨v, σ, H, I, r1, q⟩ := h; exact ⟨v, σ, H, ⟨hs, hw, ha, I⟩, r1, q⟩
theorem g1_ps {t : TS} (h : ∀ r, PS (g.X r) st t) : GS1 g T tot st (tPl t) := by
  refine ⟨fun Fn ip n i r c fs K J gd lv s σ H D gc hn k I ht => ?_⟩
  refine seg1_wrap ?_
  rw [gc.over]
  exact wpAny_mono ((h r).run ip s σ H (D.at i r.H) I.inv ht) (fun f s' hs => k.ok n i r s' f hn (sp_gsq I.size I.low I.apart hs)) fun x s' hx => k.exc n i r x s' hx
theorem g1s_pss {t : TS} (h : ∀ r, PSs (g.X r) rest t) : GS1s g T tot rest (tPl t) := by
  refine ⟨fun Fn ip n i r c fs K J gd lv s σ H D gc hn k I ht => ?_⟩
  refine seg1_wrap ?_
  rw [gc.over]
  exact wpAny_mono ((h r).run ip s σ H (D.at i r.H) I.inv ht) (fun f s' hs => k.ok n i r s' f hn (sp_gsq I.size I.low I.apart hs)) fun x s' hx => k.exc n i r x s' hx
def tG1nil : TGg := fun D i Hw σ H => D.nx i Hw σ H
theorem g1s_nil : GS1s g T tot [] tG1nil := by
  refine ⟨fun Fn ip n i r c fs K J gd lv s σ H D gc hn k I ht => ?_⟩
  exact seg1_execs_nil (k.ok n i r s .next hn ⟨σ, H, I, ht⟩)
def tG1then (t u : TGg) : TGg := fun D i Hw σ H => t { D with nx := fun i' Hw' σ' H' => u D i' Hw' σ' H' } i Hw σ H
theorem g1s_cons {t u : TGg} (a : GS1 g T tot st t) (b : GS1s g T tot rest u) : GS1s g T tot (st :: rest) (tG1then t u) := by
  refine ⟨fun Fn ip n i r c fs K J gd lv s σ H D gc hn k I ht => ?_⟩
  refine seg1_execs_cons ?_
  refine a.run Fn ip n i r c fs _ J gd lv s σ H { D with nx := fun i' Hw' σ' H' => u D i' Hw' σ' H' } gc hn ⟨fun n' i' r' s' f hn' hs => ?_, k.exc⟩ I ht
  cases f with
  | next =>
    obtain ⟨σ', H', I', q⟩ := hs
    exact b.run Fn ip n' i' r' c fs K J gd lv s' σ' H' D gc hn' k I' q
  | brk => exact k.ok n' i' r' s' .brk hn' hs
  | cont => exact k.ok n' i' r' s' .cont hn' hs
  | ret u => exact k.ok n' i' r' s' (.ret u) hn' hs
/-- yield e -/
def tG1yield (T : Prt) (tot : Nat) (te : TE) : TGg := fun D i Hw σ H => i < tot ∧ te σ H fun x H1 => T.out i Hw x H1 ∧ ∀ H2, T.back i H1 H2 → D.nx (i + 1) H2 σ H2
theorem g1_yield {e : Expr} {yp pos : Pos} {te : TE} (he : ∀ r, PE (g.X r) e te) (hco : g.scope.isCoroutine = false := by rfl) (hk : g.scope.kind = .function := by rfl) : GS1 g T tot (.Expr (.Yield (some e) yp) pos) (tG1yield T tot te) := by
  refine ⟨fun Fn ip n i r c fs K J gd lv s σ H D gc hn k I ht => ?_⟩
  obtain ⟨hlt, ht⟩ := ht
  obtain ⟨n, rfl⟩ : ∃ m, n = m + 1 := ⟨n - 1, by omega⟩
  refine seg1_Expr_Yield gc.split ?_ hco (by simp [interactive, envOfC, hk])
  rw [gc.over]
  refine wpAny_mono ((he r).run _ s σ H _ I.inv ht) (fun v s' hv => ?_) fun x s' hx => k.exc _ i r x s' hx
  obtain ⟨x, H1, I1, rv, q1, q2⟩ := hv
  intro l kk hkk p
  refine ⟨?_, x, ip, σ, H1, ⟨I.size, I.low, I.apart, I1⟩, rv, q1, fun r' s'' I' hb => hkk s'' _ ?_⟩
  · show (!(gd false || fs.any Frame.guarded)) = true
    rw [gc.gd, gc.guard]; rfl
  · exact k.ok n (i + 1) r' s'' .next (by omega) ⟨σ, r'.H, I', q2 r'.H hb⟩
theorem gco_loop {c c' : Code} {fs : List Frame} {gd : Bool → Bool} {k : Result → Sem PySem.Fin} {l kp : List Value} {p : Pos} (gc : GCo g c fs gd) (hw : c'.weight = 0) (hu : c'.cUnits = 0) : GCo g c' (.ret k none (gd false) l c p kp :: fs) id where
  over := (over_loop hw hu).trans gc.over
  split := by
    show (splitAtGen fs).map _ = none
    rw [gc.split]; rfl
  guard := by
    show (gd false || fs.any Frame.guarded) = false
    rw [gc.gd, gc.guard]; rfl
  gd := rfl
theorem seg1_cameBack {ip : List (Addr × Obj)} {Fn : Nat → Hp → Hp → Prop} {c : Code} {fs : List Frame} {K : Flow → Sem PySem.Fin} {J : Value → Sem PySem.Fin} {gd : Bool → Bool} {lv : List Value → List Value} {D : GEn} {n i : Nat} {r : Root} {s : Shared} {e : Value}
    (gc : GCo g c fs gd) (k : GKo g T Fn tot ip c fs K J D) (h : cameBackBy (model g.P g.w) (g.X r).A (g.X r).env (g.X r).xe e s) :
    Seg1 (model g.P g.w) g.A (PhiG g T Fn n i r) c (((Sem.raise e : Sem Flow).onRaise (cameBack (envOfC g.qual g.scope g.L g.f g.cd))).wrap K J gd lv) fs s := by
  show Seg1 _ _ _ _ (((cameBack (envOfC g.qual g.scope g.L g.f g.cd) e).bind fun _ => (Sem.raise e : Sem Flow)).wrap K J gd lv) _ _
  rw [Sem.bind_eq_wrap, Sem.wrap_wrap]
  refine seg1_wrap ?_
  rw [gc.over]
  exact wpAny_mono h (fun _ s' hx => k.exc n i r e s' hx) fun x s' hx => k.exc n i r x s' hx
/-- for tg in iter: .. with yields within -/
def tG1for (wi : TI) (gg : TG) (tb : TGg) : TGg := fun D i Hw σ H => wi σ H fun J H1 => ∃ W : Nat → Nat → Nat → Hp → L2.St → Hp → Prop, (∃ m, W 0 m i Hw σ H1) ∧ ∀ j m i Hw σ H, W j m i Hw σ H →
  (J.stop j H ∧ D.nx i Hw σ H) ∨ (J.go j H ∧ ∃ N : Nat → Hp → L2.St → Hp → Prop, (∀ i' Hw' σ' H', N i' Hw' σ' H' → ∃ m', m' < m ∧ W (j + 1) m' i' Hw' σ' H') ∧ ∀ x H', J.yld j H x H' → gg x σ H' fun σ2 H2 => tb { D with nx := N, ct := N, bk := D.nx } i Hw σ2 H2)
theorem g1_for {tg iter : Expr} {body : List Stmt} {pos : Pos} {wi : TI} {gg : TG} {tb : TGg} (hi : ∀ r, PI (g.X r) tg iter wi) (hg : ∀ r, PG (g.X r) tg gg) (hb : GS1s g T tot body tb)
    (hs : ∀ x, foldedSetIterable iter (envOfC g.qual g.scope g.L g.f g.cd) x = pure x := by intro _; rfl) : GS1 g T tot (.For tg iter body [] pos) (tG1for wi gg tb) := by
  refine ⟨fun Fn ip n i r c fs K J gd lv s σ H D gc hn k I ht => ?_⟩
  refine seg1_For hs ?_
  rw [gc.over]
  refine wpAny_mono ((hi r).run ip s σ H _ I.inv ht) (fun v s1 h1 => ?_) fun x s' hx => k.exc n i r x s' hx
  refine wpAny_mono h1 (fun itv s2 h2 p => ?_) fun x s' hx => k.exc n i r x s' hx
  obtain ⟨it, fp, tn, Jt, H2, e, I2, TT, st2, f2, W, ⟨m0, w0⟩, turn⟩ := h2
  subst e
  have gl := fun (kk : Result → Sem PySem.Fin) => gco_loop (k := kk) (c' := .forLoop tg (.ref it) body [] (envOfC g.qual g.scope g.L g.f g.cd)) (l := lv []) (kp := []) (p := p) gc rfl rfl
  have gb := fun (kk : Result → Sem PySem.Fin) => gco_loop (k := kk) (c' := .block [] (envOfC g.qual g.scope g.L g.f g.cd)) (l := lv []) (kp := []) (p := p) gc rfl rfl
  -- what stays true of the iterator's objects
  have fL : ∀ b ∈ fp, g.L ≤ b := fun b hb => by
    obtain ⟨_, _, _, z | z, _⟩ := f2 b hb
    · cases z
    · have z : r.s.heap.objs.size ≤ b := z
      rw [I.size] at z; exact z
  have fNe : ∀ b ∈ fp, b ≠ g.L ∧ b ∉ frs g.outer ∧ (∀ x c, (envOfC g.qual g.scope g.L g.f g.cd).cells.lookup x = some c → c ≠ b) ∧ ∀ q ∈ ip, q.1 ≠ b := fun b hb => by
    obtain ⟨_, z1, z2, _, z3, z4⟩ := f2 b hb
    exact ⟨z1, z2, z3, fun q hq => z4 q (List.mem_append_right _ hq)⟩
  have stat : ∀ {r' : Root} {H' : Hp}, r'.s.heap.objs.size = g.L → (∀ b ∈ fp, H' b = none) → (∀ b ∈ fp, ∀ q ∈ r'.pn, q.1 ≠ b) → ∀ b ∈ fp, FpOk (g.X r') ip H' b := fun {r' H'} hz hn hp b hb => by
    obtain ⟨z1, z2, z3, z4⟩ := fNe b hb
    refine ⟨hn b hb, z1, z2, .inr ?_, z3, fun q hq => (List.mem_append.mp hq).elim (hp b hb q) (z4 q)⟩
    show r'.s.heap.objs.size ≤ b
    rw [hz]; exact fL b hb
  have loop : ∀ (m j n i : Nat) (r : Root) (s : Shared) (σ : L2.St) (H : Hp), n + i = tot → W j m i r.H σ H → GInv g r ip σ H s → tn j s.heap → (∀ b ∈ fp, H b = none) → (∀ b ∈ fp, ∀ q ∈ r.pn, q.1 ≠ b) →
      Seg1 (model g.P g.w) g.A (PhiG g T Fn n i r) (.forLoop tg (.ref it) body [] (envOfC g.qual g.scope g.L g.f g.cd)) ((model g.P g.w).den (.forLoop tg (.ref it) body [] (envOfC g.qual g.scope g.L g.f g.cd)))
        (.ret (fun r => ((match r with | .ok f => (.pure f : Sem Flow) | .error e => .raise e).onRaise (cameBack (envOfC g.qual g.scope g.L g.f g.cd))).wrap K J gd lv) none (gd false) (lv []) c p [] :: fs) s := by
    intro m
    induction m using Nat.strongRecOn with
    | ind m ih =>
      intro j n i r s σ H hn w I st fr fq
      have ee : ∀ (n i : Nat) (r : Root) (x : Value) (s' : Shared), (g.X r).xe x s' → Seg1 (model g.P g.w) g.A (PhiG g T Fn n i r) (.forLoop tg (.ref it) body [] (envOfC g.qual g.scope g.L g.f g.cd))
          ((do noteFrame x (envOfC g.qual g.scope g.L g.f g.cd); theTreesLotGoes x : Sem Unit).wrap (fun _ => .raise x) .raise id id)
          (.ret (fun r => ((match r with | .ok f => (.pure f : Sem Flow) | .error e => .raise e).onRaise (cameBack (envOfC g.qual g.scope g.L g.f g.cd))).wrap K J gd lv) none (gd false) (lv []) c p [] :: fs) s' := fun n i r x s' hx => by
        refine seg1_wrap ?_
        rw [(gl _).over]
        refine wpAny_bind (wpAny_mono (owns_gX x s' hx) (fun _ s'' hcb => wpAny_theTreesLotGoes ?_) fun y s'' hcb => ?_)
        · exact seg1_leaf (.error x) (seg1_cameBack gc k hcb)
        · exact seg1_leaf (.error y) (seg1_cameBack gc k hcb)
      refine seg1_forLoop ?_
      rw [(gl _).over]
      rcases turn j m i r.H σ H w with ⟨stop, qn⟩ | ⟨go, N, hN, step⟩
      · refine wpAny_mono (TT.done (g.X r) rfl rfl rfl rfl j ip s σ H (g.X r).xe I.inv (stat I.size fr fq) st stop) (fun z s4 hz => ?_) fun x s' hx => ee n i r x s' hx
        obtain ⟨hr, I4⟩ := hz
        subst hr
        show Seg1 _ _ _ _ ((execs [] (envOfC g.qual g.scope g.L g.f g.cd)) >>= fun f => .pure (.done f)) _ s4
        exact seg1_leaf (.ok .next) (k.ok n i r s4 .next hn ⟨σ, H, ⟨I.size, I.low, I.apart, I4⟩, qn⟩)
      · refine wpAny_mono (TT.item (g.X r) rfl rfl rfl rfl j ip s σ H (g.X r).xe I.inv (stat I.size fr fq) st go) (fun z s4 hz => ?_) fun x s' hx => ee n i r x s' hx
        obtain ⟨u, hr, h4⟩ := hz
        subst hr
        refine wpAny_mono h4 (fun _ s5 h5 => ?_) fun x s' hx => ee n i r x s' hx
        obtain ⟨x, H5, I5, r5, y5, st5, fr5⟩ := h5
        have f5 := stat (r' := r) I.size fr5 fq
        have I5' := I5.pinned f5 (TT.obj _ _ st5)
        refine wpAny_mono ((hg r).run _ s5 σ H5 x u _ I5' r5 (step x H5 y5)) (fun _ s6 h6 => ?_) fun x s' hx => ee n i r x s' hx
        obtain ⟨σ6, H6, I6, q6⟩ := h6
        have ap6 : ∀ p ∈ r.pn, ∀ q ∈ ip ++ pinsAt fp s5.heap, p.1 ≠ q.1 := fun p hp q hq => (List.mem_append.mp hq).elim (I.apart p hp q) fun z => by
          obtain ⟨z1, _⟩ := of_pinsAt z
          exact fq q.1 z1 p hp
        have low6 : ∀ q ∈ ip ++ pinsAt fp s5.heap, g.L ≤ q.1 := fun q hq => (List.mem_append.mp hq).elim (I.low q) fun z => fL q.1 (of_pinsAt z).1
        refine hb.run Fn (ip ++ pinsAt fp s5.heap) n i r _ _ _ _ id id s6 σ6 H6 { D with nx := N, ct := N, bk := D.nx } (gl _) hn ⟨fun n' i' r' s7 f hn' hs => ?_, fun n' i' r' x s' hx => ee n' i' r' x s' hx⟩ ⟨I.size, low6, ap6, I6⟩ q6
        have un : ∀ {σ7 : L2.St} {H7 : Hp}, GInv g r' (ip ++ pinsAt fp s5.heap) σ7 H7 s7 → GInv g r' ip σ7 H7 s7 ∧ tn (j + 1) s7.heap ∧ (∀ b ∈ fp, H7 b = none) ∧ ∀ b ∈ fp, ∀ q ∈ r'.pn, q.1 ≠ b := fun {σ7 H7} I7 => by
          refine ⟨⟨I7.size, fun q hq => I7.low q (List.mem_append_left _ hq), fun p hp q hq => I7.apart p hp q (List.mem_append_left _ hq), I7.inv.unpinned⟩, TT.keep _ _ _ st5 fun b hb o e => (I7.inv.pin (b, o) (List.mem_append_right _ (List.mem_append_right _ (mem_pinsAt hb e)))).1, fun b hb => ?_, fun b hb q hq => ?_⟩
          · obtain ⟨o, e, d⟩ := TT.obj _ _ st5 b hb
            exact (I7.inv.pin (b, o) (List.mem_append_right _ (List.mem_append_right _ (mem_pinsAt hb e)))).2.1
          · obtain ⟨o, e, d⟩ := TT.obj _ _ st5 b hb
            exact I7.apart q hq (b, o) (List.mem_append_right _ (mem_pinsAt hb e))
        cases f with
        | next =>
          obtain ⟨σ7, H7, I7, n7⟩ := hs
          obtain ⟨m', hm, w7⟩ := hN i' r'.H σ7 H7 n7
          obtain ⟨a1, a2, a3, a4⟩ := un I7
          exact seg1_again rfl (ih m' hm (j + 1) n' i' r' s7 σ7 H7 hn' w7 a1 a2 a3 a4)
        | cont =>
          obtain ⟨σ7, H7, I7, n7⟩ := hs
          obtain ⟨m', hm, w7⟩ := hN i' r'.H σ7 H7 n7
          obtain ⟨a1, a2, a3, a4⟩ := un I7
          exact seg1_again rfl (ih m' hm (j + 1) n' i' r' s7 σ7 H7 hn' w7 a1 a2 a3 a4)
        | brk =>
          obtain ⟨σ7, H7, I7, q7⟩ := hs
          exact seg1_leaf (.ok .next) (k.ok n' i' r' s7 .next hn' ⟨σ7, H7, (un I7).1, q7⟩)
        | ret v =>
          obtain ⟨x7, σ7, H7, I7, r7, q7⟩ := hs
          exact seg1_leaf (.ok (.ret v)) (k.ok n' i' r' s7 (.ret v) hn' ⟨x7, σ7, H7, (un I7).1, r7, q7⟩)
  have fr0 : ∀ b ∈ fp, H2 b = none := fun b hb => (f2 b hb).1
  have fq0 : ∀ b ∈ fp, ∀ q ∈ r.pn, q.1 ≠ b := fun b hb q hq => by
    obtain ⟨_, _, _, _, _, z⟩ := f2 b hb
    exact z q (List.mem_append_left _ hq)
  exact loop m0 0 n i r s2 σ H2 hn w0 ⟨I.size, I.low, I.apart, I2⟩ st2 fr0 fq0
end
end My
/-! Who takes what a generator hands out: the turn of a for or a comprehension. -/
namespace My
open PySem PySem.Spec PyProof.Rows L2 GenW
def cutS (s : Shared) (n : Nat) : Shared := { s with heap := cutH s.heap n }
/-- a generator that a context made -/
def GPar.of (X : Cx) (N : List Str) (qual : Str) (scope : Scope) (f : Addr) (cd : Value) (L : Addr) : GPar := ⟨X.prog, X.w, X.K, X.mg, X.base, N, qual, scope, f, cd, X.A.in1, X.stack, L, fun _ _ _ => False⟩
structure GFit (g : GPar) (X : Cx) : Prop where
  kind : g.scope.kind = .function
  plain : ∀ y ∈ g.scope.names, y.2 ≠ .cell ∧ y.2 ≠ .free
  room : X.A.depth < recursionLimit
  frL : ∀ b ∈ frs X.stack, b < g.L
  szL : X.s_0.heap.objs.size ≤ g.L
  celL : ∀ x c, X.env.cells.lookup x = some c → c < g.L
  locL : X.env.locals < g.L ∨ g.L < X.env.locals
/-- g sleeps, with i items out; fp: its own objects -/
structure GAt (g : GPar) (T : Prt) (Fn : Nat → Hp → Hp → Prop) (tot : Nat) (a gi i : Nat) (Rq : Hp → Prop) (fp : List Addr) (s : Shared) : Prop where
  ex : ∃ (S : GenState) (ip : List (Addr × Obj)) (σ : L2.St) (n : Nat), n + i = tot ∧ s.gens[gi]? = some S ∧ (i ≠ 0 → isSusp S = true) ∧ σ.length = g.N.length ∧
    (∃ m, s.heap.Ns g.L m ∧ ∀ (j : Nat) (x : Str) (v : V), g.N[j]? = some x → σ[j]? = some (some v) → Vis g.scope x → ∃ u, RelV v u ∧ m x = some u) ∧
    (∀ q ∈ ip, s.heap.get? q.1 = some q.2 ∧ q.1 ∈ fp ∧ (∀ v, q.2.data ≠ .cell v) ∧ q.1 ≠ g.L ∧ q.1 ≠ a) ∧
    ∀ r s'', GInv g r ip σ r.H s'' → Rq r.H → Wake1 (model g.P g.w) g.A (PhiG g T Fn n i r) S s''
  gen : s.heap.IsGen a gi
  aL : g.L < a
  ain : a ∈ fp
  Lin : g.L ∈ fp
  low : ∀ b ∈ fp, g.L ≤ b ∧ ∃ o, s.heap.get? b = some o ∧ ∀ v, o.data ≠ .cell v
theorem GAt.keep {g : GPar} {T : Prt} {Fn : Nat → Hp → Hp → Prop} {tot a gi i : Nat} {Rq : Hp → Prop} {fp : List Addr} {s s' : Shared} (h : GAt g T Fn tot a gi i Rq fp s) (hk : ∀ b ∈ fp, ∀ o, s.heap.get? b = some o → s'.heap.get? b = some o)
    (hg : ∀ S, s.gens[gi]? = some S → (i ≠ 0 → isSusp S = true) → s'.gens[gi]? = some S) : GAt g T Fn tot a gi i Rq fp s' := by
  obtain ⟨⟨S, ip, σ, n, h1, h2, h3, h4, ⟨m, hm, hl⟩, h6, h7⟩, hgen, aL, ain, Lin, low⟩ := h
  refine ⟨⟨S, ip, σ, n, h1, hg S h2 h3, h3, h4, ⟨m, ?_, hl⟩, fun q hq => ?_, h7⟩, ?_, aL, ain, Lin, fun b hb => ?_⟩
  · obtain ⟨o, es, ep, ho, r⟩ := hm
    exact ⟨o, es, ep, hk _ Lin o ho, r⟩
  · obtain ⟨z1, z2, z3⟩ := h6 q hq
    exact ⟨hk _ z2 _ z1, z2, z3⟩
  · obtain ⟨o, nm, qn, ho, r⟩ := hgen
    exact ⟨o, nm, qn, hk a ain o ho, r⟩
  · obtain ⟨z1, o, z2, z3⟩ := low b hb
    exact ⟨z1, o, hk b hb o z2, z3⟩
/-- behind a stretch that kept what stood ahead of L -/
theorem inv_back {X : Cx} {pins : List (Addr × Obj)} {σ : L2.St} {H H1 : Hp} {s s1 : Shared} {L : Nat} (I : Inv X pins σ H s) (os : s1.os = s.os) (bare : AllBare s1.gens) (u : Un (frs X.stack) [] H H1 (cutH s.heap L) s1.heap) (hok : HOk X.prog X.w H1 s1.heap)
    (szL : X.s_0.heap.objs.size ≤ L) (celL : ∀ x c, X.env.cells.lookup x = some c → c < L) (locL : X.env.locals < L ∨ (s1.heap.get? X.env.locals = s.heap.get? X.env.locals ∧ H1 X.env.locals = none))
    (pin : ∀ p ∈ X.pn ++ pins, s1.heap.get? p.1 = some p.2 ∧ H1 p.1 = none) : Inv X pins σ H1 s1 := by
  have lt0 : ∀ {b o}, X.s_0.heap.get? b = some o → b < L := fun {b o} e => Nat.lt_of_lt_of_le (Heap.lt_size e) szL
  have cut : ∀ {b o}, s.heap.get? b = some o → b < L → (cutH s.heap L).get? b = some o := fun {b o} e l => (cutH_get l).trans e
  have fsub : ∀ b ∈ X.fs, b ∈ frs X.stack := fun b hb => by
    rcases I.ok.stk with z | ⟨z, _⟩
    · rw [z]; exact hb
    · rw [z]
      show b ∈ List.filterMap (·.frame) (X.env :: X.outer)
      rw [List.filterMap_cons]
      split
      · exact hb
      · exact List.mem_cons_of_mem _ hb
  have nst : ∀ {b o}, X.s_0.heap.get? b = some o → b ∉ X.fs → b ∉ frs X.stack := fun {b o} e hb hm => by
    rcases List.mem_cons.mp (I.stkSub b hm) with z | z
    · have h1 := Heap.lt_size e
      have h2 := I.ok.above
      rw [z] at h1
      exact absurd (Nat.lt_of_lt_of_le h1 h2) (Nat.lt_irrefl _)
    · exact hb z
  have nl : ∀ b : Addr, b ∉ ([] : List Addr) := fun b z => by cases z
  have locK : ∀ m, s.heap.Ns X.env.locals m → s1.heap.Ns X.env.locals m := fun m hm => by
    obtain ⟨o, es, ep, ho, r⟩ := hm
    rcases locL with z | ⟨z, _⟩
    · obtain ⟨sl, e⟩ := u.any (cut ho z) I.free (nl _)
      exact ⟨_, es, ep, e, r⟩
    · exact ⟨o, es, ep, z.trans ho, r⟩
  have cellK : ∀ x c, X.env.cells.lookup x = some c → ∀ v, s.heap.IsCell c v → s1.heap.IsCell c v := fun x c e v hv => by
    obtain ⟨o, ho, hd⟩ := hv
    obtain ⟨sl, q⟩ := u.any (cut ho (celL x c e)) (I.freeC x c e) (nl _)
    exact ⟨_, q, hd⟩
  refine ⟨I.ok, os.trans I.os, bare, ⟨fun b o e n hb hx => ?_, fun b o e n hb hx => ?_, fun b o e n hx => ?_, fun b o e hx => ?_, fun b xs e => u.tups b xs (I.base.tups b xs e), fun b o xs e => u.frzs b o xs (I.base.frzs b o xs e), fun b ps e => ?_⟩, ?_, fun x c e => ?_, ?_, fun x c e => ?_, fun p hp => ?_, hok, I.len⟩
  · exact u.keep b o (cut (I.base.keep b o e n hb hx) (lt0 e)) (I.base.free b o e n hx) (nst e hb) (nl _)
  · obtain ⟨sl, e1⟩ := I.base.slot b o e n hb hx
    obtain ⟨sl', e2⟩ := u.slot b _ (cut e1 (lt0 e)) (I.base.free b o e n hx) (fsub b hb) (nl _)
    exact ⟨sl', e2⟩
  · obtain ⟨o', e1⟩ := I.base.there b o e hx
    exact u.free b o' (cut e1 (lt0 e)) (I.base.free b o e n hx) (nl _)
  · obtain ⟨o', e1⟩ := I.base.there b o e hx
    exact u.there b o' (cut e1 (lt0 e)) (nl _)
  · obtain ⟨m1, e1⟩ := I.base.tbls b ps e
    obtain ⟨m2, e2⟩ := u.tbls b _ e1
    exact ⟨m1 ++ m2, by rw [e2, Array.append_assoc]⟩
  · obtain ⟨m, hn, hl⟩ := I.loc
    refine ⟨m, locK m hn, fun i x v e1 e2 e3 => ?_⟩
    obtain ⟨u', r, l⟩ := hl i x v e1 e2 e3
    refine ⟨u', r, ?_⟩
    rcases l with l | ⟨k, c, e, z⟩
    · exact .inl l
    · exact .inr ⟨k, c, e, cellK x c e _ z⟩
  · obtain ⟨v, z⟩ := I.cell x c e
    exact ⟨v, cellK x c e v z⟩
  · rcases locL with z | ⟨_, z⟩
    · obtain ⟨m, ⟨o, es, ep, ho, r⟩, _⟩ := I.loc
      exact u.free _ o (cut ho z) I.free (nl _)
    · exact z
  · obtain ⟨v, o, ho, hd⟩ := I.cell x c e
    exact u.free c o (cut ho (celL x c e)) (I.freeC x c e) (nl _)
  · obtain ⟨z1, z2, z3, z4, z5⟩ := I.pin p hp
    obtain ⟨y1, y2⟩ := pin p hp
    exact ⟨y1, y2, z3, z4, z5⟩
/-- THE TURN -/
theorem gat_next {X : Cx} {N : List Str} {qual : Str} {scope : Scope} {f : Addr} {cd : Value} {L : Addr} {T : Prt} {Fn : Nat → Hp → Hp → Prop} {tot a gi i : Nat} {Rq : Hp → Prop} {fp : List Addr} {pins : List (Addr × Obj)} {σ : L2.St} {H : Hp} {s : Shared} {Q : Option Value → Shared → Prop} {E : Value → Shared → Prop}
    (ft : GFit (GPar.of X N qual scope f cd L) X) (hc : X.calm = true) (I : Inv X pins σ H s) (G : GAt (GPar.of X N qual scope f cd L) T Fn tot a gi i Rq fp s) (hf : ∀ b ∈ fp, FpOk X pins H b) (hR : Rq H)
    (hout : ∀ u x H' s' fp', Inv X pins σ H' s' → RelV x u → T.out i H x H' → GAt (GPar.of X N qual scope f cd L) T Fn tot a gi (i + 1) (T.back i H') fp' s' → (∀ b ∈ fp', FpOk X pins H' b) → Q (some u) s')
    (hend : ∀ H' s', Inv X pins σ H' s' → Fn i H H' → Q none s') : wpAny (model X.prog X.w) X.A (pyNext (.ref a)) Q E s := by
  obtain ⟨⟨S, ip, σg, n, hn, hgs, hsus, hlen, ⟨m, hm, hl⟩, hip, wake⟩, hgen, aL, ain, Lin, low⟩ := G
  have hLs : L < s.heap.objs.size := by
    obtain ⟨o, es, ep, ho, _⟩ := hm
    exact Heap.lt_size ho
  have hLsz : (cutH s.heap L).objs.size = L := cutH_size (Nat.le_of_lt hLs)
  have fL := hf L Lin
  have fa := hf a ain
  have cells0 : cellsFrom (L + 1) scope.names [] = [] := by
    have key : ∀ (names : List (Str × NameKind)) (k : Nat) (acc : List (Str × Addr)), (∀ y ∈ names, y.2 ≠ .cell) → cellsFrom k names acc = acc := by
      intro names
      induction names with
      | nil => intro k acc _; rfl
      | cons y r ih =>
        intro k acc h
        obtain ⟨nm, kd⟩ := y
        unfold cellsFrom
        have hk : ¬ (kd == NameKind.cell) = true := by
          have := h (nm, kd) List.mem_cons_self
          simpa using this
        rw [if_neg hk]
        exact ih _ _ fun z hz => h z (List.mem_cons_of_mem _ hz)
    exact key scope.names (L + 1) [] fun y hy => (ft.plain y hy).1
  have cells : ∀ x c, (envOfC qual scope L f cd).cells.lookup x = some c → False := fun x c e => by
    have e : (cellsFrom (L + 1) scope.names []).lookup x = some c := e
    rw [cells0] at e
    cases e
  -- what is pinned while it runs
  obtain ⟨oa, nm, qn, hoa, hac, had, has⟩ := id hgen
  obtain ⟨mX, hmX, _⟩ := id I.loc
  obtain ⟨oX, esX, epX, hoX, hdX, _⟩ := id hmX
  let ext : List (Addr × Obj) := if X.env.locals < L then [] else [(X.env.locals, oX)]
  have hext : ∀ p ∈ ext, p = (X.env.locals, oX) ∧ L < X.env.locals := fun p hp => by
    show _ ∧ _
    have hp : p ∈ (if X.env.locals < L then [] else [(X.env.locals, oX)]) := hp
    split at hp
    · cases hp
    · rename_i hlt
      refine ⟨by simpa using hp, ?_⟩
      rcases ft.locL with z | z
      · exact absurd z hlt
      · exact z
  let r : Root := ⟨cutS (s.setGen gi .running) L, H, (X.pn ++ pins) ++ ((a, oa) :: ext)⟩
  have frst : ∀ b, L ≤ b → b ∉ frs X.stack := fun b hb hm => absurd (Nat.lt_of_lt_of_le (ft.frL b hm) hb) (Nat.lt_irrefl _)
  have pinA : ∀ p ∈ r.pn, s.heap.get? p.1 = some p.2 ∧ H p.1 = none ∧ p.1 ≠ L ∧ p.1 ∉ frs X.stack ∧ ∀ v, p.2.data ≠ .cell v := fun p hp => by
    rcases List.mem_append.mp hp with z | z
    · obtain ⟨z1, z2, z3, z4, z5⟩ := I.pin p z
      refine ⟨z1, z2, fL.2.2.2.2.2 p z, fun hm => ?_, z5⟩
      rcases List.mem_cons.mp (I.stkSub p.1 hm) with y | y
      · exact z3 y
      · exact z4 y
    · rcases List.mem_cons.mp z with z | z
      · rw [z]
        exact ⟨hoa, fa.1, Nat.ne_of_gt aL, frst a (Nat.le_of_lt aL), fun v q => by rw [had] at q; cases q⟩
      · obtain ⟨z1, z2⟩ := hext p z
        rw [z1]
        exact ⟨hoX, I.free, Nat.ne_of_gt z2, frst _ (Nat.le_of_lt z2), fun v q => by rw [hdX] at q; cases q⟩
  have apart : ∀ p ∈ r.pn, ∀ q ∈ ip, p.1 ≠ q.1 := fun p hp q hq => by
    obtain ⟨y1, y2, y3, y4, y5⟩ := hip q hq
    obtain ⟨_, fq1, _, _, _, fq5⟩ := hf q.1 y2
    rcases List.mem_append.mp hp with z | z
    · exact fq5 p z
    · rcases List.mem_cons.mp z with z | z
      · rw [z]; exact Ne.symm y5
      · rw [(hext p z).1]; exact Ne.symm fq1
  have bsL : X.base.objs.size ≤ L := Nat.le_trans I.ok.bsz ft.szL
  have cutget : ∀ {b o}, (cutH s.heap L).get? b = some o → b < L ∧ s.heap.get? b = some o := fun {b o} e => cutH_of e
  have okG : ((GPar.of X N qual scope f cd L).X r).Ok := by
    refine ⟨I.ok.mod, ft.kind, rfl, rfl, Nat.le_of_eq hLsz, fun x y c e _ => (cells x c e).elim, fun x hx => ?_, fun x c _ e => (cells x c e).elim, fun _ => I.ok.hd hc, Around.frames_deeper I.ok.frames, .inr ⟨rfl, rfl⟩, (fun b z => by cases z), fun b o e => ?_, ?_, (fun b o _ z => by cases z), (fun b z => by cases z), ?_, fun b hb => ?_⟩
    · have hx : scope.names.lookup x = some .cell ∨ scope.names.lookup x = some .free := hx
      rcases hx with hx | hx
      · exact absurd rfl (ft.plain _ (PySem.mem_of_lookup hx)).1
      · exact absurd rfl (ft.plain _ (PySem.mem_of_lookup hx)).2
    · obtain ⟨z1, z2⟩ := I.bs b o e
      exact ⟨(cutH_get (Nat.lt_of_lt_of_le (Heap.lt_size e) bsL)).trans z1, z2⟩
    · show X.base.objs.size ≤ (cutH s.heap L).objs.size
      rw [hLsz]; exact bsL
    · show (cutH s.heap L).FunFrames X.base X.stack
      have key : ∀ l : List Env, (∀ b ∈ frs l, b < L) → s.heap.FunFrames X.base l → (cutH s.heap L).FunFrames X.base l := by
        intro l
        induction l with
        | nil => intro _ _; trivial
        | cons env rest ih =>
          intro hb h
          obtain ⟨hk, ⟨L', o, hf', hn', ho, hd⟩, hr⟩ := h
          have hmem : ∀ b ∈ frs rest, b ∈ frs (env :: rest) := fun b hb => by
            show b ∈ List.filterMap (·.frame) (env :: rest)
            rw [List.filterMap_cons, hf']
            exact List.mem_cons_of_mem _ hb
          have hL' : L' < L := hb L' (by
            show L' ∈ List.filterMap (·.frame) (env :: rest)
            rw [List.filterMap_cons, hf']
            exact List.mem_cons_self)
          exact ⟨hk, ⟨L', o, hf', hn', (cutH_get hL').trans ho, hd⟩, ih (fun b z => hb b (hmem b z)) hr⟩
      exact key X.stack ft.frL I.stack
    · exact I.stkFree b hb
  have J : GInv (GPar.of X N qual scope f cd L) r ip σg r.H (s.setGen gi .running) := by
    refine ⟨hLsz, fun q hq => (low q.1 (hip q hq).2.1).1, apart, okG, rfl, allBare_setGen I.bare rfl, ⟨fun b o e n hb hx => (cutget e).2, fun b o e n hb hx => ⟨o.slots, (cutget e).2⟩, fun b o e n hx => n, fun b o e hx => ⟨o, (cutget e).2⟩, fun b xs e => e, fun b o u e => e, fun b ps e => ⟨#[], (show H b = _ from e).trans (by simp)⟩⟩,
      ⟨m, hm, fun j x v e1 e2 e3 => ?_⟩, fun x c e => (cells x c e).elim, fL.1, fun x c e => (cells x c e).elim, fun p hp => ?_, I.hok, hlen⟩
    · obtain ⟨u, ru, hu⟩ := hl j x v e1 e2 e3
      refine ⟨u, ru, .inl ⟨?_, hu⟩⟩
      have e3 : scope.names.lookup x = some .local ∨ scope.names.lookup x = some .cell ∨ scope.names.lookup x = some .free := e3
      rcases e3 with z | z | z
      · exact z
      · exact absurd rfl (ft.plain _ (PySem.mem_of_lookup z)).1
      · exact absurd rfl (ft.plain _ (PySem.mem_of_lookup z)).2
    · rcases List.mem_append.mp hp with z | z
      · exact pinA p z
      · obtain ⟨y1, y2, y3, y4, y5⟩ := hip p z
        exact ⟨y1, (hf p.1 y2).1, y4, frst p.1 (low p.1 y2).1, y3⟩
  -- behind the stretch
  have back : ∀ {ip' : List (Addr × Obj)} {σ' : L2.St} {H1 : Hp} {s1 : Shared}, GInv (GPar.of X N qual scope f cd L) r ip' σ' H1 s1 → ∀ s2 : Shared, s2.heap = s1.heap → s2.os = s1.os → AllBare s2.gens → Inv X pins σ H1 s2 := fun {ip' σ' H1 s1} J1 s2 eh eo hb => by
    have pk : ∀ p ∈ r.pn, s1.heap.get? p.1 = some p.2 ∧ H1 p.1 = none := fun p hp => by
      obtain ⟨z1, z2, _⟩ := J1.inv.pin p (List.mem_append_left _ hp)
      exact ⟨z1, z2⟩
    refine inv_back (L := L) I (eo.trans J1.inv.os) hb (by rw [eh]; exact J1.inv.base) (by rw [eh]; exact J1.inv.hok) ft.szL ft.celL ?_ fun p hp => ?_
    · rcases ft.locL with z | z
      · exact .inl z
      · refine .inr ?_
        have hmem : (X.env.locals, oX) ∈ r.pn := by
          refine List.mem_append_right _ (List.mem_cons_of_mem _ ?_)
          show _ ∈ (if X.env.locals < L then [] else [(X.env.locals, oX)])
          rw [if_neg (show ¬ (X.env.locals < L) from Nat.not_lt_of_gt z)]
          exact List.mem_singleton.mpr rfl
        obtain ⟨y1, y2⟩ := pk _ hmem
        rw [eh]
        exact ⟨y1.trans hoX.symm, y2⟩
    · rw [eh]; exact pk p (List.mem_append_left _ hp)
  refine next_gen1 (F := PhiG (GPar.of X N qual scope f cd L) T Fn n i r) (I.ok.hd hc) I.nolimit ft.room hgen hgs (wake r _ J hR) fun e s₁ hz he => ?_
  cases e with
  | ret x =>
    cases x with
    | ok fl =>
      have he : (fl = .ret .none ∨ fl = .next) ∧ ∃ ip σ H', GInv (GPar.of X N qual scope f cd L) r ip σ H' s₁ ∧ Fn i r.H H' := by
        cases n <;> exact he
      obtain ⟨h1, ip', σ', H1, J1, hfin⟩ := he
      refine ⟨rfl, h1, fun h' hk => hend H1 _ ?_ hfin⟩
      exact (back J1 (s₁.setGen gi .finished) rfl rfl (allBare_setGen J1.inv.bare rfl)).kept (t' := s₁.toks) hk
    | error x =>
      have he : CX X.prog X.w X.stack r.H r.s (fun _ _ _ => False) x s₁ ∧ ∀ p ∈ r.pn, s₁.heap.get? p.1 = some p.2 := by
        cases n <;> exact he
      obtain ⟨⟨_, _, _, _, _, _, _, _, _, _, _, _, hF⟩, _⟩ := he
      exact hF.elim
  | susp v gd l k c p fs =>
    cases n with
    | zero => exact he.elim
    | succ n =>
      obtain ⟨hq, x, ip', σ', H1, J1, rv, ho, wk⟩ := he
      refine ⟨hq, ?_⟩
      have bareS : (End.susp v gd l k c p fs).genState.bare = true := End.bare_of_quiet hq
      have hgs1 : ((s₁.setGen gi (End.susp v gd l k c p fs).genState).gens)[gi]? = some (End.susp v gd l k c p fs).genState := by
        refine setGen_at ?_
        obtain ⟨z, _⟩ := Array.getElem?_eq_some_iff.mp hgs
        exact Nat.lt_of_lt_of_le z hz
      have I1 := back J1 (s₁.setGen gi (End.susp v gd l k c p fs).genState) rfl rfl (allBare_setGen J1.inv.bare bareS)
      refine hout v x H1 _ (a :: L :: ip'.map (·.1)) I1 rv ho ?_ ?_
      · obtain ⟨m', hm', hl'⟩ := J1.inv.loc
        obtain ⟨oL, esL, epL, hoL, hdL, _⟩ := id hm'
        have hga := J1.inv.pin (a, oa) (List.mem_append_left _ (List.mem_append_right _ List.mem_cons_self))
        have hpi : ∀ q ∈ ip', s₁.heap.get? q.1 = some q.2 ∧ H1 q.1 = none ∧ q.1 ≠ L ∧ q.1 ∉ frs X.stack ∧ ∀ v, q.2.data ≠ .cell v := fun q hq => J1.inv.pin q (List.mem_append_right _ hq)
        refine ⟨⟨_, ip', σ', n, by omega, hgs1, fun _ => rfl, J1.inv.len, ⟨m', hm', fun j y u e1 e2 e3 => ?_⟩, fun q hq => ?_, fun r' s'' Jw hb => wk r' s'' Jw hb⟩, ⟨oa, nm, qn, hga.1, hac, had, has⟩, aL, List.mem_cons_self, List.mem_cons_of_mem _ List.mem_cons_self, fun b hb => ?_⟩
        · obtain ⟨u', ru, lk⟩ := hl' j y u e1 e2 e3
          refine ⟨u', ru, ?_⟩
          rcases lk with ⟨_, z⟩ | ⟨z, c', e', _⟩
          · exact z
          · exact (cells y c' e').elim
        · obtain ⟨y1, y2, y3, y4, y5⟩ := hpi q hq
          refine ⟨y1, List.mem_cons_of_mem _ (List.mem_cons_of_mem _ (List.mem_map.mpr ⟨q, hq, rfl⟩)), y5, y3, ?_⟩
          exact Ne.symm (J1.apart (a, oa) (List.mem_append_right _ List.mem_cons_self) q hq)
        · rcases List.mem_cons.mp hb with z | z
          · rw [z]
            exact ⟨Nat.le_of_lt aL, oa, hga.1, fun v q => by rw [had] at q; cases q⟩
          · rcases List.mem_cons.mp z with z | z
            · rw [z]
              exact ⟨Nat.le_refl _, oL, hoL, fun v q => by rw [hdL] at q; cases q⟩
            · obtain ⟨q, hq, rfl⟩ := List.mem_map.mp z
              obtain ⟨y1, y2, y3, y4, y5⟩ := hpi q hq
              exact ⟨J1.low q hq, q.2, y1, y5⟩
      · have inX : ∀ b, L ≤ b → H1 b = none → b ≠ X.env.locals → (∀ p ∈ X.pn ++ pins, p.1 ≠ b) → FpOk X pins H1 b := fun b hb hn he hp => by
          refine ⟨hn, he, fun hm => ?_, .inr (Nat.le_trans ft.szL hb), fun y c' e' z => ?_, hp⟩
          · have hm' : b ∈ frs X.stack := by
              rcases I.ok.stk with z | ⟨z, _⟩
              · rw [z]; exact hm
              · rw [z]
                show b ∈ List.filterMap (·.frame) (X.env :: X.outer)
                rw [List.filterMap_cons]
                split
                · exact hm
                · exact List.mem_cons_of_mem _ hm
            exact frst b hb hm'
          · have := ft.celL y c' e'
            rw [z] at this
            exact absurd (Nat.lt_of_lt_of_le this hb) (Nat.lt_irrefl _)
        intro b hb
        rcases List.mem_cons.mp hb with z | z
        · rw [z]
          have hga := J1.inv.pin (a, oa) (List.mem_append_left _ (List.mem_append_right _ List.mem_cons_self))
          exact inX a (Nat.le_of_lt aL) hga.2.1 fa.2.1 fa.2.2.2.2.2
        · rcases List.mem_cons.mp z with z | z
          · rw [z]
            exact inX L (Nat.le_refl _) J1.inv.free fL.2.1 fL.2.2.2.2.2
          · obtain ⟨q, hq, rfl⟩ := List.mem_map.mp z
            obtain ⟨y1, y2, y3, y4, y5⟩ := J1.inv.pin q (List.mem_append_right _ hq)
            refine inX q.1 (J1.low q hq) y2 (fun z => ?_) fun p hp => J1.apart p (List.mem_append_left _ hp) q hq
            rcases ft.locL with w | w
            · rw [← z] at w
              exact absurd (Nat.lt_of_lt_of_le w (J1.low q hq)) (Nat.lt_irrefl _)
            · have hmem : (X.env.locals, oX) ∈ r.pn := by
                refine List.mem_append_right _ (List.mem_cons_of_mem _ ?_)
                show _ ∈ (if X.env.locals < L then [] else [(X.env.locals, oX)])
                rw [if_neg (show ¬ (X.env.locals < L) from Nat.not_lt_of_gt w)]
                exact List.mem_singleton.mpr rfl
              exact J1.apart _ hmem q hq z.symm
end My
/-! for and list comprehensions over a generator. -/
namespace My
open PySem PySem.Spec PyProof.Rows L2 GenW
/-- what a generator does, for its taker: what it wants at its first wake; what it hands out at turn i by the heap at the wake; what it wants at the wake behind turn i; its end -/
structure GSpec where
  start : Hp → Prop
  out : Nat → Hp → V → Hp → Prop
  back : Nat → Hp → Hp → Prop
  fin : Nat → Hp → Hp → Prop
def GSpec.prt (sp : GSpec) : Prt := ⟨sp.out, sp.back⟩
abbrev TIg := L2.St → Hp → (GSpec → Hp → Prop) → Prop
/-- a generator has come -/
def PIGE (X : Cx) (pins : List (Addr × Obj)) (σ : L2.St) (R : GSpec → Hp → Prop) (u : Value) (s : Shared) : Prop :=
  ∃ (N : List Str) (qual : Str) (scope : Scope) (f : Addr) (cd : Value) (L : Addr) (tot a gi : Nat) (fp : List Addr) (sp : GSpec) (H : Hp), u = .ref a ∧ Inv X pins σ H s ∧ GFit (GPar.of X N qual scope f cd L) X ∧ X.env.locals < L ∧ (∀ p ∈ X.pn ++ pins, p.1 < L) ∧
    GAt (GPar.of X N qual scope f cd L) sp.prt sp.fin tot a gi 0 sp.start fp s ∧ (∀ b ∈ fp, FpOk X pins H b) ∧ R sp H
structure PIG (X : Cx) (iter : Expr) (wi : TIg) : Prop where
  run : ∀ (pins : List (Addr × Obj)) (s : Shared) (σ : L2.St) (H : Hp) (R : GSpec → Hp → Prop), Inv X pins σ H s → wi σ H R → wpAny (model X.prog X.w) X.A (eval iter X.env) (PIGE X pins σ R) X.xe s
theorem GAt.iter {g : GPar} {T : Prt} {Fn : Nat → Hp → Hp → Prop} {tot a gi i : Nat} {Rq : Hp → Prop} {fp : List Addr} {s : Shared} (h : GAt g T Fn tot a gi i Rq fp s) {P : Program} {w : World} {A : Around} {Q : Value → Shared → Prop} {E : Value → Shared → Prop} (q : Q (.ref a) s) :
    wpAny (model P w) A (pyIter (.ref a)) Q E s := wpAny_pyIter_gen h.gen q
theorem GAt.go {g : GPar} {T : Prt} {Fn : Nat → Hp → Hp → Prop} {tot a gi i : Nat} {Rq : Hp → Prop} {fp : List Addr} {s : Shared} (h : GAt g T Fn tot a gi i Rq fp s) {M : Model} {A : Around} {tg : Expr} {u : Value} {Q : Unit → Shared → Prop} {E : Value → Shared → Prop} (q : Q () s) :
    wpAny M A (letOwnedTupleGo tg (.ref a) u) Q E s := by
  obtain ⟨o, nm, qn, ho, hc, hd, _⟩ := h.gen
  exact go_of ho hc hd (by decide) q
/-- it stands behind what ran with its objects pinned -/
theorem GAt.slept {X : Cx} {g : GPar} {T : Prt} {Fn : Nat → Hp → Hp → Prop} {tot a gi i : Nat} {Rq : Hp → Prop} {fp : List Addr} {s s1 s' : Shared} {h0 : Heap} {pins : List (Addr × Obj)} {σ : L2.St} {H : Hp} (h : GAt g T Fn tot a gi (i + 1) Rq fp s) (k : Kept s s1 s') (I : Inv X (pins ++ pinsAt fp h0) σ H s1)
    (e0 : ∀ b ∈ fp, s.heap.get? b = h0.get? b) : GAt g T Fn tot a gi (i + 1) Rq fp s' ∧ (∀ b ∈ fp, s'.heap.get? b = h0.get? b) ∧ ∀ b ∈ fp, H b = none := by
  have key : ∀ b ∈ fp, s'.heap.get? b = h0.get? b ∧ H b = none := fun b hb => by
    obtain ⟨_, o, ho, _⟩ := h.low b hb
    rw [e0 b hb] at ho
    obtain ⟨z1, z2, _⟩ := I.pin (b, o) (List.mem_append_right _ (List.mem_append_right _ (mem_pinsAt hb ho)))
    rw [k.heap]
    exact ⟨z1.trans ho.symm, z2⟩
  refine ⟨h.keep (fun b hb o e => ?_) fun S e hs => k.gens gi S e (hs (Nat.succ_ne_zero i)), fun b hb => (key b hb).1, fun b hb => (key b hb).2⟩
  rw [(key b hb).1, ← e0 b hb]; exact e
def tForG (wi : TIg) (g : TG) (tb : TS) : TS := fun D σ H => wi σ H fun sp H1 => sp.start H1 ∧ ∃ W : Nat → Nat → L2.St → Hp → Prop, (∃ m, W 0 m σ H1) ∧ ∀ i m σ H, W i m σ H →
  (∀ H', sp.fin i H H' → D.nx σ H') ∧ ∀ x H', sp.out i H x H' → ∃ N : L2.St → Hp → Prop, (∀ σ' H'', N σ' H'' → sp.back i H' H'' ∧ ∃ m', m' < m ∧ W (i + 1) m' σ' H'') ∧ g x σ H' fun σ2 H2 => tb { D with nx := N, ct := N, bk := D.nx } σ2 H2
section
variable {X : Cx} {tg iter : Expr} {body : List Stmt} {wi : TIg} {g : TG} {tb : TS} {pos : Pos}
theorem ps_forG0 (hx : ∀ e s, X.xe e s → False) (hc : X.calm = true) (hi : PIG X iter wi) (hg : PG X tg g) (hb : PSs X body tb)
    (hs : ∀ x, foldedSetIterable iter X.env x = pure x := by intro _; rfl) : PS X (.For tg iter body [] pos) (tForG wi g tb) := by
  have hp : PassesOwn (model X.prog X.w) X.A X.env X.xe := fun e s' h => (hx e s' h).elim
  refine ⟨fun pins s σ H D I h => ?_⟩
  refine wpAny_For (thn (hi.run pins s σ H _ I h) fun v s1 h1 => ?_) hs
  obtain ⟨N, qual, scope, f, cd, L, tot, a, gi, fp0, sp, H1, e, I1, ft, lL, _, G1, f1, hst, W, ⟨m0, w0⟩, turn⟩ := h1
  subst e
  refine G1.iter ?_
  refine codeAny_forLoop_any (fun n s' => ∃ i σ' H' fp Rq, Inv X pins σ' H' s' ∧ GAt (GPar.of X N qual scope f cd L) sp.prt sp.fin tot a gi i Rq fp s' ∧ Rq H' ∧ (∀ b ∈ fp, FpOk X pins H' b) ∧ W i n σ' H') ?_ m0 ⟨0, σ, H1, fp0, _, I1, G1, hst, f1, w0⟩
  rintro n s3 ⟨i, σ3, H3, fp, Rq, I3, G3, r3, f3, w3⟩
  obtain ⟨tend, tout⟩ := turn i n σ3 H3 w3
  refine wpAny_passesOwn hp (gat_next ft hc I3 G3 f3 r3 (fun u x H4 s4 fp4 I4 rv ho G4 f4 => ?_) fun H4 s4 I4 hf => ?_)
  · refine wpAny_passesOwn hp (G4.go ?_)
    obtain ⟨Nx, hN, q4⟩ := tout x H4 ho
    have ob4 : ∀ b ∈ fp4, ∃ o, s4.heap.get? b = some o ∧ ∀ v, o.data ≠ .cell v := fun b hb => (G4.low b hb).2
    have I4' := I4.pinned f4 ob4
    refine wpAny_passesOwn hp (wpAny_mono (wpAny_asleep (hg.run _ (lulled s4) σ3 H4 x u _ (Inv.lulled I4') rv q4)) (fun _ s6 h6 => ?_) fun e s' ⟨s1, _, z⟩ => (hx e s1 z).elim)
    obtain ⟨s6', k6, σ6, H6, I6, q6⟩ := h6
    obtain ⟨G6, e6, n6⟩ := G4.slept k6 I6 (fun b _ => rfl)
    have I6' := Inv.awake I6 k6 I4.bare
    refine wpAny_passesOwn hp (wpAny_mono (wpAny_asleep (hb.run _ (lulled s6) σ6 H6 _ (Inv.lulled I6') q6)) (fun fl s7 h7 => ?_) fun e s' ⟨s1, _, z⟩ => (hx e s1 z).elim)
    obtain ⟨s7', k7, q7⟩ := h7
    have again : ∀ {σ7 : L2.St} {H7 : Hp}, Inv X (pins ++ pinsAt fp4 s4.heap) σ7 H7 s7' → Nx σ7 H7 → ∃ m, m < n ∧ ∃ i σ' H' fp Rq, Inv X pins σ' H' s7 ∧ GAt (GPar.of X N qual scope f cd L) sp.prt sp.fin tot a gi i Rq fp s7 ∧ Rq H' ∧ (∀ b ∈ fp, FpOk X pins H' b) ∧ W i m σ' H' := fun {σ7 H7} I7 n7 => by
      obtain ⟨hbk, m', hm, w7⟩ := hN σ7 H7 n7
      obtain ⟨G7, _, n7'⟩ := G6.slept k7 I7 e6
      exact ⟨m', hm, i + 1, σ7, H7, fp4, _, (Inv.awake I7 k7 I6'.bare).unpinned, G7, hbk, fun b hb => ⟨n7' b hb, (f4 b hb).2⟩, w7⟩
    cases fl with
    | next => obtain ⟨σ7, H7, I7, n7⟩ := q7; exact again I7 n7
    | cont => obtain ⟨σ7, H7, I7, n7⟩ := q7; exact again I7 n7
    | brk => obtain ⟨σ7, H7, I7, q7⟩ := q7; exact ⟨σ7, H7, (Inv.awake I7 k7 I6'.bare).unpinned, q7⟩
    | ret v => obtain ⟨x7, σ7, H7, I7, r7, q7⟩ := q7; exact ⟨x7, σ7, H7, (Inv.awake I7 k7 I6'.bare).unpinned, r7, q7⟩
  · exact wpAny_execs_nil ⟨σ3, H4, I4, tend H4 hf⟩
theorem ps_nox {st : Stmt} {t : TS} (h : PS X.nox st t) : PS X st t := ⟨fun pins s σ H D I hw =>
  wpAny_mono (h.run pins s σ H D (I.wish _) hw) (fun f s' q => SP.unwish q) fun _ _ z => z.elim⟩
theorem PIG.nox (h : PIG X.nox iter wi) : PIG X iter wi := ⟨fun pins s σ H R I hw => wpAny_mono (h.run pins s σ H R (I.wish _) hw) (fun u s' q => by
  obtain ⟨N, qual, scope, f, cd, L, tot, a, gi, fp, sp, H1, e, I1, r⟩ := q
  exact ⟨N, qual, scope, f, cd, L, tot, a, gi, fp, sp, H1, e, I1.unwish, ⟨r.1.kind, r.1.plain, r.1.room, r.1.frL, r.1.szL, r.1.celL, r.1.locL⟩, r.2⟩) fun _ _ z => z.elim⟩
end
/-- n turns that hand out what Y tells, while Gd stands -/
structure GWalk (sp : GSpec) (n : Nat) (Gd : Hp → Prop) (Y : Nat → Hp → V → Hp → Prop) : Prop where
  st : ∀ H, Gd H → sp.start H
  out : ∀ i H x H', Gd H → sp.out i H x H' → i < n ∧ Y i H x H'
  back : ∀ i H' H'', Gd H'' → sp.back i H' H''
  fin : ∀ i H H', Gd H → sp.fin i H H' → i = n ∧ H' = H
theorem forG_it {sp : GSpec} {n : Nat} {Gd : Hp → Prop} {Y : Nat → Hp → V → Hp → Prop} (w : GWalk sp n Gd Y) {g : TG} {tb : TS} {D : Ends} {σ : L2.St} {H : Hp} (Pv : Nat → L2.St → Hp → Prop) (h0 : Pv 0 σ H) (hG : ∀ i σ H, i ≤ n → Pv i σ H → Gd H)
    (hs : ∀ i x σ H H', i < n → Pv i σ H → Y i H x H' → g x σ H' fun σ2 H2 => tb { D with nx := Pv (i + 1), ct := Pv (i + 1), bk := D.nx } σ2 H2) (hd : ∀ σ H, Pv n σ H → D.nx σ H) :
    sp.start H ∧ ∃ W : Nat → Nat → L2.St → Hp → Prop, (∃ m, W 0 m σ H) ∧ ∀ i m σ H, W i m σ H →
      (∀ H', sp.fin i H H' → D.nx σ H') ∧ ∀ x H', sp.out i H x H' → ∃ N : L2.St → Hp → Prop, (∀ σ' H'', N σ' H'' → sp.back i H' H'' ∧ ∃ m', m' < m ∧ W (i + 1) m' σ' H'') ∧ g x σ H' fun σ2 H2 => tb { D with nx := N, ct := N, bk := D.nx } σ2 H2 := by
  refine ⟨w.st H (hG 0 σ H (Nat.zero_le _) h0), fun i m σ H => m = n - i ∧ i ≤ n ∧ Pv i σ H, ⟨n, by simp, Nat.zero_le _, h0⟩, ?_⟩
  rintro i m σ H ⟨rfl, hi, p⟩
  have q := hG i σ H hi p
  refine ⟨fun H' hf => ?_, fun x H' ho => ?_⟩
  · obtain ⟨e, e'⟩ := w.fin i H H' q hf
    subst e e'
    exact hd σ _ p
  · obtain ⟨hlt, y⟩ := w.out i H x H' q ho
    exact ⟨Pv (i + 1), fun σ' H'' p' => ⟨w.back i H' H'' (hG _ _ _ hlt p'), n - (i + 1), by omega, rfl, hlt, p'⟩, hs i x σ H H' hlt p y⟩
end My
/-! List comprehensions over a generator. -/
namespace My
open PySem PySem.Spec PyProof.Rows L2 GenW
theorem funFrames_cut {h base : Heap} {L : Nat} : ∀ l : List Env, (∀ b ∈ frs l, b < L) → h.FunFrames base l → (cutH h L).FunFrames base l := by
  intro l
  induction l with
  | nil => intro _ _; trivial
  | cons env rest ih =>
    intro hb h
    obtain ⟨hk, ⟨L', o, hf', hn', ho, hd⟩, hr⟩ := h
    have hmem : ∀ b ∈ frs rest, b ∈ frs (env :: rest) := fun b hb => by
      show b ∈ List.filterMap (·.frame) (env :: rest)
      rw [List.filterMap_cons, hf']
      exact List.mem_cons_of_mem _ hb
    have hL' : L' < L := hb L' (by
      show L' ∈ List.filterMap (·.frame) (env :: rest)
      rw [List.filterMap_cons, hf']
      exact List.mem_cons_self)
    exact ⟨hk, ⟨L', o, hf', hn', (cutH_get hL').trans ho, hd⟩, ih (fun b z => hb b (hmem b z)) hr⟩
abbrev Cx.cutAt (X : Cx) (L : Nat) : Cx := { X with s_0 := cutS X.s_0 L, ex := [] }
theorem inv_reroot {X : Cx} {pins : List (Addr × Obj)} {σ : L2.St} {H : Hp} {s : Shared} {L : Nat} (I : Inv X pins σ H s) (hL : L ≤ X.s_0.heap.objs.size) (bsL : X.base.objs.size ≤ L) (frL : ∀ b ∈ X.fs, b < L) (exL : ∀ b ∈ X.ex, L ≤ b) :
    Inv (Cx.cutAt X L) pins σ H s := by
  have hs : (cutH X.s_0.heap L).objs.size = L := cutH_size hL
  have nex : ∀ {b}, b < L → b ∉ X.ex := fun {b} l z => absurd (Nat.lt_of_lt_of_le l (exL b z)) (Nat.lt_irrefl _)
  refine ⟨⟨I.ok.mod, I.ok.kind, I.ok.glob, I.ok.blt, ?_, I.ok.inj, I.ok.has, fun x c h1 h2 => ?_, I.ok.hd, I.ok.frames, I.ok.stk, (fun b z => by cases z), fun b o e => ?_, ?_, (fun b o _ z => by cases z), (fun b z => by cases z), ?_, I.ok.frf⟩, I.os, I.bare,
    ⟨fun b o e n hb _ => ?_, fun b o e n hb _ => ?_, fun b o e n _ => ?_, fun b o e _ => ?_, I.base.tups, I.base.frzs, I.base.tbls⟩, I.loc, I.cell, I.free, I.freeC, I.pin, I.hok, I.len⟩
  · show (cutH X.s_0.heap L).objs.size ≤ X.env.locals
    rw [hs]; exact Nat.le_trans hL I.ok.above
  · show (cutH X.s_0.heap L).objs.size ≤ c
    rw [hs]; exact Nat.le_trans hL (I.ok.cab x c h1 h2)
  · obtain ⟨z1, z2⟩ := I.ok.bs b o e
    exact ⟨(cutH_get (Nat.lt_of_lt_of_le (Heap.lt_size e) bsL)).trans z1, z2⟩
  · show X.base.objs.size ≤ (cutH X.s_0.heap L).objs.size
    rw [hs]; exact bsL
  · exact funFrames_cut X.outer frL I.ok.funs
  · obtain ⟨l, e⟩ := cutH_of e
    exact I.base.keep b o e n hb (nex l)
  · obtain ⟨l, e⟩ := cutH_of e
    exact I.base.slot b o e n hb (nex l)
  · obtain ⟨l, e⟩ := cutH_of e
    exact I.base.free b o e n (nex l)
  · obtain ⟨l, e⟩ := cutH_of e
    exact I.base.there b o e (nex l)
section
variable {X : Cx}
/-- [elt for tg in g(..) if ..]: D the new list -/
def tLcG (wi : TIg) (g : TG) (tt : TT) (te : TE) (vs : List Nat) : TE := fun σ H Q => wi σ H fun sp H1 => ∀ D, H1 D = none → sp.start (upd H1 D (.lst [])) ∧ ∃ W : Nat → Nat → Hp → Prop, (∃ m, W 0 m (upd H1 D (.lst []))) ∧ ∀ i m H, W i m H →
  (∀ H', sp.fin i H H' → Q (.ref D) H') ∧ ∀ x H', sp.out i H x H' → ∃ Nx : Hp → Prop, (∀ H'', Nx H'' → sp.back i H' H'' ∧ ∃ m', m' < m ∧ W (i + 1) m' H'') ∧ g x (wipe σ vs) H' fun σ2 H2 => wipe σ2 vs = wipe σ vs ∧ tt σ2 H2 fun b H3 =>
    if b = true then te σ2 H3 fun y H4 => ∃ acc, H4 D = some (.lst acc) ∧ acc.length < sizeLine ∧ Nx (upd H4 D (.lst (acc ++ [y]))) else Nx H3
theorem lc_coreG {pins : List (Addr × Obj)} {s : Shared} {σ : L2.St} {H : Hp} {Q : VK} {elt tg iter : Expr} {ifs : List Expr} {scope : Scope} {own : List (Str × Nat)} {pos pos' : Pos} {wi : TIg} {g : TG} {tt : TT} {te : TE} {use : Option (Value → Sem Unit)} {Qf : Value → Shared → Prop}
    (hc : X.calm = true) (hN : X.N.Nodup) (I : Inv X pins σ H s) (hi : PIG X iter wi) (ok : BlkOk X.N X.env.scope scope own) (noc : ∀ y ∈ scope.names, y.2 ≠ .cell)
    (hg : ∀ (s : Shared) (H : Hp) (C : Addr) (cl : List (Str × Addr)) (fp : List Addr), PG (X.blk s H scope (compEnvC scope cl C X.env) fp) tg g) (ht : ∀ (s : Shared) (H : Hp) (C : Addr) (cl : List (Str × Addr)) (fp : List Addr), PTs (X.blk s H scope (compEnvC scope cl C X.env) fp) ifs tt)
    (he : ∀ (s : Shared) (H : Hp) (C : Addr) (cl : List (Str × Addr)) (fp : List Addr), PE (X.blk s H scope (compEnvC scope cl C X.env) fp) elt te) (hs : ∀ x, foldedSetIterable iter X.env x = pure x)
    (h : tLcG wi g tt te (own.map (·.2)) σ H Q)
    (hRR : ∀ D C s' m H', Inv X pins σ H' s' → Q (.ref D) H' → s'.heap.Ns C m → FpOk X pins H' C → compPost (model X.prog X.w) X.A X.xe use Qf (.ref D) C (.ok .next) s') :
    wpAny (model X.prog X.w) X.A (comprehension (.ListComp elt [⟨tg, iter, ifs, 0⟩] scope pos) scope X.env pos' (newList []) false (eval iter X.env) use) Qf X.xe s := by
  have hfree : ∀ y ∈ scope.names, y.2 = .free → ∃ c, X.env.cells.lookup y.1 = some c := fun y hy e => by
    rcases ok.free y hy e with k | k
    · exact I.ok.has _ (.inl k)
    · exact I.ok.has _ (.inr k)
  refine wpAny_comprehension_free (use := use) rfl hs (closure_ok hfree) ok.kind (fun y hy e => by rw [ok.uniq y hy, e]) (thn (hi.run pins s σ H _ I h) fun xv s2 hx => ?_)
  obtain ⟨gN, gqual, gscope, gf, gcd, L, tot, a, gi, fp, sp, H2, e, I2, ft, lL, pL, G2, f2, q⟩ := hx
  subst e
  refine G2.iter ?_
  refine wpAny_newObj_type (newEnv_comp ?_) (by show 0 ≤ sizeLine; decide)
  generalize hD : s2.heap.objs.size = D
  have hDn : H2 D = none := I2.hok.fresh (Nat.le_of_eq hD)
  obtain ⟨hst, W, ⟨m0, w0⟩, turn⟩ := q D hDn
  generalize hs3 : ({ s2 with heap := s2.heap.push { cls := .type "list", data := .seq ([] : List Value).toArray } } : Shared) = s3
  have I3 : Inv X pins σ (upd H2 D (.lst [])) s3 := by
    rw [← hs3]
    refine I2.laid (t' := s2.toks) (fun b o e => Heap.get?_push_of_some _ e) (Nat.le_of_eq hD) ⟨Nat.zero_le _, [], 0, .nil, ?_⟩
    rw [← hD]
    exact Heap.get?_push_size _ rfl
  have h3 : s3.heap = s2.heap.push { cls := .type "list", data := .seq ([] : List Value).toArray } := by rw [← hs3]
  have g3 : s3.gens = s2.gens := by rw [← hs3]
  have sz : ∀ b ∈ fp, b < s2.heap.objs.size := fun b hb => by
    obtain ⟨_, o, e, _⟩ := G2.low b hb
    exact Heap.lt_size e
  have f3 : ∀ b ∈ fp, FpOk X pins (upd H2 D (.lst [])) b ∧ b < s3.heap.objs.size := fun b hb => by
    have hlt := sz b hb
    refine ⟨⟨?_, (f2 b hb).2⟩, by rw [h3, Heap.size_push]; exact Nat.lt_succ_of_lt hlt⟩
    rw [upd_ne (by rw [← hD]; exact Nat.ne_of_lt hlt)]
    exact (f2 b hb).1
  have G3 : GAt (GPar.of X gN gqual gscope gf gcd L) sp.prt sp.fin tot a gi 0 sp.start fp s3 := G2.keep (fun b _ o e => by rw [h3]; exact Heap.get?_push_of_some _ e) fun S e _ => by rw [g3]; exact e
  have hL3 : L < s3.heap.objs.size := (f3 L G2.Lin).2
  have I4 := block_start I3 ok hN f3
  have pg := hg (cutS s3 L) (upd H2 D (.lst [])) s3.heap.objs.size (cellsFrom (s3.heap.objs.size + 1) scope.names (cloFrom X.env.cells scope.names [])) []
  have pt := ht (cutS s3 L) (upd H2 D (.lst [])) s3.heap.objs.size (cellsFrom (s3.heap.objs.size + 1) scope.names (cloFrom X.env.cells scope.names [])) []
  have pe := he (cutS s3 L) (upd H2 D (.lst [])) s3.heap.objs.size (cellsFrom (s3.heap.objs.size + 1) scope.names (cloFrom X.env.cells scope.names [])) []
  show codeAny _ _ (.compStart (.ListComp elt [⟨tg, iter, ifs, 0⟩] scope pos) 0 (.ref a) (.ref D) (compEnvC scope (cellsFrom (s3.heap.objs.size + 1) scope.names (cloFrom X.env.cells scope.names [])) s3.heap.objs.size X.env)) (compPost (model X.prog X.w) X.A X.xe use Qf (.ref D) s3.heap.objs.size) { s3 with heap := pushCells (s3.heap.push { cls := .type "dict", data := .dict #[] }) scope.names }
  have ccl : ∀ x c, (compEnvC scope (cellsFrom (s3.heap.objs.size + 1) scope.names (cloFrom X.env.cells scope.names [])) s3.heap.objs.size X.env).cells.lookup x = some c → c < L := fun x c e => by
    have e : (cellsFrom (s3.heap.objs.size + 1) scope.names (cloFrom X.env.cells scope.names [])).lookup x = some c := e
    rw [← Heap.size_push s3.heap { cls := .type "dict", data := .dict #[] }] at e
    rcases cells_mem (PySem.mem_of_lookup e) with hm | ⟨z, _⟩
    · rcases cloFrom_mem hm with hm | ⟨h1, rfl⟩
      · cases hm
      · obtain ⟨c, hc⟩ := hfree _ h1 rfl
        rw [hc]
        exact ft.celL x c hc
    · exact absurd rfl (noc _ z)
  generalize hce : compEnvC scope (cellsFrom (s3.heap.objs.size + 1) scope.names (cloFrom X.env.cells scope.names [])) s3.heap.objs.size X.env = ce at I4 pg pt pe ccl ⊢
  have cL : ce.locals = s3.heap.objs.size := by subst hce; rfl
  generalize hH3 : upd H2 D (.lst []) = H3 at I3 I4 pg pt pe w0 f3 hst
  generalize hs4 : ({ s3 with heap := pushCells (s3.heap.push { cls := .type "dict", data := .dict #[] }) scope.names } : Shared) = s4 at I4 ⊢
  have g4 : s4.gens = s3.gens := by rw [← hs4]
  have G4 : GAt (GPar.of X gN gqual gscope gf gcd L) sp.prt sp.fin tot a gi 0 sp.start fp s4 := G3.keep (fun b _ o e => by rw [← hs4]; exact pushCells_keeps _ _ _ _ (Heap.get?_push_of_some _ e)) fun S e _ => by rw [g4]; exact e
  have bsL : X.base.objs.size ≤ L := Nat.le_trans I3.ok.bsz ft.szL
  have I5 : Inv (X.blk (cutS s3 L) H3 scope ce []) [] (wipe σ (own.map (·.2))) H3 s4 := inv_reroot I4 (Nat.le_of_lt hL3) bsL ft.frL fun b hb => (G2.low b hb).1
  have fB : GFit (GPar.of (X.blk (cutS s3 L) H3 scope ce []) gN gqual gscope gf gcd L) (X.blk (cutS s3 L) H3 scope ce []) := ⟨ft.kind, ft.plain, ft.room, ft.frL, Nat.le_of_eq (cutH_size (Nat.le_of_lt hL3)), ccl, .inr (by show L < ce.locals; rw [cL]; exact hL3)⟩
  have nfr : ∀ b, L ≤ b → b ∉ frs X.stack := fun b hb hm => absurd (Nat.lt_of_lt_of_le (ft.frL b hm) hb) (Nat.lt_irrefl _)
  have f5 : ∀ b ∈ fp, FpOk (X.blk (cutS s3 L) H3 scope ce []) [] H3 b := fun b hb => by
    refine ⟨(f3 b hb).1.1, ?_, nfr b (G2.low b hb).1, .inr ?_, fun x c e z => ?_, fun p hp => absurd (show p ∈ ([] : List (Addr × Obj)) ++ [] from hp) (by simp)⟩
    · show b ≠ ce.locals
      rw [cL]; exact Nat.ne_of_lt (f3 b hb).2
    · show (cutH s3.heap L).objs.size ≤ b
      rw [cutH_size (Nat.le_of_lt hL3)]; exact (G2.low b hb).1
    · have := ccl x c e
      rw [z] at this
      exact absurd (Nat.lt_of_lt_of_le this (G2.low b hb).1) (Nat.lt_irrefl _)
  have loop : codeAny (model X.prog X.w) X.A (.compLoop (.ListComp elt [⟨tg, iter, ifs, 0⟩] scope pos) 0 (.ref a) (.ref D) ce) (compPost (model X.prog X.w) X.A X.xe use Qf (.ref D) s3.heap.objs.size) s4 := by
    refine compLoop_any (fun n s' => ∃ i H' fp Rq, Inv (X.blk (cutS s3 L) H3 scope ce []) [] (wipe σ (own.map (·.2))) H' s' ∧ GAt (GPar.of X gN gqual gscope gf gcd L) sp.prt sp.fin tot a gi i Rq fp s' ∧ Rq H' ∧ (∀ b ∈ fp, FpOk (X.blk (cutS s3 L) H3 scope ce []) [] H' b) ∧ W i n H') ?_ m0 ⟨0, H3, fp, _, I5, G4, hst, f5, w0⟩
    rintro n s5 ⟨i, H5, fp5, Rq, I5, G5, r5, f5, w5⟩
    obtain ⟨tend, tout⟩ := turn i n H5 w5
    refine gat_next (X := X.blk (cutS s3 L) H3 scope ce []) fB hc I5 G5 f5 r5 (fun u x H6 s6 fp6 I6 rv ho G6 f6 => ?_) fun H6 s6 I6 hfin => ?_
    · refine G6.go ?_
      obtain ⟨Nx, hNx, q6⟩ := tout x H6 ho
      have ob6 : ∀ b ∈ fp6, ∃ o, s6.heap.get? b = some o ∧ ∀ v, o.data ≠ .cell v := fun b hb => (G6.low b hb).2
      have I6' := I6.pinned f6 ob6
      refine thnF (wpAny_mono (wpAny_asleep (pg.run _ (lulled s6) _ H6 x u _ (Inv.lulled I6') rv q6)) (fun _ _ z => z) fun e s' ⟨s1, _, z⟩ => z.elim) fun _ s8 h8 => ?_
      obtain ⟨s8', k8, σ8, H8, I8, hw8, q8⟩ := h8
      obtain ⟨G8, e8, n8⟩ := G6.slept k8 I8 (fun b _ => rfl)
      have I8' := Inv.awake I8 k8 I6.bare
      refine thnF (wpAny_mono (wpAny_asleep (pt.run _ (lulled s8) σ8 H8 _ (Inv.lulled I8') q8)) (fun _ _ z => z) fun e s' ⟨s1, _, z⟩ => z.elim) fun b s9 h9 => ?_
      obtain ⟨s9', k9, H9, I9, q9⟩ := h9
      obtain ⟨G9, e9, n9⟩ := G8.slept k9 I9 e8
      have I9' := Inv.awake I9 k9 I8'.bare
      have fin : ∀ {s' s'' : Shared} {H' : Hp} {s0 : Shared}, GAt (GPar.of X gN gqual gscope gf gcd L) sp.prt sp.fin tot a gi (i + 1) (sp.prt.back i H6) fp6 s' → Inv (X.blk (cutS s3 L) H3 scope ce []) ([] ++ pinsAt fp6 s6.heap) σ8 H' s' → (∀ b ∈ fp6, H' b = none) → Nx H' →
          ∃ m, m < n ∧ ∃ i H' fp Rq, Inv (X.blk (cutS s3 L) H3 scope ce []) [] (wipe σ (own.map (·.2))) H' s' ∧ GAt (GPar.of X gN gqual gscope gf gcd L) sp.prt sp.fin tot a gi i Rq fp s' ∧ Rq H' ∧ (∀ b ∈ fp, FpOk (X.blk (cutS s3 L) H3 scope ce []) [] H' b) ∧ W i m H' := fun {s' s'' H' s0} G' I' n' nx => by
        obtain ⟨hbk, m', hm, w'⟩ := hNx H' nx
        have hl : (wipe σ (own.map (·.2))).length = σ8.length := by rw [← hw8, wipe_length]
        refine ⟨m', hm, i + 1, H', fp6, _, (I'.unpinned (pins := [])).weak hl (fun j v e => ?_), G', hbk, fun b hb => ⟨n' b hb, (f6 b hb).2⟩, w'⟩
        rw [← hw8] at e
        exact (wipe_some e).1
      cases b with
      | false =>
        simp only [Bool.false_eq_true, if_false] at q9 ⊢
        exact fin (s'' := s9) (s0 := s9) G9 I9' n9 q9
      | true =>
        simp only [if_true] at q9 ⊢
        refine thnF (wpAny_mono (wpAny_asleep (pe.run _ (lulled s9) σ8 H9 _ (Inv.lulled I9') q9)) (fun _ _ z => z) fun e s' ⟨s1, _, z⟩ => z.elim) fun z s10 h10 => ?_
        obtain ⟨s10', k10, yv, H10, I10, r10, acc, hD10, hz10, nx⟩ := h10
        obtain ⟨G10, e10, n10⟩ := G9.slept k10 I10 e9
        have I10' := Inv.awake I10 k10 I9'.bare
        refine thnF (wpAny_mono (wpAny_asleep (app_ok (X := X.blk (cutS s3 L) H3 scope ce []) (E := fun _ _ => False) (Q := fun _ s' => Inv (X.blk (cutS s3 L) H3 scope ce []) ([] ++ pinsAt fp6 s6.heap) σ8 (upd H10 D (.lst (acc ++ [yv]))) s') (Inv.lulled I10') hD10 hz10 r10 fun s11 I11 => I11)) (fun _ _ z => z) fun e s' ⟨s1, _, z⟩ => z.elim) fun _ s11 h11 => ?_
        obtain ⟨s11', k11, I11⟩ := h11
        obtain ⟨G11, e11, n11⟩ := G10.slept k11 I11 e10
        exact fin (s'' := s11) (s0 := s11) G11 (Inv.awake I11 k11 I10'.bare) n11 nx
    · have qq := tend H6 hfin
      have u6 : Un (frs X.stack) [] H3 H6 (cutH s3.heap L) s6.heap := I6.base
      have I7 : Inv X pins σ H6 s6 := by
        refine inv_back (L := L) I3 I6.os I6.bare u6 I6.hok ft.szL ft.celL (.inl lL) fun p hp => ?_
        obtain ⟨z1, z2, z3, z4, z5⟩ := I3.pin p hp
        have zc : (cutH s3.heap L).get? p.1 = some p.2 := (cutH_get (pL p hp)).trans z1
        refine ⟨u6.keep p.1 p.2 zc z2 (fun hm => ?_) (fun z => by cases z), u6.free p.1 p.2 zc z2 (fun z => by cases z)⟩
        rcases List.mem_cons.mp (I3.stkSub p.1 hm) with y | y
        · exact z3 y
        · exact z4 y
      have nC : H6 s3.heap.objs.size = none := by
        have z : H6 ce.locals = none := I6.free
        rw [cL] at z
        exact z
      obtain ⟨m, hn, _⟩ := I6.loc
      have hn : s6.heap.Ns ce.locals m := hn
      rw [cL] at hn
      exact hRR D s3.heap.objs.size s6 m H6 I7 qq hn (I3.fpOk (Nat.le_refl _) nC)
  exact codeAny_compStart_list loop (G4.iter loop)
/-- as a value -/
theorem pe_lcG {elt tg iter : Expr} {ifs : List Expr} {scope : Scope} {own : List (Str × Nat)} {pos : Pos} {wi : TIg} {g : TG} {tt : TT} {te : TE} (hc : X.calm = true) (hN : X.N.Nodup) (hi : PIG X iter wi) (ok : BlkOk X.N X.env.scope scope own) (noc : ∀ y ∈ scope.names, y.2 ≠ .cell)
    (hg : ∀ (s : Shared) (H : Hp) (C : Addr) (cl : List (Str × Addr)) (fp : List Addr), PG (X.blk s H scope (compEnvC scope cl C X.env) fp) tg g) (ht : ∀ (s : Shared) (H : Hp) (C : Addr) (cl : List (Str × Addr)) (fp : List Addr), PTs (X.blk s H scope (compEnvC scope cl C X.env) fp) ifs tt)
    (he : ∀ (s : Shared) (H : Hp) (C : Addr) (cl : List (Str × Addr)) (fp : List Addr), PE (X.blk s H scope (compEnvC scope cl C X.env) fp) elt te) (hs : ∀ x, foldedSetIterable iter X.env x = pure x := by intro _; rfl) :
    PE X (.ListComp elt [⟨tg, iter, ifs, 0⟩] scope pos) (tLcG wi g tt te (own.map (·.2))) := by
  refine ⟨fun pins s σ H Q I h => ?_⟩
  rw [eval_ListComp]
  refine lc_coreG hc hN I hi ok noc hg ht he hs h fun D C s' m H' I' q hn f => ⟨m, hn, fun h'' sb => ?_⟩
  obtain ⟨f0, f1, f2, f3, f4, f5⟩ := f
  exact ⟨.ref D, H', I'.turned (t' := s'.toks) (fun b o hb e => (sb.2 b hb).trans e) f0 f1 f3 f4 f5, rfl, q⟩
/-- name = [..] on one line, the name a local -/
theorem ps_setLcG {i : Nat} {y : Str} {py : Pos} {elt tg iter : Expr} {ifs : List Expr} {scope : Scope} {own : List (Str × Nat)} {pos spos : Pos} {wi : TIg} {g : TG} {tt : TT} {te : TE} (hc : X.calm = true) (hN : X.N.Nodup) (hy : X.N[i]? = some y) (hyl : X.env.scope.names.lookup y = some .local)
    (hsw : swapsWith (.ListComp elt [⟨tg, iter, ifs, 0⟩] scope pos) (some (.Name y py)) spos.line X.env = pure true) (hi : PIG X iter wi) (ok : BlkOk X.N X.env.scope scope own) (noc : ∀ y ∈ scope.names, y.2 ≠ .cell)
    (hg : ∀ (s : Shared) (H : Hp) (C : Addr) (cl : List (Str × Addr)) (fp : List Addr), PG (X.blk s H scope (compEnvC scope cl C X.env) fp) tg g) (ht : ∀ (s : Shared) (H : Hp) (C : Addr) (cl : List (Str × Addr)) (fp : List Addr), PTs (X.blk s H scope (compEnvC scope cl C X.env) fp) ifs tt)
    (he : ∀ (s : Shared) (H : Hp) (C : Addr) (cl : List (Str × Addr)) (fp : List Addr), PE (X.blk s H scope (compEnvC scope cl C X.env) fp) elt te) (hs : ∀ x, foldedSetIterable iter X.env x = pure x := by intro _; rfl) :
    PS X (.Assign [.Name y py] (.ListComp elt [⟨tg, iter, ifs, 0⟩] scope pos) spos) (tAsg (tLcG wi g tt te (own.map (·.2))) (gName i)) := by
  refine ⟨fun pins s σ H D I h => ?_⟩
  rw [exec_Assign_Name_used _ _ _ _ hsw]
  refine wpAny_bind (wpAny_standAt (wpAny_bind ?_))
  show wpAny _ X.A (do let _ ← comprehension (.ListComp elt [⟨tg, iter, ifs, 0⟩] scope pos) scope X.env (firstIterPos [⟨tg, iter, ifs, 0⟩] pos) (newList []) false (eval iter X.env) (some (assign (.Name y py) X.env))) _ _ s
  have h : tLcG wi g tt te (own.map (·.2)) σ H (fun x H1 => gName i x σ H1 D.nx) := h
  refine wpAny_bind (thn (lc_coreG (Qf := fun _ s' => SP X pins D .next s') hc hN I hi ok noc hg ht he hs h fun L C s' m H' I' q hn f => ?_) fun _ s' hq => wpAny_pure (wpAny_pure hq))
  show wpAny _ _ (assign (.Name y py) X.env (.ref L)) _ _ _
  refine wpAny_assign_Name (store_ok2 (v := V.ref L) I' hN hy (.inl hyl) rfl (fun s2 I2 ⟨a, sb, ha⟩ => ?_) (.inr hyl))
  obtain ⟨f0, f1, f2, f3, f4, f5⟩ := f
  have haC : C ≠ a := by
    rcases ha with z | z
    · rw [z]; exact f1
    · exact fun e => f4 y a z e.symm
  refine ⟨m, hn.sameBut sb haC, fun h3 sb3 => ?_⟩
  exact ⟨_, H', I2.turned (t' := s2.toks) (fun b o hb e => (sb3.2 b hb).trans e) f0 f1 f3 f4 f5, q⟩
end
theorem lcG_it {sp : GSpec} {n : Nat} {Gd : Hp → Prop} {Y : Nat → Hp → V → Hp → Prop} (w : GWalk sp n Gd Y) {g : TG} {tt : TT} {te : TE} {vs : List Nat} {σ : L2.St} {H1 : Hp} {D : Addr} {Qd : Hp → Prop} (Pv : Nat → Hp → Prop) (h0 : Pv 0 (upd H1 D (.lst []))) (hG : ∀ i H, i ≤ n → Pv i H → Gd H)
    (hs : ∀ i x H H', i < n → Pv i H → Y i H x H' → g x (wipe σ vs) H' fun σ2 H2 => wipe σ2 vs = wipe σ vs ∧ tt σ2 H2 fun b H3 =>
      if b = true then te σ2 H3 fun y H4 => ∃ acc, H4 D = some (.lst acc) ∧ acc.length < sizeLine ∧ Pv (i + 1) (upd H4 D (.lst (acc ++ [y]))) else Pv (i + 1) H3) (hd : ∀ H, Pv n H → Qd H) :
    sp.start (upd H1 D (.lst [])) ∧ ∃ W : Nat → Nat → Hp → Prop, (∃ m, W 0 m (upd H1 D (.lst []))) ∧ ∀ i m H, W i m H →
      (∀ H', sp.fin i H H' → Qd H') ∧ ∀ x H', sp.out i H x H' → ∃ Nx : Hp → Prop, (∀ H'', Nx H'' → sp.back i H' H'' ∧ ∃ m', m' < m ∧ W (i + 1) m' H'') ∧ g x (wipe σ vs) H' fun σ2 H2 => wipe σ2 vs = wipe σ vs ∧ tt σ2 H2 fun b H3 =>
        if b = true then te σ2 H3 fun y H4 => ∃ acc, H4 D = some (.lst acc) ∧ acc.length < sizeLine ∧ Nx (upd H4 D (.lst (acc ++ [y]))) else Nx H3 := by
  refine ⟨w.st _ (hG 0 _ (Nat.zero_le _) h0), fun i m H => m = n - i ∧ i ≤ n ∧ Pv i H, ⟨n, by simp, Nat.zero_le _, h0⟩, ?_⟩
  rintro i m H ⟨rfl, hi, p⟩
  have q := hG i H hi p
  refine ⟨fun H' hf => ?_, fun x H' ho => ?_⟩
  · obtain ⟨e, e'⟩ := w.fin i H H' q hf
    subst e e'
    exact hd _ p
  · obtain ⟨hlt, y⟩ := w.out i H x H' q ho
    exact ⟨Pv (i + 1), fun H'' p' => ⟨w.back i H' H'' (hG _ _ hlt p'), n - (i + 1), by omega, rfl, hlt, p'⟩, hs i x H H' hlt p y⟩
end My
/-! A generator def by its body; its calls. -/
namespace My
open PySem PySem.Spec PyProof.Rows L2 GenW
/-- a generator def's promise: what it does when it is called with these -/
abbrev SpGn := List V → GSpec → Prop
structure GDef (P : Program) (w : World) (K : PySem.W.Frag) (mg : Str → Option Value) (base : Heap) (k : Nat) (f : Addr) (fd : FuncData) (ps : List Str) (sp : SpGn) : Prop where
  len : ∀ vs s, sp vs s → vs.length = ps.length
  run : ∀ (X : Cx) (pins : List (Addr × Obj)) (σ : L2.St) (H : Hp) (s : Shared) (args : Args) (us : List Value) (vs : List V) (gs : GSpec), X.prog = P → X.w = w → X.K = K → X.mg = mg → X.base = base → X.calm = true → Room k X.A → Inv X pins σ H s → BindsTo s fd args (ps.zip us) → Vals vs us → sp vs gs →
    codeAny (model P w) X.A (.call (.ref f) args) (fun r s' => match r with | .ok (.ret u) => PIGE X pins σ (fun g' H' => g' = gs ∧ H' = H) u s' | _ => False) s
theorem gdef_of {P : Program} {w : World} {K : PySem.W.Frag} {mg : Str → Option Value} {base : Heap} {k : Nat} {f : Addr} {name qual : Str} {params : Arguments} {body : List Stmt} {scope : Scope} {dV kV doc pm cdv ct oc : Value} {an od : Option Addr}
    {osl : Array (Option Value)} {N ps : List Str} {sp : SpGn} (lk : K.lookup f = some ⟨oc, od, .func (PySem.W.fnOf name qual params body scope dV kV doc pm an cdv ct), osl⟩) (hcd : PySem.W.codeIn K cdv qual = true) (S : GScope N ps scope) (noc : ∀ y ∈ scope.names, y.2 ≠ .cell)
    (len : ∀ vs s, sp vs s → vs.length = ps.length)
    (hbody : ∀ (A : Around) (outer : List Env) (L : Addr) (vs : List V) (gs : GSpec), Room k (A.deeper (envOfC qual scope L f cdv)) → sp vs gs →
      ∃ tot t, GS1s ⟨P, w, K, mg, base, N, qual, scope, f, cdv, A, outer, L, fun _ _ _ => False⟩ gs.prt tot body t ∧ ∀ H, gs.start H → t { nx := fun i Hw _ H' => gs.fin i Hw H', rt := fun i Hw v H' => v = .non ∧ gs.fin i Hw H' } 0 H (start N vs) H) :
    GDef P w K mg base (k + 2) f (PySem.W.fnOf name qual params body scope dV kV doc pm an cdv ct) ps sp := by
  refine ⟨len, fun X pins σ H s args us vs gs hP hw hK hmg hba hc hr I hb r hsp => ?_⟩
  subst hP hw hK hmg hba
  have e0 := I.env0
  have hl := len _ _ hsp
  have KX : X.K.In s.heap := I.kIn
  have hkind : ∀ y ∈ ps.zip us, scope.names.lookup y.1 = some .local ∨ (scope.names.lookup y.1 = some .cell ∧ ((cellsFrom (s.heap.objs.size + 1) scope.names []).lookup y.1).isSome = true) := fun ⟨n, v⟩ hy => by
    rcases S.par n (List.of_mem_zip hy).1 with q | q
    · exact .inl q
    · exact absurd rfl (noc _ (PySem.mem_of_lookup q))
  refine codeAny_call_generator hr.depth (KX _ _ lk) rfl S.co S.gen rfl (PySem.W.codeRec_of KX hcd) (hb _ _ _ _ ?_)
  refine wpAny_newFunctionEnv_cells S.kind hkind fun env he s1 x => ?_
  subst he
  have lim1 : s1.heap.NoLimit := I.nolimit.keeps x.toInCall.keep
  refine ⟨lim1, ?_⟩
  obtain ⟨h1, tk, es1, hk1⟩ := x.done
  have os1 : s1.os = s.os := by rw [es1]
  have gen1 : s1.gens = s.gens := by rw [es1]
  have lt1 : s.heap.objs.size < s1.heap.objs.size := x.toInCall.ns.lt
  have kp1 : ∀ b o, s.heap.get? b = some o → s1.heap.get? b = some o := x.toInCall.keep
  have I1 : Inv (gcxOf X.prog X.w X.K X.mg X.base N qual scope f cdv X.A X.stack s H (fun _ _ _ => False) []) [] (start N vs) H s1 := inv_startG S hr.hd e0 hl r x
  have main : ∀ (go : Obj) (nm qn : Value) (tk2 : Nat), go.cls = .type "generator" → go.data = .fields #[.int s1.gens.size 0, nm, qn] → go.slots = #[] → (∀ h : Heap, (h.push go).get? h.objs.size = some go) →
      PIGE X pins σ (fun g' H' => g' = gs ∧ H' = H) (.ref s1.heap.objs.size) { s1 with gens := s1.gens.push (.fresh (.func body (envOfC qual scope s.heap.objs.size f cdv))), toks := tk2, heap := s1.heap.push go } := by
    intro go nm qn tk2 hgc hgd0 hgs hgp
    have hpushed : (s1.heap.push go).get? s1.heap.objs.size = some go := hgp _
    have kp2 : ∀ b o, s.heap.get? b = some o → (s1.heap.push go).get? b = some o := fun b o e => Heap.get?_push_of_some _ (kp1 b o e)
    obtain ⟨tot, t, ht, hq⟩ := hbody X.A.in1 X.stack s.heap.objs.size vs gs ((hr.in1).deeper _) hsp
    obtain ⟨m, hm, hlk⟩ := I1.loc
    obtain ⟨oL, esL, epL, hoL, hdL, hrL⟩ := id hm
    have hoL' : (s1.heap.push go).get? s.heap.objs.size = some oL := Heap.get?_push_of_some _ hoL
    have ltS : ∀ b o, s.heap.get? b = some o → b < s.heap.objs.size := fun b o e => Heap.lt_size e
    have fpk : ∀ b, s.heap.objs.size ≤ b → FpOk X pins H b := fun b hb => I.fpOk hb (I.hok.fresh hb)
    refine ⟨N, qual, scope, f, cdv, s.heap.objs.size, tot, s1.heap.objs.size, s1.gens.size, [s1.heap.objs.size, s.heap.objs.size], gs, H, rfl, ?_, ?_, I.lt, fun p hp => ltS _ _ (I.pin p hp).1, ?_, fun b hb => ?_, rfl, rfl⟩
    · exact I.call' (ch := []) (s' := { s1 with gens := s1.gens.push (.fresh (.func body (envOfC qual scope s.heap.objs.size f cdv))), toks := tk2, heap := s1.heap.push go }) os1 (Un.kept kp2) (I.hok.kept kp2) (AllBare.push (by rw [gen1]; exact I.bare) rfl) fun b z => by simp at z
    · refine ⟨S.kind, fun y hy => ⟨noc y hy, S.nofree y hy⟩, hr.depth, fun b hb => ?_, I.sz, fun y c e => ?_, .inl I.lt⟩
      · obtain ⟨_, o, ho, _⟩ := I.stack.mem hb
        exact ltS b o ho
      · obtain ⟨v, o, ho, _⟩ := I.cell y c e
        exact ltS c o ho
    · refine ⟨⟨_, [], start N vs, tot, Nat.add_zero _, Array.getElem?_push_size .., fun z => absurd rfl z, I1.len, ⟨m, ⟨oL, esL, epL, hoL', hdL, hrL⟩, fun j y v e1 e2 e3 => ?_⟩, fun q hq => absurd hq (by simp), fun rt s'' Jw hst => ?_⟩, ⟨go, nm, qn, hpushed, hgc, hgd0, hgs⟩, lt1, List.mem_cons_self, List.mem_cons_of_mem _ List.mem_cons_self, fun b hb => ?_⟩
      · obtain ⟨u', ru, lk'⟩ := hlk j y v e1 e2 e3
        refine ⟨u', ru, ?_⟩
        rcases lk' with ⟨_, z⟩ | ⟨z, c', e', _⟩
        · exact z
        · have z : scope.names.lookup y = some .cell ∨ scope.names.lookup y = some .free := z
          rcases z with z | z
          · exact absurd rfl (noc _ (PySem.mem_of_lookup z))
          · exact absurd rfl (S.nofree _ (PySem.mem_of_lookup z))
      · show Seg1 _ _ _ (.func body (envOfC qual scope s.heap.objs.size f cdv)) ((model X.prog X.w).den (.func body (envOfC qual scope s.heap.objs.size f cdv))) [] s''
        refine seg1_func ?_
        refine ht.run gs.fin [] tot 0 rt _ [] _ _ id id s'' (start N vs) rt.H _ ⟨over_func, rfl, rfl, rfl⟩ (Nat.add_zero _) ⟨fun n i r' s' fl hn hs => ?_, fun n i r' e s' hx => ?_⟩ Jw (hq rt.H hst)
        · cases fl with
          | next =>
            obtain ⟨σ', H', J', hQ⟩ := hs
            exact seg1_end (.ok (.ret .none)) (phi_end ⟨.inl rfl, [], σ', H', J', hQ⟩)
          | brk => obtain ⟨_, _, _, q⟩ := hs; exact False.elim q
          | cont => obtain ⟨_, _, _, q⟩ := hs; exact False.elim q
          | ret u =>
            obtain ⟨v, σ', H', J', rv, ev, hQ⟩ := hs
            subst ev
            have eu : u = Value.none := rv
            subst eu
            exact seg1_end (.ok (.ret .none)) (phi_end ⟨.inl rfl, [], σ', H', J', hQ⟩)
        · refine seg1_wrap ?_
          rw [over_func]
          refine wpAny_mono (show wpAny (model X.prog X.w) (X.A.in1.deeper (envOfC qual scope s.heap.objs.size f cdv)) (leaving (envOfC qual scope s.heap.objs.size f cdv) e) (fun _ s'' => CX X.prog X.w X.stack r'.H r'.s (fun _ _ _ => False) e s'' ∧ ∀ p ∈ r'.pn, s''.heap.get? p.1 = some p.2) (fun _ _ => False) s' from hx) (fun _ s3 q => ?_) fun _ s3 q => q.elim
          exact seg1_end (.error e) (phi_exc q)
      · rcases List.mem_cons.mp hb with z | z
        · rw [z]
          exact ⟨Nat.le_of_lt lt1, go, hpushed, fun v q => by rw [hgd0] at q; cases q⟩
        · rw [List.mem_singleton.mp z]
          exact ⟨Nat.le_refl _, oL, hoL', fun v q => by rw [hdL] at q; cases q⟩
    · rcases List.mem_cons.mp hb with z | z
      · rw [z]; exact fpk _ (Nat.le_of_lt lt1)
      · rw [List.mem_singleton.mp z]; exact fpk _ (Nat.le_refl _)
  exact main _ _ _ _ rfl rfl rfl fun h => Heap.get?_push_size _ rfl
section
variable {X : Cx} {k : Nat} {f C : Addr} {fd : FuncData} {ps : List Str} {sp : SpGn} {dvs : List V} {ds : List Value} {x m : Str} {p pos pos' apos : Pos} {o : Expr} {ta : TE}
theorem run_gdef {pins : List (Addr × Obj)} {σ : L2.St} {H : Hp} {s : Shared} {us : List Value} {vs : List V} {gs : GSpec} {R : GSpec → Hp → Prop} {E1 : Value → Shared → Prop} (F : GDef X.prog X.w X.K X.mg X.base k f fd ps sp) (hc : X.calm = true) (hr : Room k X.A) (hb : Binds X.K fd ps ds) (hd : Vals dvs ds)
    (I : Inv X pins σ H s) (r : Vals vs us) (h : sp (vs ++ dvs) gs) (q : R gs H) : wpAny (model X.prog X.w) X.A (call (.ref f) us) (PIGE X pins σ R) E1 s := by
  have r2 : Vals (vs ++ dvs) (us ++ ds) := r.append hd
  have hl2 : (us ++ ds).length = ps.length := by rw [← r2.length]; exact F.len _ _ h
  refine wpAny_call (codeAny_mono (F.run X pins σ H s ⟨us, []⟩ (us ++ ds) (vs ++ dvs) gs rfl rfl rfl rfl rfl hc hr I (hb s us I.kIn hl2) r2 h) fun r s' hq => ?_)
  cases r with
  | error e => exact False.elim hq
  | ok fl =>
    cases fl with
    | ret u =>
      obtain ⟨N, qual, scope, f', cd, L, tot, a, gi, fp, sp', H1, a1, a2, a3, a4, a5, a6, a7, e1, e2⟩ := hq
      exact ⟨N, qual, scope, f', cd, L, tot, a, gi, fp, sp', H1, a1, a2, a3, a4, a5, a6, a7, by rw [e1, e2]; exact q⟩
    | next => exact False.elim hq
    | brk => exact False.elim hq
    | cont => exact False.elim hq
def iMethG (C : Addr) (m : Str) (sp : SpGn) (dvs : List V) (ta : TE) (t : TA) : TIg := fun σ H R => ta σ H fun x H1 => ∃ a dx fs, x = .ref a ∧ H1 a = some (.ins C dx fs) ∧ fs.lookup m = none ∧ t σ H1 fun vs H2 => ∃ gs, sp (x :: (vs ++ dvs)) gs ∧ R gs H2
/-- o.m() of a generator method -/
theorem pig_meth0 {pl : Sem Bool} (he : PE X o ta) (hc : X.calm = true) (c : Cls X.K C) (hm : Meth X.K C m f) (F : GDef X.prog X.w X.K X.mg X.base k f fd ps sp) (hr : Room k X.A) (hb : Binds X.K fd ps ds) (hd : Vals dvs ds)
    (ht : eval (.Call (.Attribute o m apos) [] [] pos') X.env = (do
      let ov ← eval o X.env
      standAt apos.atName
      let (f, first) ← holding [ov] (getMethod ov m pl)
      callWith pos' f first (backTo pos' (starEach [] X.env)) (backToKw pos' (keywordEach [] X.env))) := by rfl) :
    PIG X (.Call (.Attribute o m apos) [] [] pos') (iMethG C m sp dvs ta tNil) := by
  refine ⟨fun pins s σ H R I h => ?_⟩
  refine PySem.W.methodCall_KW (pl := pl) (thn (he.run pins s σ H _ I h) fun u s1 ⟨x, H1, I1, rx, a, dx, fs, ex, ea, l, q⟩ => ?_) ht
  subst ex
  obtain rfl : u = Value.ref a := rx
  refine getmeth_ok I1 ea c hm l ?_
  obtain ⟨gs, q1, q2⟩ := q
  exact PySem.W.callWith_K0 (first := [.ref a]) I1.kIn hm.kp (run_gdef (us := [.ref a]) (vs := [.ref a]) F hc hr hb hd I1 (.cons rfl .nil) q1 q2)
/-- o.m(e, ..) of a generator method -/
theorem pig_meth {pl : Sem Bool} {e : Expr} {es : List Expr} {t : TA} (he : PE X o ta) (hc : X.calm = true) (c : Cls X.K C) (hm : Meth X.K C m f) (F : GDef X.prog X.w X.K X.mg X.base k f fd ps sp) (hr : Room k X.A) (hb : Binds X.K fd ps ds) (hd : Vals dvs ds) (ha : PA X (e :: es) t)
    (hst : starEach (e :: es) X.env = (false, eval e X.env) :: starEach es X.env := by rfl) (hpl : (backTo pos' (starEach es X.env)).any (·.1) = false := by rfl)
    (ht : eval (.Call (.Attribute o m apos) (e :: es) [] pos') X.env = (do
      let ov ← eval o X.env
      standAt apos.atName
      let (f, first) ← holding [ov] (getMethod ov m pl)
      callWith pos' f first (backTo pos' (starEach (e :: es) X.env)) (backToKw pos' (keywordEach [] X.env))) := by rfl) :
    PIG X (.Call (.Attribute o m apos) (e :: es) [] pos') (iMethG C m sp dvs ta t) := by
  refine ⟨fun pins s σ H R I h => ?_⟩
  refine PySem.W.methodCall_KW (pl := pl) (thn (he.run pins s σ H _ I h) fun u s1 ⟨x, H1, I1, rx, a, dx, fs, ex, ea, l, q⟩ => ?_) ht
  subst ex
  obtain rfl : u = Value.ref a := rx
  refine getmeth_ok I1 ea c hm l ?_
  refine PySem.W.callWith_K (first := [.ref a]) (h₀ := X.base) I1.ok.mod.kin hm.kp (thn (ha.run pos' pins s1 σ H1 _ I1 q) fun us s2 ⟨vs, H2, I2, r, gs, q1, q2⟩ => ⟨I2.kIn, ?_⟩) hst hpl
  exact run_gdef (us := .ref a :: us) (vs := .ref a :: vs) F hc hr hb hd I2 (.cons rfl r) q1 q2
def iCallG (sp : SpGn) (dvs : List V) (t : TA) : TIg := fun σ H R => t σ H fun vs H1 => ∃ gs, sp (vs ++ dvs) gs ∧ R gs H1
/-- f(e, ..) of a generator def -/
theorem pig_call {e : Expr} {es : List Expr} {t : TA} (F : GDef X.prog X.w X.K X.mg X.base k f fd ps sp) (hc : X.calm = true) (hr : Room k X.A) (hg : Gl X x) (hm : X.mg x = some (.ref f)) (hk : PySem.W.keepIn X.K (.ref f) = true) (hb : Binds X.K fd ps ds) (hd : Vals dvs ds)
    (ha : PA X (e :: es) t) (hdb : (x == ("__debug__" : Str)) = false := by decide) (he : starEach (e :: es) X.env = (false, eval e X.env) :: starEach es X.env := by rfl) (hpl : (backTo pos' (starEach es X.env)).any (·.1) = false := by rfl) :
    PIG X (.Call (.Name x p) (e :: es) [] pos') (iCallG sp dvs t) := by
  refine ⟨fun pins s σ H R I h => ?_⟩
  refine wpAny_Call_Name_kw (ld_glob I hg hm ?_ hdb)
  refine PySem.W.callWith_K (h₀ := X.base) I.ok.mod.kin hk (thn (ha.run pos' pins s σ H _ I h) fun us s1 ⟨vs, H1, I1, r, gs, q1, q2⟩ => ⟨I1.kIn, ?_⟩) he hpl
  exact run_gdef F hc hr hb hd I1 r q1 q2
end
end My
/-! Generator methods and defs by name; a generator that hands out what stands in a tuple. -/
namespace My
open PySem PySem.Spec PyProof.Rows L2
structure GMeth (P : Program) (w : World) (K : PySem.W.Frag) (mg : Str → Option Value) (base : Heap) (k : Nat) (C : Addr) (m : Str) (sp : SpGn) : Prop where
  ex : ∃ f fd, Meth K C m f ∧ GDef P w K mg base k f fd ["self"] sp ∧ L2.Binds K fd ["self"] []
theorem pig_m0 {X : Cx} {k : Nat} {C : Addr} {m : Str} {sp : SpGn} {o : Expr} {ta : TE} {pos' apos : Pos} {pl : Sem Bool} (M : GMeth X.prog X.w X.K X.mg X.base k C m sp) (hc : X.calm = true) (c : Cls X.K C) (hr : Room k X.A) (he : PE X o ta)
    (ht : eval (.Call (.Attribute o m apos) [] [] pos') X.env = (do
      let ov ← eval o X.env
      standAt apos.atName
      let (f, first) ← holding [ov] (getMethod ov m pl)
      callWith pos' f first (backTo pos' (starEach [] X.env)) (backToKw pos' (keywordEach [] X.env))) := by rfl) :
    PIG X (.Call (.Attribute o m apos) [] [] pos') (iMethG C m sp [] ta tNil) := by
  obtain ⟨f, fd, hm, F, hb⟩ := M.ex
  exact pig_meth0 he hc c hm F hr hb .nil ht
/-- it hands out what stands in the tuple at t, while the tuple stands -/
def tupG (S0 : Hp → Prop) (t : Addr) (zs : List V) : GSpec := ⟨fun H => S0 H ∧ H t = some (.tup zs), fun i Hw x H' => H' = Hw ∧ zs[i]? = some x, fun _ _ H'' => H'' t = some (.tup zs), fun i Hw H' => H' = Hw ∧ i = zs.length⟩
theorem walk_tupG {S0 : Hp → Prop} {t : Addr} {zs : List V} : GWalk (tupG S0 t zs) zs.length (fun H => S0 H ∧ H t = some (.tup zs)) (YAt zs) :=
  ⟨fun H h => h, fun i H x H' _ h => ⟨(List.getElem?_eq_some_iff.mp h.2).1, h⟩, fun i H' H'' h => h.2, fun i H H' _ h => ⟨h.2, h.1⟩⟩
/-- the reading of «for x in t: yield x» -/
theorem for_tupG {K : PySem.W.Frag} {t : Addr} {zs : List V} {S0 : Hp → Prop} {D : GEn} {σ : L2.St} {H : Hp} (ix : Nat) (h0 : H t = some (.tup zs)) (nx : ∀ σ Hw, D.nx zs.length Hw σ Hw) (hl : ix < σ.length) :
    ∃ W : Nat → Nat → Nat → Hp → L2.St → Hp → Prop, (∃ m, W 0 m 0 H σ H) ∧ ∀ j m i Hw σ H, W j m i Hw σ H →
      ((Itt K t).stop j H ∧ D.nx i Hw σ H) ∨ ((Itt K t).go j H ∧ ∃ N : Nat → Hp → L2.St → Hp → Prop, (∀ i' Hw' σ' H', N i' Hw' σ' H' → ∃ m', m' < m ∧ W (j + 1) m' i' Hw' σ' H') ∧ ∀ x H', (Itt K t).yld j H x H' → gName ix x σ H' fun σ2 H2 =>
        (tG1then (tG1yield (tupG S0 t zs).prt zs.length (tVar ix)) tG1nil) { D with nx := N, ct := N, bk := D.nx } i Hw σ2 H2) := by
  refine ⟨fun j m i Hw σ H => m = zs.length - j ∧ j ≤ zs.length ∧ i = j ∧ Hw = H ∧ H t = some (.tup zs) ∧ ix < σ.length, ⟨zs.length, by simp, Nat.zero_le _, rfl, rfl, h0, hl⟩, ?_⟩
  intro j m i Hw σ H hw
  obtain ⟨e1, hj, e2, e3, ht, hl⟩ := hw
  subst e1 e2 e3
  by_cases hlt : i < zs.length
  · refine .inr ⟨⟨zs, zs[i], SqT.of ht, by simp [hlt]⟩, fun i' Hw' σ' H' => i' = i + 1 ∧ Hw' = H' ∧ H' t = some (.tup zs) ∧ ix < σ'.length, fun i' Hw' σ' H' h => ⟨zs.length - (i + 1), by omega, rfl, hlt, h.1, h.2.1, h.2.2.1, h.2.2.2⟩, fun x H' y => ?_⟩
    obtain ⟨e, y⟩ := y
    subst e
    have hx := y zs (SqT.of ht)
    refine ⟨hlt, x, ?_, ⟨rfl, hx⟩, fun H2 hb => ?_⟩
    · rw [List.getElem?_set_self hl]
    · exact ⟨rfl, rfl, hb, by rw [List.length_set]; exact hl⟩
  · have e : i = zs.length := by omega
    subst e
    exact .inl ⟨⟨zs, SqT.of ht, Nat.le_refl _⟩, nx σ _⟩
end My
/-! Generator defs by name, called by places or by keywords. -/
namespace My
open PySem PySem.Spec PyProof.Rows L2 GenW
structure GnAt (P : Program) (w : World) (K : PySem.W.Frag) (mg : Str → Option Value) (base : Heap) (k : Nat) (x : Str) (ps : List Str) (sp : SpGn) : Prop where
  ex : ∃ f fd, mg x = some (.ref f) ∧ PySem.W.keepIn K (.ref f) = true ∧ GDef P w K mg base k f fd ps sp ∧ L2.Binds K fd ps []
structure GnKw (P : Program) (w : World) (K : PySem.W.Frag) (mg : Str → Option Value) (base : Heap) (k : Nat) (x : Str) (ps ks : List Str) (sp : SpGn) (gV : List V → List V → List V) : Prop where
  ex : ∃ f fd g, mg x = some (.ref f) ∧ PySem.W.keepIn K (.ref f) = true ∧ GDef P w K mg base k f fd ps sp ∧ KBn K fd ps 0 ks g gV
def iCallK (j : Nat) (sp : SpGn) (gV : List V → List V → List V) (tk : TA) : TIg := fun σ H R => tk σ H fun zs H1 => zs.length = j ∧ ∃ gs, sp (gV [] zs) gs ∧ R gs H1
section
variable {X : Cx} {k : Nat} {ps ks : List Str} {sp : SpGn} {x : Str} {p pos : Pos}
theorem pig_d {e : Expr} {es : List Expr} {t : TA} (M : GnAt X.prog X.w X.K X.mg X.base k x ps sp) (hc : X.calm = true) (hr : Room k X.A) (hg : Gl X x) (ha : PA X (e :: es) t) (hdb : (x == ("__debug__" : Str)) = false := by decide)
    (he : starEach (e :: es) X.env = (false, eval e X.env) :: starEach es X.env := by rfl) (hpl : (backTo pos (starEach es X.env)).any (·.1) = false := by rfl) : PIG X (.Call (.Name x p) (e :: es) [] pos) (iCallG sp [] t) := by
  obtain ⟨f, fd, hm, hk, F, hb⟩ := M.ex
  exact pig_call F hc hr hg hm hk hb .nil ha hdb he hpl
theorem pig_dK {kws : List Keyword} {tk : TA} {gV : List V → List V → List V} (M : GnKw X.prog X.w X.K X.mg X.base k x ps ks sp gV) (hc : X.calm = true) (hr : Room k X.A) (hg : Gl X x) (hkw : PK X kws tk)
    (hall : (backToKw pos (keywordEach kws X.env)).all (·.1.isSome) = true := by rfl) (hks : (backToKw pos (keywordEach kws X.env)).filterMap (·.1) = ks := by rfl) (hdb : (x == ("__debug__" : Str)) = false := by decide)
    (hpl : ((backTo pos (starEach [] X.env)).any (·.1) || (backToKw pos (keywordEach kws X.env)).any (·.1.isNone)) = false := by rfl) : PIG X (.Call (.Name x p) [] kws pos) (iCallK ks.length sp gV tk) := by
  obtain ⟨f, fd, g, hm, hk, F, b⟩ := M.ex
  refine ⟨fun pins s σ H R I h => ?_⟩
  refine wpAny_Call_Name_kw (ld_glob I hg hm ?_ hdb)
  refine PySem.W.callWith_KW0 (first := []) (h₀ := X.base) I.ok.mod.kin hk hall (thn (hkw.run pos pins s σ H _ I h) fun ws s2 ⟨zs, H2, I2, rz, l2, gs, q1, q2⟩ => ⟨I2.kIn, ?_⟩) hpl
  rw [hks]
  have r2 := b.rel (vs := []) (us := []) .nil rz
  show wpAny _ _ (call (.ref f) [] (ks.zip ws)) _ _ _
  refine wpAny_call (codeAny_mono (F.run X pins σ H2 s2 ⟨[], ks.zip ws⟩ (g [] ws) (gV [] zs) gs rfl rfl rfl rfl rfl hc hr I2 (b.to s2 [] ws I2.kIn rfl (rz.length.symm.trans l2)) r2 q1) fun r s' hq => ?_)
  cases r with
  | error e => exact False.elim hq
  | ok fl =>
    cases fl with
    | ret u =>
      obtain ⟨N, qual, scope, f', cd, L, tot, a, gi, fp, sp', H1, a1, a2, a3, a4, a5, a6, a7, e1, e2⟩ := hq
      exact ⟨N, qual, scope, f', cd, L, tot, a, gi, fp, sp', H1, a1, a2, a3, a4, a5, a6, a7, by rw [e1, e2]; exact q2⟩
    | next => exact False.elim hq
    | brk => exact False.elim hq
    | cont => exact False.elim hq
end
end My
/-! list(g(..)) of a generator def by name. -/
namespace My
open PySem PySem.Spec PyProof.Rows L2 GenW
/-- x() -/
theorem pe_d0 {X : Cx} {CX : CXT} {k : Nat} {ps : List Str} {sp : Sp} {E : XK} {x : Str} {p pos : Pos} (D : DefAt X.prog X.w X.K X.mg X.base CX k x ps sp) (hr : Room k X.A) (hg : Gl X x) (hx : Passes CX X E) (hdb : (x == ("__debug__" : Str)) = false := by decide) : PE X (.Call (.Name x p) [] [] pos) (tCall sp [] E tNil) := by
  obtain ⟨f, fd, F, m, hk, b⟩ := D.ex
  exact pe_call0 F hr hg m hk b .nil hx hdb
structure GfAt (P : Program) (w : World) (K : PySem.W.Frag) (mg : Str → Option Value) (base : Heap) (k : Nat) (x : Str) (ps : List Str) (sp : SpG) : Prop where
  ex : ∃ f fd, mg x = some (.ref f) ∧ PySem.W.keepIn K (.ref f) = true ∧ GFn P w K mg base k f fd ps sp ∧ L2.Binds K fd ps []
section
variable {X : Cx} {k : Nat} {ps : List Str} {sp : SpG} {x : Str} {E : XK}
theorem pgen_d {e : Expr} {es : List Expr} {t : TA} {p pos : Pos} (M : GfAt X.prog X.w X.K X.mg X.base k x ps sp) (hr : Room k X.A) (hg : Gl X x) (ha : PA X (e :: es) t) (hdb : (x == ("__debug__" : Str)) = false := by decide)
    (he : starEach (e :: es) X.env = (false, eval e X.env) :: starEach es X.env := by rfl) (hpl : (backTo pos (starEach es X.env)).any (·.1) = false := by rfl) : PGen X k (.Call (.Name x p) (e :: es) [] pos) (tCallG sp [] E t) E := by
  obtain ⟨f, fd, hm, hk, F, hb⟩ := M.ex
  exact pgen_call F hr hg hm hk hb .nil ha hdb he hpl
/-- E, of the classes CB and CR alone -/
def OwnE (CB CR : Addr) (E : XK) : XK := fun cls d H => (cls = .ref CB ∨ cls = .ref CR) ∧ E cls d H
theorem noStop_own {K : PySem.W.Frag} {CB CR : Addr} (hB : PySem.W.subIn K (.ref CB) (.type "StopIteration") = some false) (hR : PySem.W.subIn K (.ref CR) (.type "StopIteration") = some false) : NoStop K (OwnE CB CR E) := fun cls d H h => by
  rcases h.1 with rfl | rfl
  · exact hB
  · exact hR
/-- list(x(..)), where what goes out is of own classes -/
theorem pe_listD {CB CR : Addr} {e : Expr} {es : List Expr} {t : TA} {p p2 pos pos2 : Pos} (M : GfAt X.prog X.w X.K X.mg X.base k x ps sp) (hx : Passes (CX X.prog X.w) X (OwnE CB CR E)) (hB : PySem.W.subIn X.K (.ref CB) (.type "StopIteration") = some false) (hR : PySem.W.subIn X.K (.ref CR) (.type "StopIteration") = some false)
    (hr : Room (k + 3) X.A) (hg : Gl X x) (hgl : Gl X "list") (hml : X.mg "list" = none) (ha : PA X (e :: es) t) (hdb : (x == ("__debug__" : Str)) = false := by decide)
    (he : starEach (e :: es) X.env = (false, eval e X.env) :: starEach es X.env := by rfl) (hpl : (backTo pos (starEach es X.env)).any (·.1) = false := by rfl)
    (he2 : starEach [Expr.Call (.Name x p) (e :: es) [] pos] X.env = (false, eval (.Call (.Name x p) (e :: es) [] pos) X.env) :: starEach [] X.env := by rfl) : PE X (.Call (.Name "list" p2) [.Call (.Name x p) (e :: es) [] pos] [] pos2) (tListG (tCallG sp [] (OwnE CB CR E) t)) :=
  pe_listG (pgen_d M (hr.mono (by omega)) hg ha hdb he hpl) hx (noStop_own hB hR) hr hgl hml boot_list (by decide) (by decide) he2
end
end My
/-! For the end: generator defs. -/
namespace My
open PySem PySem.Spec PyProof.Rows L2 GenW
section
variable {P : Program} {w : World} {K : PySem.W.Frag} {mg : Str → Option Value} {base : Heap} {k : Nat} {x : Str} {st : Stmt} {ps ks : List Str}
theorem gn_at {sp : SpGn} (A : Has K mg x st) (ok : ∀ (f : Addr) (oc : Value) (od : Option Addr) (kV doc pm : Value) (an : Option Addr) (cdv ct : Value) (osl : Array (Option Value)), K.lookup f = some ⟨oc, od, .func (PySem.W.fnOf x x (defArgs st) (defBody st) (defScope st) .none kV doc pm an cdv ct), osl⟩ → PySem.W.codeIn K cdv x = true →
    GDef P w K mg base k f (PySem.W.fnOf x x (defArgs st) (defBody st) (defScope st) .none kV doc pm an cdv ct) ps sp) (b : BindW x x st ps) : GnAt P w K mg base k x ps sp := by
  obtain ⟨f, fd, h1, F⟩ := A.ex
  have F' := F
  have kp := F.kp
  obtain ⟨oc, od, kV, doc, pm, an, cdv, ct, osl, rfl, lk, hcd⟩ := F.ex
  exact ⟨f, _, h1, kp, ok f _ _ _ _ _ _ _ _ _ lk hcd, F'.binds b⟩
theorem gnk_at {sp : SpGn} {gV : List V → List V → List V} {g : List Value → List Value → List Value} (A : Has K mg x st) (ok : ∀ (f : Addr) (oc : Value) (od : Option Addr) (kV doc pm : Value) (an : Option Addr) (cdv ct : Value) (osl : Array (Option Value)), K.lookup f = some ⟨oc, od, .func (PySem.W.fnOf x x (defArgs st) (defBody st) (defScope st) .none kV doc pm an cdv ct), osl⟩ → PySem.W.codeIn K cdv x = true →
    GDef P w K mg base k f (PySem.W.fnOf x x (defArgs st) (defBody st) (defScope st) .none kV doc pm an cdv ct) ps sp)
    (b : ∀ (kV doc pm : Value) (an : Option Addr) (cdv ct : Value) (us ws : List Value), us.length = 0 → ws.length = ks.length → bindArgs (PySem.W.fnOf x x (defArgs st) (defBody st) (defScope st) .none kV doc pm an cdv ct) ⟨us, ks.zip ws⟩ = pure (ps.zip (g us ws)))
    (r : ∀ {vs : List V} {us : List Value} {zs : List V} {ws : List Value}, Vals vs us → Vals zs ws → Vals (gV vs zs) (g us ws)) : GnKw P w K mg base k x ps ks sp gV := by
  obtain ⟨f, fd, h1, F⟩ := A.ex
  have kp := F.kp
  obtain ⟨oc, od, kV, doc, pm, an, cdv, ct, osl, rfl, lk, hcd⟩ := F.ex
  exact ⟨f, _, g, h1, kp, ok f _ _ _ _ _ _ _ _ _ lk hcd, ⟨fun s us ws _ l1 l2 => .of_eq (b kV doc pm an cdv ct us ws l1 l2), r⟩⟩
theorem gf_at {sp : SpG} (A : Has K mg x st) (ok : ∀ (f : Addr) (oc : Value) (od : Option Addr) (kV doc pm : Value) (an : Option Addr) (cdv ct : Value) (osl : Array (Option Value)), K.lookup f = some ⟨oc, od, .func (PySem.W.fnOf x x (defArgs st) (defBody st) (defScope st) .none kV doc pm an cdv ct), osl⟩ → PySem.W.codeIn K cdv x = true →
    GFn P w K mg base k f (PySem.W.fnOf x x (defArgs st) (defBody st) (defScope st) .none kV doc pm an cdv ct) ps sp) (b : BindW x x st ps) : GfAt P w K mg base k x ps sp := by
  obtain ⟨f, fd, h1, F⟩ := A.ex
  have F' := F
  have kp := F.kp
  obtain ⟨oc, od, kV, doc, pm, an, cdv, ct, osl, rfl, lk, hcd⟩ := F.ex
  exact ⟨f, _, h1, kp, ok f _ _ _ _ _ _ _ _ _ lk hcd, F'.binds b⟩
/-- turned round: keywords in the order of the last to the first -/
theorem rev_rel {vs : List V} {us : List Value} {zs : List V} {ws : List Value} (h1 : Vals vs us) (h2 : Vals zs ws) : Vals (vs ++ zs.reverse) (us ++ ws.reverse) := h1.append h2.reverse
end
end My
/-! Values of other kinds, ints shown, what stays where the pen and the tables change. -/
namespace My
open PySem PySem.Spec PyProof.Rows L2
/-! ### values of other kinds -/
/-- the built-in kind of a value -/
inductive Ty0 (H : Hp) : V → String → Prop where
  | non : Ty0 H .non "NoneType"
  | bl (b : Bool) : Ty0 H (.bl b) "bool"
  | int (i : Int) : Ty0 H (.int i) "int"
  | str (x : Str) : Ty0 H (.str x) "str"
  | lst {a : Addr} {xs : List V} (e : H a = some (.lst xs)) : Ty0 H (.ref a) "list"
  | tup {a : Addr} {xs : List V} (e : H a = some (.tup xs)) : Ty0 H (.ref a) "tuple"
  | dK {a : Addr} {kvs : List (Key × V)} (e : H a = some (.dK kvs)) : Ty0 H (.ref a) "dict"
theorem Ty0.tyx {K : PySem.W.Frag} {H : Hp} {v : V} {t : String} (h : Ty0 H v t) : TyX K H v (.type t) := by
  cases h with
  | non => exact .base .non
  | bl b => exact .base (.bl b)
  | int i => exact .base (.int i)
  | str x => exact .base (.str x)
  | lst e => exact .base (.lst e)
  | tup e => exact .base (.tup e)
  | dK e => exact .base (.dK e)
def isI : V → Bool
  | .int _ => true
  | _ => false
theorem isI_int {v : V} (h : isI v = true) : ∃ i, v = .int i := by
  cases v with
  | int i => exact ⟨i, rfl⟩
  | _ => cases h
def isT (t : String) : Bool := t == "int"
theorem Ty0.isI {H : Hp} {v : V} {t : String} (h : Ty0 H v t) : My.isI v = isT t := by cases h <;> rfl
theorem Ty0.kint {K : PySem.W.Frag} {H : Hp} {v : V} {t : String} (h : Ty0 H v t) : ∃ b, PySem.W.kitOne K (.type t) (.type "int") = some b ∧ (b = true → ∃ c, PySem.W.kitOne K (.type t) (.type "bool") = some c ∧ My.isI v = !c) ∧ (b = false → My.isI v = false) := by
  cases h with
  | non => exact ⟨false, kit_ty (by decide +kernel), (fun z => Bool.noConfusion z), fun _ => rfl⟩
  | bl b => exact ⟨true, kit_ty (by decide +kernel), fun _ => ⟨true, kit_ty (by decide +kernel), rfl⟩, (fun z => Bool.noConfusion z)⟩
  | int i => exact ⟨true, kit_ty (by decide +kernel), fun _ => ⟨false, kit_ty (by decide +kernel), rfl⟩, (fun z => Bool.noConfusion z)⟩
  | str x => exact ⟨false, kit_ty (by decide +kernel), (fun z => Bool.noConfusion z), fun _ => rfl⟩
  | lst e => exact ⟨false, kit_ty (by decide +kernel), (fun z => Bool.noConfusion z), fun _ => rfl⟩
  | tup e => exact ⟨false, kit_ty (by decide +kernel), (fun z => Bool.noConfusion z), fun _ => rfl⟩
  | dK e => exact ⟨false, kit_ty (by decide +kernel), (fun z => Bool.noConfusion z), fun _ => rfl⟩
theorem Ty0.keep {H H' : Hp} {v : V} {t : String} (h : Ty0 H v t) (k : ∀ b o, H b = some o → (∀ p, v = .ref p → p = b → H' b = some o)) : Ty0 H' v t := by
  cases h with
  | non => exact .non
  | bl b => exact .bl b
  | int i => exact .int i
  | str x => exact .str x
  | lst e => exact .lst (k _ _ e _ rfl rfl)
  | tup e => exact .tup (k _ _ e _ rfl rfl)
  | dK e => exact .dK (k _ _ e _ rfl rfl)
theorem Ty0.same {H H' : Hp} {v : V} {t : String} (h : Ty0 H v t) (k : Same H H') : Ty0 H' v t := h.keep fun b o e _ _ _ => k b o e
theorem same_new {H : Hp} {p : Addr} {o : HO} (h : H p = none) : Same H (upd H p o) := fun b u e => by rw [upd_ne (ne_of_none e h)]; exact e
/-- a value of a built-in kind, or an instance of the class at C -/
def TyL (C : Addr) (H : Hp) (v : V) : Prop := (∃ t, Ty0 H v t) ∨ ∃ a dx fs, v = .ref a ∧ H a = some (.ins C dx fs)
theorem TyL.same {C : Addr} {H H' : Hp} {v : V} (h : TyL C H v) (k : Same H H') : TyL C H' v := by
  rcases h with ⟨t, h⟩ | ⟨a, dx, fs, e, h⟩
  · exact .inl ⟨t, h.same k⟩
  · exact .inr ⟨a, dx, fs, e, k _ _ h⟩
theorem TyL.int (C : Addr) (H : Hp) (i : Int) : TyL C H (.int i) := .inl ⟨_, .int i⟩
theorem pen_ne {H : Hp} {pn l : Addr} {n : Nat} (hp : PenAt H pn n) (hl : H l = none) : l ≠ pn := by
  obtain ⟨cl, ns, a, r, g1, _⟩ := hp
  exact (ne_of_none g1 hl).symm
theorem but_same {pn : Addr} {H H' : Hp} (s : Same H H') : But pn H H' := fun b o e _ => s b o e
theorem pen_same {pn : Addr} {H H' : Hp} {n : Nat} (hp : PenAt H pn n) (k : Same H H') : PenAt H' pn n := by
  obtain ⟨cl, ns, a, r, g1, g2, g3⟩ := hp
  exact ⟨cl, ns, a, r, k _ _ g1, k _ _ g2, g3⟩
theorem mem_ints {v : V} {zs : List Int} (h : v ∈ zs.map V.int) : ∃ z, v = .int z ∧ z ∈ zs := by
  obtain ⟨z, hz, e⟩ := List.mem_map.mp h
  exact ⟨z, e.symm, hz⟩
theorem num_len {i : Int} (h : i.natAbs.log2 < 1920) : ((toString i : String) : Str).length ≤ 1921 := by
  have e := int_text_length_le (k := 1920) (by decide) h
  show (Str.ofString (toString i)).length ≤ 1921
  rw [PySem.ofString_length]
  exact e
theorem app_len (x y : Str) : (x ++ y).length = x.length + y.length := PySem.Str.length_append x y
/-- an int of less than 300 bits -/
def Sm (z : Int) : Prop := z.natAbs < 2 ^ 300
theorem Sm.mul {a b : Int} {i j : Nat} (ha : a.natAbs < 2 ^ i) (hb : b.natAbs < 2 ^ j) (h0 : 0 < i := by decide) (h1 : 0 < j := by decide) (h : i + j ≤ 1000000 := by decide) : CMulW a b := wide_mul ha hb h0 h1 h
theorem Sm.log {z : Int} (h : Sm z) : z.natAbs.log2 < 1920 := Nat.lt_of_lt_of_le (PySem.Flt.log2_lt_of (k := 300) (by decide) h) (by decide)
theorem shown_sum : ∀ (ns : List Int), (∀ z ∈ ns, z.natAbs.log2 < 1920) → ((PyData.shownAll (ns.map PyData.int)).map (·.length)).sum ≤ 1921 * ns.length ∧ (PyData.shownAll (ns.map PyData.int)).length = ns.length
  | [], _ => ⟨Nat.le_refl _, rfl⟩
  | n :: ns, h => by
    obtain ⟨h1, h2⟩ := shown_sum ns fun z hz => h z (List.mem_cons_of_mem _ hz)
    have e2 := num_len (h n List.mem_cons_self)
    refine ⟨?_, ?_⟩
    · show ((toString n : String) : Str).length + ((PyData.shownAll (ns.map PyData.int)).map (·.length)).sum ≤ 1921 * (ns.length + 1)
      omega
    · show (PyData.shownAll (ns.map PyData.int)).length + 1 = ns.length + 1
      omega
theorem showable_ints : ∀ (ns : List Int), (∀ z ∈ ns, z.natAbs.log2 < 1920) → PyData.showableAll (ns.map PyData.int) = true
  | [], _ => rfl
  | n :: ns, h => by
    show (decide (n.natAbs.log2 < 1920) && PyData.showableAll (ns.map PyData.int)) = true
    rw [showable_ints ns fun z hz => h z (List.mem_cons_of_mem _ hz), decide_eq_true (h n List.mem_cons_self)]
    rfl
/-- a list of ints shown -/
theorem ints_show {K : PySem.W.Frag} {H : Hp} {l : Addr} (ns : List Int) (hz : ∀ z ∈ ns, z.natAbs.log2 < 1920) (hl : ns.length ≤ 1000) (h : H l = some (.lst (ns.map V.int))) : Dr K H (.ref l) (.list (ns.map PyData.int)) ∧ (PyData.list (ns.map PyData.int)).showable = true ∧ (PyData.list (ns.map PyData.int)).depth ≤ 60 ∧ (PyData.list (ns.map PyData.int)).shown.length ≤ sizeLine := by
  refine ⟨.inl (.lst (SqL.of h) (dp_ints ns)), showable_ints ns hz, ?_, ?_⟩
  · show PyData.depthAll (ns.map PyData.int) + 1 ≤ 60
    rw [dep_ints]
    decide
  · have h1 := listText_len_le (PyData.shownAll (ns.map PyData.int))
    obtain ⟨h2, h3⟩ := shown_sum ns hz
    show (listText (PyData.shownAll (ns.map PyData.int))).length ≤ sizeLine
    rw [sizeLine_eq]
    omega
theorem yes_go {σ : L2.St} {H : Hp} {A B : Hp → Prop} (h : A H) : tYes σ H (fun b H3 => if b = true then A H3 else B H3) := by
  show (if true = true then A H else B H)
  rw [if_pos rfl]
  exact h
theorem take1 {α : Type} {ls : List α} {i : Nat} {y : α} (h : ls[i]? = some y) : ls.take (i + 1) = ls.take i ++ [y] := by rw [List.take_add_one, h]; rfl
theorem at_int {ls : List Int} {i : Nat} {v : V} (h : (ls.map V.int)[i]? = some v) : ∃ y, ls[i]? = some y ∧ v = .int y := by
  rw [List.getElem?_map] at h
  cases e : ls[i]? with
  | none => rw [e] at h; cases h
  | some y => rw [e] at h; cases h; exact ⟨y, rfl, rfl⟩
/-! ### tables of code objects, the pen, and all else -/
/-- all but the pen and the tables stays, the tables are tables -/
structure Kp (pn : Addr) (TS : List (Addr × Str)) (H H' : Hp) : Prop where
  keep : ∀ b o, H b = some o → b ≠ pn → (∀ ps, o ≠ .tbl ps) → H' b = some o
  tabs : LamX.Tabs TS H'
theorem Kp.trans {pn : Addr} {TS : List (Addr × Str)} {H H1 H2 : Hp} (a : Kp pn TS H H1) (b : Kp pn TS H1 H2) : Kp pn TS H H2 := ⟨fun c o h n m => b.keep c o (a.keep c o h n m) n m, b.tabs⟩
theorem tabs_but {pn : Addr} {TS : List (Addr × Str)} {H H' : Hp} {n : Nat} (t : LamX.Tabs TS H) (hp : PenAt H pn n) (k : But pn H H') : LamX.Tabs TS H' := fun p hp' => by
  obtain ⟨ps, h1, h2, h3⟩ := t p hp'
  obtain ⟨cl, ns, a, r, g1, _⟩ := hp
  refine ⟨ps, k _ _ h1 (ne_of h1 g1 (by intro z; cases z)), h2, fun pos cv hc => ?_⟩
  obtain ⟨c, e1, e2⟩ := h3 pos cv hc
  exact ⟨c, e1, k _ _ e2 (ne_of e2 g1 (by intro z; unfold LamX.CodeO at z; cases z))⟩
theorem Kp.but {pn : Addr} {TS : List (Addr × Str)} {H H' : Hp} {n : Nat} (t : LamX.Tabs TS H) (hp : PenAt H pn n) (k : But pn H H') : Kp pn TS H H' := ⟨fun b o h nb _ => k b o h nb, tabs_but t hp k⟩
theorem Kp.same {pn : Addr} {TS : List (Addr × Str)} {H H' : Hp} (t : LamX.Tabs TS H) (k : Same H H') : Kp pn TS H H' := ⟨fun b o h _ _ => k b o h, t.ext k⟩
theorem Kp.ext {pn : Addr} {TS : List (Addr × Str)} {H H' : Hp} (t : LamX.Tabs TS H') (k : LamX.ExtN H H') : Kp pn TS H H' := ⟨fun b o h _ m => k b o h m, t⟩
theorem pen_ext {pn : Addr} {H H' : Hp} {n : Nat} (hp : PenAt H pn n) (k : LamX.ExtN H H') : PenAt H' pn n := by
  obtain ⟨cl, ns, a, r, g1, g2, g3⟩ := hp
  exact ⟨cl, ns, a, r, k _ _ g1 (by intro ps z; cases z), k _ _ g2 (by intro ps z; cases z), g3⟩
/-- a def whose code object stands at c -/
structure FunC (K : PySem.W.Frag) (x qual : Str) (st : Stmt) (f : Addr) (fd : FuncData) (c : Addr) : Prop where
  ex : ∃ (oc : Value) (od : Option Addr) (kV doc pm : Value) (an : Option Addr) (ct : Value) (osl : Array (Option Value)),
    fd = PySem.W.fnOf x qual (defArgs st) (defBody st) (defScope st) .none kV doc pm an (.ref c) ct ∧ K.lookup f = some ⟨oc, od, .func fd, osl⟩ ∧ PySem.W.codeIn K (.ref c) qual = true
  kp : PySem.W.keepIn K (.ref f) = true
theorem okGc {P : Program} {w : World} {K : PySem.W.Frag} {mg : Str → Option Value} {base : Heap} {x qual : Str} {st : Stmt} {f c : Addr} {fd : FuncData} {N ps : List Str} {k : Nat} {sp : Sp} (F : FunC K x qual st f fd c) (S : FnScope N ps (defScope st)) (len : ∀ vs H Q E, sp vs H Q E → vs.length = ps.length)
    (hbody : ∀ (A : Around) (outer : List Env) (s : Shared) (H : Hp) (vs : List V) (Q : VK) (E : XK), A.guards = some [] → Room k (A.deeper (envOfC qual (defScope st) s.heap.objs.size f (.ref c))) → sp vs H Q E →
      ∃ t, PSs (cxOf CX0 P w K mg base N qual (defScope st) f (.ref c) A outer s H E).nox (defBody st) t ∧ t { nx := fun _ H' => Q .non H', rt := Q } (start N vs) H) : FnG P w K mg base CX0 (k + 1) f fd ps sp := by
  obtain ⟨oc, od, kV, doc, pm, an, ct, osl, rfl, lk, hcd⟩ := F.ex
  refine ⟨len, fun A outer s H args us vs Q E hg hr e0 hb r hsp => LamX.run_ofS lk hcd S hr e0 hb r (len _ _ _ _ hsp) fun hr' => ?_⟩
  obtain ⟨t, h, q⟩ := hbody A outer s H vs Q E hg hr' hsp
  exact ⟨t, h.nox, q⟩
theorem ty_ext {H H' : Hp} {v : V} {t : String} (h : Ty0 H v t) (k : LamX.ExtN H H') : Ty0 H' v t := by
  cases h with
  | non => exact .non
  | bl b => exact .bl b
  | int i => exact .int i
  | str x => exact .str x
  | lst e => exact .lst (k _ _ e (by intro ps z; cases z))
  | tup e => exact .tup (k _ _ e (by intro ps z; cases z))
  | dK e => exact .dK (k _ _ e (by intro ps z; cases z))
theorem ext_same {H H' : Hp} (s : Same H H') : LamX.ExtN H H' := fun b o h _ => s b o h
theorem ext_put {Ha Hx : Hp} {lh : Addr} {o : HO} (n : Ha lh = none) (x : LamX.ExtN Ha Hx) : LamX.ExtN Ha (upd Hx lh o) := fun b u e m => by
  rw [upd_ne (ne_of_none e n)]
  exact x b u e m
theorem tabs_put {TS : List (Addr × Str)} {H : Hp} {lh : Addr} {xs : List V} {o : HO} (t : LamX.Tabs TS H) (h : H lh = some (.lst xs)) : LamX.Tabs TS (upd H lh o) := fun p hp => by
  obtain ⟨ps, h1, h2, h3⟩ := t p hp
  refine ⟨ps, by rw [upd_ne (ne_of h1 h (by intro z; cases z))]; exact h1, h2, fun pos cv hc => ?_⟩
  obtain ⟨c, e1, e2⟩ := h3 pos cv hc
  exact ⟨c, e1, by rw [upd_ne (ne_of e2 h (by intro z; unfold LamX.CodeO at z; cases z))]; exact e2⟩
theorem TyL.ext {C : Addr} {H H' : Hp} {v : V} (h : TyL C H v) (k : LamX.ExtN H H') : TyL C H' v := by
  rcases h with ⟨t, h⟩ | ⟨a, dx, fs, e, h⟩
  · exact .inl ⟨t, ty_ext h k⟩
  · exact .inr ⟨a, dx, fs, e, k _ _ h (by intro ps z; cases z)⟩
end My
namespace My
open PySem PySem.Spec PyProof.Rows L2
def topS (i : Nat) : Stmt := PySem.Challenge.pw_clipfades_k19_whole_classes_of_lengths.main.body.getD i (.Pass ⟨0, 0, 0, 0⟩)
abbrev s_pen : Stmt := topS 27
abbrev s_draw : Stmt := topS 28
abbrev s_pick : Stmt := topS 29
theorem sc_pen : FnScope ["_law_script"] ["_law_script"] (defScope s_pen) := ⟨rfl, rfl, rfl, by decide +kernel, rfl, by decide +kernel, by decide +kernel⟩
theorem sc_draw : FnScope ["_law_pen_here", "_law_many", "_law_digit", "_law_at", "_law_cell", "_law_great", "_law_mixed"] ["_law_pen_here", "_law_many"] (defScope s_draw) := ⟨rfl, rfl, rfl, by decide +kernel, rfl, by decide +kernel, by decide +kernel⟩
theorem sc_pick : FnScope ["_law_pen_here", "_law_some"] ["_law_pen_here", "_law_some"] (defScope s_pick) := ⟨rfl, rfl, rfl, by decide +kernel, rfl, by decide +kernel, by decide +kernel⟩
section
variable {P : Program} {w : World} {K : PySem.W.Frag} {mg : Str → Option Value} {base : Heap}
theorem ok_pen {f : Addr} {fd : FuncData} (F : Fun K "_law_pen" "_law_pen" s_pen f fd) (T : BI mg) : FnOk P w K mg base CX0 1 f fd ["_law_script"] (spPen K) := by
  refine F.ok sc_pen (fun vs H Q E h => ?_) (fun cdv A outer s H vs Q E hr h => ?_)
  · obtain ⟨a, ns, rfl, _⟩ := h
    rfl
  · obtain ⟨a, ns, rfl, hS, k⟩ := h
    refine ⟨_, (pss_one (ps_ret (pe_lst (pa_cons (pe_callTy call_list_of (by rfl) T.z_list boot_list (pa_cons (pe_slice sl_list (pv 0) po_none (po_some pe_int)) pa_nil)) (pa_cons pe_int (pa_cons pe_int pa_nil)))))), ?_⟩
    refine ⟨_, rfl, 63, rfl, a, _, rfl, hS, fun p hp => ?_⟩
    refine ⟨p, _, rfl, .inl (SqL.of upd_same), fun l hl => ?_⟩
    refine ⟨(by show 3 ≤ sizeLine; decide), fun pn hpn => ?_⟩
    have npl : p ≠ l := ne_of_none upd_same hl
    have hlp : l ≠ pn := ne_of_none upd_same hpn
    have e1 : cutV (ns.map V.int) none (some 63) = (ns.take 63).map V.int := cut_ints ns 63
    have s0 : Same H (upd (upd (upd H p (.lst (cutV (ns.map V.int) none (some 63)))) l (.lst (cutV (ns.map V.int) none (some 63)))) pn (.lst [.ref l, .int 0, .int 0])) := fun b o z => by
      have z1 : (upd H p (.lst (cutV (ns.map V.int) none (some 63)))) b = some o := by rw [upd_ne (ne_of_none z hp)]; exact z
      have z2 : (upd (upd H p (.lst (cutV (ns.map V.int) none (some 63)))) l (.lst (cutV (ns.map V.int) none (some 63)))) b = some o := by rw [upd_ne (ne_of_none z1 hl)]; exact z1
      rw [upd_ne (ne_of_none z2 hpn)]
      exact z2
    have n1 : H pn = none := by
      cases z : H pn with
      | none => rfl
      | some o =>
        rw [upd_ne (Ne.symm hlp)] at hpn
        by_cases y : pn = p
        · rw [y, hp] at z
          cases z
        · rw [upd_ne y, z] at hpn
          cases hpn
    refine k pn _ n1 ⟨l, ns.take 63, 0, 0, upd_same, ?_, ?_, Int.le_refl _, Int.le_refl _⟩ s0
    · rw [upd_ne hlp, upd_same, e1]
    · rw [List.length_take]
      omega
theorem ok_draw {f : Addr} {fd : FuncData} (F : Fun K "_law_draw" "_law_draw" s_draw f fd) (T : BI mg) : FnOk P w K mg base CX0 1 f fd ["_law_pen_here", "_law_many"] spDraw := by
  refine F.ok sc_draw (fun vs H Q E h => ?_) (fun cdv A outer s H vs Q E hr h => ?_)
  · obtain ⟨pn, m, n, rfl, _⟩ := h
    rfl
  · obtain ⟨pn, m, n, rfl, hm, hml, ⟨cl, ns, at_, rest, h1, h2, h3, h4, h5⟩, hn, k⟩ := h
    refine ⟨_, (pss_cons (ps_if (pt_cmpR op_gt (pe_ix ix_list (pv 0) pe_int (fun _ _ => rfl)) pe_int (nomark _)) (pss_cons (ps_set (i := 2) sc_draw.nd rfl (Or.inl rfl) (pe_op op_mod (pe_callTy call_int1 (by rfl) T.z_int boot_int (pa_cons (pe_ix ix_list (pv 0) pe_int (fun _ _ => rfl)) pa_nil)) (pv 1)))
      (pss_cons (ps_asg (pe_op op_fdivW (pe_callTy call_int1 (by rfl) T.z_int boot_int (pa_cons (pe_ix ix_list (pv 0) pe_int (fun _ _ => rfl)) pa_nil)) (pv 1)) (pg_sub (pv 0) pe_int set_list))
      (pss_one (ps_ret (pv 2))))) pss_nil)
      (pss_cons (ps_set (i := 3) sc_draw.nd rfl (Or.inl rfl) (pe_ix ix_list (pv 0) pe_int (fun _ _ => rfl)))
      (pss_cons (ps_asg (pe_op op_add (pv 3) pe_int) (pg_sub (pv 0) pe_int set_list))
      (pss_cons (ps_set (i := 4) sc_draw.nd rfl (Or.inl rfl) (pe_op op_add (pe_op op_mul pe_int (pv 3)) pe_int))
      (C8.pss_cut (ps_if (pt_cmpR (op_neD hr.units) (pe_ix ix_list (pv 0) pe_int (fun _ _ => rfl)) (pe_lst pa_nil) (nomark _)) (pss_one (ps_set (i := 4) sc_draw.nd rfl (Or.inl rfl) (pe_ix ix_list (pe_ix ix_list (pv 0) pe_int (fun _ _ => rfl)) (pe_op op_mod (pe_callTy call_int1 (by rfl) T.z_int boot_int (pa_cons (pv 3) pa_nil)) (pe_callB call_len (by rfl) T.z_len PySem.boot_len (pa_cons (pe_ix ix_list (pv 0) pe_int (fun _ _ => rfl)) pa_nil))) (fun _ _ => rfl)))) pss_nil)
      (C8.pss_cut (ps_if (PW.pt (pw_and (pt_cmpR op_lt (pv 3) (pe_callB call_len (by rfl) T.z_len PySem.boot_len (pa_cons (pe_ix ix_list (pv 0) pe_int (fun _ _ => rfl)) pa_nil)) (nomark _)) (pw_and1 (pt_cmpR op_ge (pe_callB call_abs (by rfl) T.z_abs boot_abs (pa_cons (pv 4) pa_nil)) (pe_op op_pow pe_int pe_int) (nomark _))))) (pss_cons (ps_set (i := 5) sc_draw.nd rfl (Or.inl rfl) (pe_op op_add (pe_op op_mul pe_int (pe_op op_sub (pe_callB call_abs (by rfl) T.z_abs boot_abs (pa_cons (pv 4) pa_nil)) (pe_op op_pow pe_int pe_int))) (pe_callTy call_int1 (by rfl) T.z_int boot_int (pa_cons (pe_cmpR op_lt (pv 4) pe_int (nomark _)) pa_nil))))
      (pss_cons (ps_asg (pe_op op_fdivW (pe_callTy call_int1 (by rfl) T.z_int boot_int (pa_cons (pv 5) pa_nil)) (pv 1)) (pg_sub (pv 0) pe_int set_list))
      (pss_one (ps_ret (pe_op op_mod (pe_callTy call_int1 (by rfl) T.z_int boot_int (pa_cons (pv 5) pa_nil)) (pv 1)))))) pss_nil)
      (pss_cons (ps_set (i := 6) sc_draw.nd rfl (Or.inl rfl) (pe_op op_mod (pe_callTy call_int1 (by rfl) T.z_int boot_int (pa_cons (pe_op op_pow (pe_op op_add (pe_op op_add (pe_op op_mod (pe_callTy call_int1 (by rfl) T.z_int boot_int (pa_cons (pv 4) pa_nil)) pe_int) (pe_op op_mul pe_int (pv 3))) pe_int) pe_int) pa_nil)) pe_int))
      (pss_cons (ps_set (i := 6) sc_draw.nd rfl (Or.inl rfl) (pe_op op_mod (pe_callTy call_int1 (by rfl) T.z_int boot_int (pa_cons (pe_op op_pow (pe_op op_add (pe_op op_add (pe_op op_mul (pv 6) (pe_op op_add (pe_op op_mul pe_int (pv 3)) pe_int)) (pe_op op_mul (pe_op op_mul pe_int (pv 3)) (pv 3))) pe_int) pe_int) pa_nil)) pe_int))
      (pss_one (ps_ret (pe_op op_mod (pe_callTy call_int1 (by rfl) T.z_int boot_int (pa_cons (pe_op op_fdivW (pv 6) pe_int) pa_nil)) (pv 1)))))))))))), ?_⟩
    have i2 : atI [V.ref cl, V.int at_, V.int rest] 2 = some (V.int rest) := rfl
    have i1 : atI [V.ref cl, V.int at_, V.int rest] 1 = some (V.int at_) := rfl
    have i0 : atI [V.ref cl, V.int at_, V.int rest] 0 = some (V.ref cl) := rfl
    refine ⟨_, rfl, pn, _, _, _, rfl, rfl, SqL.of h1, i2, _, _, rfl, rfl, _, rfl, ?_⟩
    have npc : cl ≠ pn := ne_of h2 h1 (by
      intro z
      injection z with z
      cases ns with
      | nil => cases z
      | cons a l => cases z)
    refine ite2 (fun c => ?_) (fun c => ?_)
    · refine ⟨_, rfl, pn, _, _, _, rfl, rfl, SqL.of h1, i2, .inl ⟨rest, rfl, _, rfl, _, _, rfl, rfl, hm, ?_⟩⟩
      refine ⟨_, rfl, pn, _, _, _, rfl, rfl, SqL.of h1, i2, .inl ⟨rest, rfl, _, rfl, _, _, rfl, rfl, ⟨hm, hml⟩, _, rfl, pn, _, _, 2, rfl, rfl, h1, rfl, ?_⟩⟩
      refine ⟨_, rfl, k _ _ (Int.emod_nonneg _ (by omega)) (Int.emod_lt_of_pos _ hm) ?_ But.put⟩
      exact ⟨cl, ns, at_, rest / m, upd_same, by rw [upd_ne npc]; exact h2, h3, h4, by omega⟩
    · refine ⟨_, rfl, pn, _, _, _, rfl, rfl, SqL.of h1, i1, ?_⟩
      refine ⟨_, rfl, _, _, rfl, rfl, _, rfl, pn, _, _, 1, rfl, rfl, h1, rfl, ?_⟩
      refine ⟨_, rfl, _, _, rfl, rfl, .inl ⟨by decide, by decide⟩, _, _, rfl, rfl, ?_⟩
      have i0' : atI [V.ref cl, V.int (at_ + 1), V.int rest] 0 = some (V.ref cl) := rfl
      refine ⟨fun σ H2 => ∃ (cell : Int) (v5 v6 : Option V), σ = [some (.ref pn), some (.int m), none, some (.int at_), some (.int cell), v5, v6] ∧ H2 pn = some (.lst [.ref cl, .int (at_ + 1), .int rest]) ∧ H2 cl = some (.lst (ns.map V.int)) ∧ But pn H H2, ?_, ?_⟩
      · refine ⟨_, rfl, pn, _, _, _, rfl, rfl, SqL.of upd_same, i0', (by show 0 ≤ sizeLine; decide), fun l hl => ?_⟩
        have nlp : pn ≠ l := ne_of_none (upd_same (H := H) (a := pn)) hl
        have nlc : cl ≠ l := ne_of_none (by rw [upd_ne npc]; exact h2) hl
        have w1 : (upd (upd H pn (.lst [.ref cl, .int (at_ + 1), .int rest])) l (.lst [])) pn = some (.lst [.ref cl, .int (at_ + 1), .int rest]) := by rw [upd_ne nlp, upd_same]
        have w2 : (upd (upd H pn (.lst [.ref cl, .int (at_ + 1), .int rest])) l (.lst [])) cl = some (.lst (ns.map V.int)) := by rw [upd_ne nlc, upd_ne npc]; exact h2
        have wb : But pn H (upd (upd H pn (.lst [.ref cl, .int (at_ + 1), .int rest])) l (.lst [])) := But.put.trans (But.new hl)
        refine ⟨.list (ns.map PyData.int), .list [], .lst (SqL.of w2) (dp_ints ns), .lst (SqL.of upd_same) .nil, shaped_ints ns, rfl, _, rfl, ?_⟩
        cases ns with
        | nil =>
          refine iteF ?_
          exact ⟨_, _, _, rfl, w1, w2, wb⟩
        | cons z zs =>
          refine iteT ?_
          have hl0 : (0 : Int) < (((z :: zs).map V.int).length : Int) := by
            rw [List.length_map, List.length_cons]
            omega
          obtain ⟨v, hv⟩ : ∃ v, ((z :: zs))[(at_ % (((z :: zs).map V.int).length : Int)).toNat]? = some v := by
            have g := Int.emod_lt_of_pos at_ hl0
            have g0 := Int.emod_nonneg at_ (show (((z :: zs).map V.int).length : Int) ≠ 0 by omega)
            refine ⟨_, List.getElem?_eq_getElem ?_⟩
            rw [List.length_map] at g g0 ⊢
            omega
          refine ⟨_, rfl, pn, _, _, _, rfl, rfl, SqL.of w1, i0', _, rfl, .inl ⟨at_, rfl, _, rfl, pn, _, _, _, rfl, rfl, SqL.of w1, i0', _, _, rfl, .inl ⟨_, SqL.of w2, rfl⟩, _, _, rfl, rfl, hl0, cl, _, _, .int v, rfl, rfl, SqL.of w2, ?_, ?_⟩⟩
          · have g0 := Int.emod_nonneg at_ (show (((z :: zs).map V.int).length : Int) ≠ 0 by omega)
            refine at_of (j := (at_ % (((z :: zs).map V.int).length : Int)).toNat) (by omega) ?_
            rw [List.getElem?_map, hv]
            rfl
          · exact ⟨_, _, _, rfl, w1, w2, wb⟩
      · rintro σ H2 ⟨cell, v5, v6, rfl, g1, g2, hb⟩
        have pen2 : ∀ r : Int, PenAt (upd H2 pn (.lst [.ref cl, .int (at_ + 1), .int r])) pn (n + 1) := fun r =>
          ⟨cl, ns, at_ + 1, r, upd_same, by rw [upd_ne npc]; exact g2, h3, by omega, by omega⟩
        refine ⟨fun σ H3 => ∃ (v5 v6 : Option V), σ = [some (.ref pn), some (.int m), none, some (.int at_), some (.int cell), v5, v6] ∧ H3 = H2, ?_, ?_⟩
        · refine ⟨_, rfl, _, rfl, pn, _, _, _, rfl, rfl, SqL.of g1, i0', _, _, rfl, .inl ⟨_, SqL.of g2, rfl⟩, _, _, rfl, rfl, _, rfl, ?_⟩
          refine ite2 (fun c1 => ?_) (fun c1 => iteF ⟨_, _, rfl, rfl⟩)
          refine ⟨_, rfl, _, rfl, _, _, rfl, rfl, ⟨by decide, by decide, by decide⟩, _, _, rfl, rfl, _, rfl, ?_⟩
          refine ite2 (fun c2 => ?_) (fun c2 => ⟨_, _, rfl, rfl⟩)
          refine ⟨_, rfl, _, rfl, _, _, rfl, rfl, ⟨by decide, by decide, by decide⟩, _, _, rfl, rfl, _, _, rfl, rfl, .inl ⟨by decide, by decide⟩, _, rfl, _, _, rfl, rfl, .inr ⟨_, rfl, _, _, rfl, rfl, ?_⟩⟩
          refine ⟨_, rfl, .inl ⟨_, rfl, _, rfl, _, _, rfl, rfl, ⟨hm, hml⟩, _, rfl, pn, _, _, 2, rfl, rfl, g1, rfl, ?_⟩⟩
          refine ⟨_, rfl, .inl ⟨_, rfl, _, rfl, _, _, rfl, rfl, hm, ?_⟩⟩
          exact k _ _ (Int.emod_nonneg _ (by omega)) (Int.emod_lt_of_pos _ hm) (pen2 _) (hb.trans But.put)
        · rintro σ H3 ⟨v5, v6, rfl, rfl⟩
          have ea : at_ < 100000 := by omega
          refine ⟨_, rfl, .inl ⟨_, rfl, _, _, rfl, rfl, (by show (0 : Int) < _; decide), _, rfl, _, _, rfl, rfl, .inl ⟨by decide, by decide⟩, _, _, rfl, rfl, _, _, rfl, rfl, _, _, rfl, rfl, ⟨by decide, by decide, ?_⟩, .inl ⟨_, rfl, _, _, rfl, rfl, (by show (0 : Int) < _; decide), ?_⟩⟩⟩
          · have e1 := Int.emod_nonneg cell (show (2147483563 : Int) ≠ 0 by decide)
            have e2 := Int.emod_lt_of_pos cell (show (0 : Int) < 2147483563 by decide)
            refine pow_lt (by omega) (by omega)
          have x0 := Int.emod_nonneg ((cell % 2147483563 + 61463 * at_ + 173) ^ Int.toNat 5) (show (2147483629 : Int) ≠ 0 by decide)
          have x1 := Int.emod_lt_of_pos ((cell % 2147483563 + 61463 * at_ + 173) ^ Int.toNat 5) (show (0 : Int) < 2147483629 by decide)
          refine ⟨_, rfl, _, rfl, _, _, rfl, rfl, .inl ⟨by decide, by decide⟩, _, _, rfl, rfl, _, _, rfl, rfl, .inl ⟨Int.lt_of_lt_of_le (by decide) x0, Int.lt_trans x1 (by decide)⟩, _, rfl, _, _, rfl, rfl, .inl ⟨by decide, by decide⟩, _, rfl, _, _, rfl, rfl, .inr ⟨by omega, by omega⟩, _, _, rfl, rfl, _, _, rfl, rfl, _, _, rfl, rfl, ⟨by decide, by decide, ?_⟩, .inl ⟨_, rfl, _, _, rfl, rfl, (by show (0 : Int) < _; decide), ?_⟩⟩
          · exact mix_lt x0 (Int.lt_trans x1 (by decide)) h4 ea (by decide) (by decide) (by decide) (by decide) (by decide) (by decide)
          refine ⟨_, rfl, _, _, rfl, rfl, ⟨by decide, by decide⟩, .inl ⟨_, rfl, _, rfl, _, _, rfl, rfl, hm, ?_⟩⟩
          exact k _ _ (Int.emod_nonneg _ (by omega)) (Int.emod_lt_of_pos _ hm) ⟨cl, ns, at_ + 1, rest, g1, g2, h3, by omega, by omega⟩ hb
theorem ok_pick {f : Addr} {fd : FuncData} (F : Fun K "_law_pick" "_law_pick" s_pick f fd) (T : BI mg) (D_draw : DefAt P w K mg base CX0 1 "_law_draw" ["_law_pen_here", "_law_many"] spDraw) : FnOk P w K mg base CX0 2 f fd ["_law_pen_here", "_law_some"] spPick := by
  refine F.ok sc_pick (fun vs H Q E h => ?_) (fun cdv A outer s H vs Q E hr h => ?_)
  · obtain ⟨pn, l, n, xs, rfl, _⟩ := h
    rfl
  · obtain ⟨pn, l, n, xs, rfl, hl, nl, h0, h1, hp, hn, k⟩ := h
    refine ⟨_, (pss_one (ps_ret (pe_ix ix_list (pv 1) (My.pe_d D_draw (hr.mono (by decide)) (by rfl) pass0 (pa_cons (pv 0) (pa_cons (pe_callB call_len (by rfl) T.z_len PySem.boot_len (pa_cons (pv 1) pa_nil)) pa_nil))) (fun _ _ => rfl)))), ?_⟩
    refine ⟨_, rfl, _, rfl, _, rfl, _, _, rfl, .inl ⟨_, SqL.of hl, rfl⟩, pn, _, n, rfl, by omega, ?_, hp, hn, fun d H' d0 d1 hp' hb => ?_⟩
    · refine Nat.lt_of_lt_of_le (PySem.Flt.log2_lt_of (k := 10) (by decide) ?_) (by decide)
      show xs.length < 1024
      omega
    · obtain ⟨v, hv⟩ : ∃ v, xs[d.toNat]? = some v := ⟨_, List.getElem?_eq_getElem (by omega)⟩
      refine ⟨l, _, _, v, rfl, rfl, SqL.of (hb l _ hl nl), at_of (j := d.toNat) (by omega) hv, ?_⟩
      exact k v H' (List.mem_of_getElem? hv) hp' hb
end
end My
namespace My
open PySem PySem.Spec PyProof.Rows L2
/-! ### values of other kinds -/
/-- is_integer(v) -/
def spIsint : Sp := fun vs H Q _ => ∃ (v : V) (t : String), vs = [v] ∧ Ty0 H v t ∧ Q (.bl (isI v)) H
abbrev s_isint : Stmt := topS 11
theorem sc_isint : FnScope ["thing"] ["thing"] (defScope s_isint) := ⟨rfl, rfl, rfl, by decide +kernel, rfl, by decide +kernel, by decide +kernel⟩
abbrev s_init : Stmt := inClass (topS 15) 0
theorem sc_init : FnScope ["self", "slope", "more", "part", "value"] ["self", "slope", "more"] (defScope s_init) := ⟨rfl, rfl, rfl, by decide +kernel, rfl, by decide +kernel, by decide +kernel⟩
/-! ### lines -/
def lfs (a b : Int) : List (Str × V) := putF "more" (.int b) (putF "slope" (.int a) [])
theorem sm : ¬ (("slope" : Str) = "more") := by decide +kernel
theorem lfs_slope (a b : Int) : (lfs a b).lookup ("slope" : Str) = some (.int a) := by
  unfold lfs
  rw [lookup_putF, if_neg sm, lookup_putF, if_pos rfl]
theorem lfs_more (a b : Int) : (lfs a b).lookup ("more" : Str) = some (.int b) := by
  unfold lfs
  rw [lookup_putF, if_pos rfl]
theorem lfs_no (a b : Int) {m : Str} (h1 : ¬ m = "more") (h2 : ¬ m = "slope") : (lfs a b).lookup m = none := by
  unfold lfs
  rw [lookup_putF, if_neg h1, lookup_putF, if_neg h2]
  rfl
/-- at p: a Line of the class at C with these parts -/
def LineAt (C : Addr) (H : Hp) (p : Addr) (a b : Int) : Prop := ∃ dx, H p = some (.ins C dx (lfs a b))
theorem LineAt.same {C : Addr} {H H' : Hp} {p : Addr} {a b : Int} (h : LineAt C H p a b) (k : Same H H') : LineAt C H' p a b := by
  obtain ⟨dx, e⟩ := h
  exact ⟨dx, k _ _ e⟩
/-- what the top has written of Line and its errors -/
structure LTx (P : Program) (K : PySem.W.Frag) (mg : Str → Option Value) (CLine CBadLine fBadLine CBadRest fBadRest : Addr) : Prop extends BI mg where
  cl : Cls K CLine
  nS : NoAttr K CLine "slope"
  nM : NoAttr K CLine "more"
  gLine : mg "Line" = some (.ref CLine)
  ha : PySem.W.findIn K (.ref CLine) "__class__" = some (some (.builtin "object.__class__"))
  hn : PySem.W.specialIn K (.builtin "object.__class__") "__get__" = some (some (.builtin "getset_descriptor.__get__"))
  ht : PySem.W.takesIn K (.builtin "object.__class__") = some true
  hm : PySem.W.mroIn K CLine (.type "object") = some true
  me : PySem.W.kitOne K (.ref CLine) (.ref CLine) = some true
  e_BadLine : Sup.Err1 P K mg "BadLine" "part" CBadLine fBadLine
  e_BadRest : Sup.Err1 P K mg "BadRest" "value" CBadRest fBadRest
/-- Line.__init__(self, slope, more) -/
def spInit (C CB : Addr) : Sp := fun vs H Q E => ∃ (p dx : Addr) (sv mv : V) (ts tm : String), vs = [.ref p, sv, mv] ∧ H p = some (.ins C dx []) ∧ Ty0 H sv ts ∧ Ty0 H mv tm ∧
  (∀ a b H', sv = .int a → mv = .int b → H' p = some (.ins C dx (lfs a b)) → (∀ c o, H c = some o → c ≠ p → H' c = some o) → Q .non H') ∧
  (isI sv = false → ∀ d H', H d = none → H' d = some (.xd [("part", .str "slope")]) → Same H H' → E (.ref CB) (some d) H') ∧
  (isI sv = true → isI mv = false → ∀ d H', H d = none → H' d = some (.xd [("part", .str "more")]) → Same H H' → E (.ref CB) (some d) H')
section
variable {P : Program} {w : World} {K : PySem.W.Frag} {mg : Str → Option Value} {base : Heap} {CLine CBadLine fBadLine CBadRest fBadRest : Addr}
theorem ok_isint {f : Addr} {fd : FuncData} (F : Fun K "is_integer" "is_integer" s_isint f fd) (T : BI mg) : FnOk P w K mg base CX0 1 f fd ["thing"] spIsint := by
  refine F.ok sc_isint (fun vs H Q E h => ?_) (fun cdv A outer s H vs Q E hr h => ?_)
  · obtain ⟨v, t, rfl, _⟩ := h
    rfl
  · obtain ⟨v, t, rfl, ty, q⟩ := h
    refine ⟨_, (pss_one (ps_ret (pe_and (pe_callB call_isi (by rfl) T.z_isinstance boot_isinstance (pa_cons (pv 0) (pa_cons (pe_bltn (v := .ty "int") (by rfl) T.z_int boot_int rfl) pa_nil))) (pe_one (pe_not (pe_callB call_isi (by rfl) T.z_isinstance boot_isinstance (pa_cons (pv 0) (pa_cons (pe_bltn (v := .ty "bool") (by rfl) T.z_bool boot_bool rfl) pa_nil)))))))), ?_⟩
    obtain ⟨b, e1, e2, e3⟩ := ty.kint (K := K)
    refine ⟨_, rfl, v, _, _, _, b, rfl, .ty _, ty.tyx, e1, _, rfl, ?_⟩
    cases b with
    | false =>
      refine iteF ?_
      rw [e3 rfl] at q
      exact q
    | true =>
      refine iteT ?_
      obtain ⟨c, e4, e5⟩ := e2 rfl
      refine ⟨_, rfl, v, _, _, _, c, rfl, .ty _, ty.tyx, e4, _, rfl, ?_⟩
      rw [e5] at q
      exact q
theorem ok_init {f : Addr} {fd : FuncData} (F : FunD K "__init__" "Line.__init__" (defArgs s_init) (defBody s_init) (defScope s_init) [.int 0] [] f fd) (T : LTx P K mg CLine CBadLine fBadLine CBadRest fBadRest)
    (D_isint : DefAt P w K mg base CX0 1 "is_integer" ["thing"] spIsint) : FnOk P w K mg base (L2.CX P w) 3 f fd ["self", "slope", "more"] (spInit CLine CBadLine) := by
  refine F.ok sc_init (fun vs H Q E h => ?_) (fun cdv A outer s H vs Q E hr h => ?_)
  · obtain ⟨p, dx, sv, mv, ts, tm, rfl, _⟩ := h
    rfl
  · obtain ⟨p, dx, sv, mv, ts, tm, rfl, hp, tys, tym, kQ, kS, kM⟩ := h
    refine ⟨_, (pss_cons (ps_for (passes_of rfl) rfl (pi_tup (pe_tup (pa_cons (pe_tup (pa_cons pe_str (pa_cons (pv 1) pa_nil))) (pa_cons (pe_tup (pa_cons pe_str (pa_cons (pv 2) pa_nil))) pa_nil)))) (pg_tup rfl (pgs_cons (pg_name (i := 3) sc_init.nd rfl (Or.inl rfl)) (pgs_cons (pg_name (i := 4) sc_init.nd rfl (Or.inl rfl)) pgs_nil))) (pss_one (ps_if (pt_not (pt_val (My.pe_d D_isint (hr.mono (by decide)) (by rfl) pass0 (pa_cons (pv 4) pa_nil)))) (pss_one (ps_raise1 rfl T.e_BadLine (hr.mono (by decide) : Room 0 _) (takes_of rfl rfl rfl rfl) (pa_cons (pv 3) pa_nil))) pss_nil)))
      (pss_cons (ps_fld (pv 0) (pv 1) rfl)
      (pss_one (ps_fld (pv 0) (pv 2) rfl)))), ?_⟩
    refine ⟨_, rfl, (by show 2 ≤ sizeLine; decide), fun t1 h1 => ⟨_, rfl, (by show 2 ≤ sizeLine; decide), fun t2 h2 => ⟨(by show 2 ≤ sizeLine; decide), fun t3 h3 => ?_⟩⟩⟩
    have w1 : (upd (upd (upd H t1 (.tup [.str "slope", sv])) t2 (.tup [.str "more", mv])) t3 (.tup [.ref t1, .ref t2])) t1 = some (.tup [.str "slope", sv]) := by
      have z1 : (upd H t1 (.tup [.str "slope", sv])) t1 = some (.tup [.str "slope", sv]) := upd_same
      have z2 : (upd (upd H t1 (.tup [.str "slope", sv])) t2 (.tup [.str "more", mv])) t1 = some (.tup [.str "slope", sv]) := by rw [upd_ne (ne_of_none z1 h2)]; exact z1
      rw [upd_ne (ne_of_none z2 h3)]
      exact z2
    have w2 : (upd (upd (upd H t1 (.tup [.str "slope", sv])) t2 (.tup [.str "more", mv])) t3 (.tup [.ref t1, .ref t2])) t2 = some (.tup [.str "more", mv]) := by
      have z2 : (upd (upd H t1 (.tup [.str "slope", sv])) t2 (.tup [.str "more", mv])) t2 = some (.tup [.str "more", mv]) := upd_same
      rw [upd_ne (ne_of_none z2 h3)]
      exact z2
    have s3 : Same H (upd (upd (upd H t1 (.tup [.str "slope", sv])) t2 (.tup [.str "more", mv])) t3 (.tup [.ref t1, .ref t2])) := ((same_new h1).trans (same_new h2)).trans (same_new h3)
    have w3 : (upd (upd (upd H t1 (.tup [.str "slope", sv])) t2 (.tup [.str "more", mv])) t3 (.tup [.ref t1, .ref t2])) t3 = some (.tup [.ref t1, .ref t2]) := upd_same
    generalize (upd (upd (upd H t1 (.tup [.str "slope", sv])) t2 (.tup [.str "more", mv])) t3 (.tup [.ref t1, .ref t2])) = H3 at w1 w2 w3 s3
    refine ⟨t3, rfl, ⟨_, SqT.of w3⟩, for_tup (K := K) (a := t3) (xs := [.ref t1, .ref t2]) (fun i σ H' => ∃ v3 v4, σ = [some (.ref p), some sv, some mv, v3, v4] ∧ H' = H3 ∧ (1 ≤ i → isI sv = true) ∧ (2 ≤ i → isI mv = true))
      ⟨none, none, rfl, rfl, fun z => absurd z (by decide), fun z => absurd z (by decide)⟩ (fun i σ H' _ ⟨_, _, _, e, _⟩ => by rw [e]; exact SqT.of w3) ?_ ?_⟩
    · rintro i x σ H' hi ⟨v3, v4, rfl, rfl, c1, c2⟩
      rcases i with _ | _ | i
      · obtain rfl : V.ref t1 = x := Option.some.inj hi
        refine ⟨t1, _, rfl, SqT.of w1, rfl, _, _, rfl, _, _, rfl, rfl, ?_⟩
        refine ⟨_, rfl, sv, ts, rfl, tys.same s3, _, rfl, ?_⟩
        cases e : isI sv with
        | false =>
          refine iteT ?_
          exact ⟨_, rfl, _, rfl, fun d hd => kS e d _ (s3.free hd) upd_same (s3.trans (same_new hd))⟩
        | true =>
          refine iteF ?_
          exact ⟨_, _, rfl, rfl, fun _ => (by first | exact e | rfl), fun z => absurd z (by decide)⟩
      · obtain rfl : V.ref t2 = x := Option.some.inj hi
        refine ⟨t2, _, rfl, SqT.of w2, rfl, _, _, rfl, _, _, rfl, rfl, ?_⟩
        refine ⟨_, rfl, mv, tm, rfl, tym.same s3, _, rfl, ?_⟩
        cases e : isI mv with
        | false =>
          refine iteT ?_
          exact ⟨_, rfl, _, rfl, fun d hd => kM (c1 (by decide)) e d _ (s3.free hd) upd_same (s3.trans (same_new hd))⟩
        | true =>
          refine iteF ?_
          exact ⟨_, _, rfl, rfl, fun _ => c1 (by decide), fun _ => (by first | exact e | rfl)⟩
      · cases hi
    · rintro σ H' ⟨v3, v4, rfl, rfl, c1, c2⟩
      obtain ⟨a, rfl⟩ := isI_int (c1 (show 1 ≤ 2 by decide))
      obtain ⟨b, rfl⟩ := isI_int (c2 (show 2 ≤ 2 by decide))
      refine ⟨_, rfl, _, rfl, p, CLine, dx, _, rfl, s3 _ _ hp, T.cl, T.nS, (by show 0 < 1000; decide), ?_⟩
      refine ⟨_, rfl, _, rfl, p, CLine, dx, _, rfl, upd_same, T.cl, T.nM, (by show 1 < 1000; decide), ?_⟩
      refine kQ a b _ rfl rfl upd_same fun c o z nc => ?_
      rw [upd_ne nc, upd_ne nc]
      exact s3 c o z
end
end My
namespace My
open PySem PySem.Spec PyProof.Rows L2
abbrev s_call : Stmt := inClass (topS 15) 5
theorem sc_call : FnScope ["self", "m"] ["self", "m"] (defScope s_call) := ⟨rfl, rfl, rfl, by decide +kernel, rfl, by decide +kernel, by decide +kernel⟩
abbrev s_rank : Stmt := inClass (topS 15) 6
theorem sc_rank : FnScope ["self"] ["self"] (defScope s_rank) := ⟨rfl, rfl, rfl, by decide +kernel, rfl, by decide +kernel, by decide +kernel⟩
abbrev s_eq : Stmt := inClass (topS 15) 18
theorem sc_eq : FnScope ["self", "other"] ["self", "other"] (defScope s_eq) := ⟨rfl, rfl, rfl, by decide +kernel, rfl, by decide +kernel, by decide +kernel⟩
abbrev s_refined : Stmt := inClass (topS 15) 22
theorem sc_refined : FnScope ["self", "times", "rest"] ["self", "times", "rest"] (defScope s_refined) := ⟨rfl, rfl, rfl, by decide +kernel, rfl, by decide +kernel, by decide +kernel⟩
abbrev s_needrest : Stmt := topS 20
theorem sc_needrest : FnScope ["rest", "modulus"] ["rest", "modulus"] (defScope s_needrest) := ⟨rfl, rfl, rfl, by decide +kernel, rfl, by decide +kernel, by decide +kernel⟩
/-- what an error of the class C with the field f = v is wished for -/
def Errs (E : XK) (C : Addr) (f : Str) (v : V) (H : Hp) : Prop := ∀ (d : Addr) (H' : Hp), H d = none → H' d = some (.xd [(f, v)]) → Same H H' → E (.ref C) (some d) H'
theorem Errs.go {E : XK} {C : Addr} {f : Str} {v : V} {H : Hp} (h : Errs E C f v H) {d : Addr} (hd : H d = none) : E (.ref C) (some d) (upd H d (.xd [(f, v)])) := h d _ hd upd_same (same_new hd)
theorem Errs.up {E : XK} {C : Addr} {f : Str} {v : V} {H H1 : Hp} (h : Errs E C f v H) (s : Same H H1) : Errs E C f v H1 := fun d H' hd hx s' => h d H' (s.free hd) hx (s.trans s')
/-- no integer, or one below n -/
def Low (v : V) (n : Int) : Prop := isI v = false ∨ ∃ i, v = .int i ∧ i < n
/-- no rest of t -/
def NoRest (v : V) (t : Int) : Prop := isI v = false ∨ ∃ i, v = .int i ∧ ¬ (0 ≤ i ∧ i < t)
theorem init_ints {C CB : Addr} {H : Hp} {x dx : Addr} {a b : Int} {Q : VK} {E : XK} (hx : H x = none) (hd : H dx = none) (ne : dx ≠ x) (k : ∀ H', LineAt C H' x a b → Same H H' → Q (.ref x) H') :
    spInit C CB [.ref x, .int a, .int b] (upd (upd H dx (.own x)) x (.ins C dx [])) (fun v H2 => v = .non ∧ Q (.ref x) H2) E := by
  refine ⟨x, dx, _, _, _, _, rfl, upd_same, .int a, .int b, fun a' b' H' ea eb h1 h2 => ⟨rfl, ?_⟩, fun z => Bool.noConfusion z, fun _ z => Bool.noConfusion z⟩
  cases ea
  cases eb
  exact k H' ⟨dx, h1⟩ fun c o e => h2 c o (by rw [upd_ne (ne_of_none e hx), upd_ne (ne_of_none e hd)]; exact e) (ne_of_none e hx)
def spCall (C CB : Addr) : Sp := fun vs H Q E => ∃ (p : Addr) (a b : Int) (mv : V) (t : String), vs = [.ref p, mv] ∧ LineAt C H p a b ∧ Ty0 H mv t ∧
  (∀ m, mv = .int m → 0 ≤ m → CMulW a m ∧ Q (.int (a * m + b)) H) ∧ (Low mv 0 → Errs E CB "part" (.str "m") H)
def spRank (C : Addr) : Sp := fun vs H Q _ => ∃ (p : Addr) (a b : Int), vs = [.ref p] ∧ LineAt C H p a b ∧ ∀ t, H t = none → Q (.ref t) (upd H t (.tup [.int a, .int b]))
def spEq (C : Addr) : Sp := fun vs H Q _ => ∃ (p q : Addr) (a b c d : Int), vs = [.ref p, .ref q] ∧ LineAt C H p a b ∧ LineAt C H q c d ∧ ∀ H', Same H H' → Q (.bl (decide (a = c ∧ b = d))) H'
def spNeed (CR : Addr) : Sp := fun vs H Q E => ∃ (rv : V) (t : String) (m : Int), vs = [rv, .int m] ∧ Ty0 H rv t ∧ (∀ r, rv = .int r → 0 ≤ r → r < m → Q .non H) ∧ (NoRest rv m → Errs E CR "value" rv H)
def spHalf (C CB : Addr) : Sp := fun vs H Q E => ∃ (p : Addr) (a b : Int), vs = [.ref p] ∧ LineAt C H p a b ∧
  (¬ a % 2 = 1 → ∀ q H', H q = none → LineAt C H' q (a / 2) (b / 2) → Same H H' → Q (.ref q) H') ∧ (a % 2 = 1 → Errs E CB "part" (.str "slope") H)
def spRef (C CB CR : Addr) : Sp := fun vs H Q E => ∃ (p : Addr) (a b : Int) (tv rv : V) (tt tr : String), vs = [.ref p, tv, rv] ∧ LineAt C H p a b ∧ Ty0 H tv tt ∧ Ty0 H rv tr ∧
  (∀ t r, tv = .int t → rv = .int r → 1 ≤ t → 0 ≤ r → r < t → CMulW a t ∧ CMulW a r ∧ ∀ q H', H q = none → LineAt C H' q (a * t) (a * r + b) → Same H H' → Q (.ref q) H') ∧
  (Low tv 1 → Errs E CB "part" (.str "times") H) ∧ (∀ t, tv = .int t → 1 ≤ t → NoRest rv t → Errs E CR "value" rv H)
section
variable {P : Program} {w : World} {K : PySem.W.Frag} {mg : Str → Option Value} {base : Heap} {CLine CBadLine fBadLine CBadRest fBadRest : Addr}
theorem ok_call {f : Addr} {fd : FuncData} (F : Fun K "__call__" "Line.__call__" s_call f fd) (T : LTx P K mg CLine CBadLine fBadLine CBadRest fBadRest)
    (D_isint : DefAt P w K mg base CX0 1 "is_integer" ["thing"] spIsint) : FnOk P w K mg base (L2.CX P w) 3 f fd ["self", "m"] (spCall CLine CBadLine) := by
  refine F.okX sc_call (fun vs H Q E h => ?_) (fun cdv A outer s H vs Q E hr h => ?_)
  · obtain ⟨p, a, b, mv, t, rfl, _⟩ := h
    rfl
  · obtain ⟨p, a, b, mv, t, rfl, ⟨dx, hp⟩, ty, kQ, kE⟩ := h
    refine ⟨_, (pss_cons (ps_if (PW.pt (pw_or (pt_not (pt_val (My.pe_d D_isint (hr.mono (by decide)) (by rfl) pass0 (pa_cons (pv 1) pa_nil)))) (pw_or1 (pt_cmpR op_lt (pv 1) pe_int (nomark _))))) (pss_one (ps_raise1 rfl T.e_BadLine (hr.mono (by decide) : Room 0 _) (takes_of rfl rfl rfl rfl) (pa_cons pe_str pa_nil))) pss_nil)
      (pss_one (ps_ret (pe_op op_add (pe_op op_mulW (pe_fld (pv 0) rfl) (pv 1)) (pe_fld (pv 0) rfl))))), ?_⟩
    refine ⟨_, rfl, mv, t, rfl, ty, _, rfl, ?_⟩
    cases e : isI mv with
    | false =>
      refine iteT (iteT ?_)
      exact ⟨_, rfl, fun d hd => (kE (.inl e)).go hd⟩
    | true =>
      obtain ⟨m, rfl⟩ := isI_int e
      refine iteF ?_
      refine ⟨_, rfl, _, _, rfl, rfl, _, rfl, ?_⟩
      refine ite2 (fun c => ?_) (fun c => ?_)
      · exact ⟨_, rfl, fun d hd => (kE (.inr ⟨m, rfl, of_decide_eq_true c⟩)).go hd⟩
      · have c' : 0 ≤ m := by
          have z : ¬ m < 0 := fun z => c (decide_eq_true z)
          omega
        obtain ⟨h1, h2⟩ := kQ m rfl c'
        exact ⟨_, rfl, p, CLine, dx, _, _, rfl, hp, T.cl, T.nS, lfs_slope _ _, _, rfl, _, _, rfl, rfl, h1, _, rfl, p, CLine, dx, _, _, rfl, hp, T.cl, T.nM, lfs_more _ _, _, _, rfl, rfl, h2⟩
theorem ok_rank {f : Addr} {fd : FuncData} (F : Fun K "rank" "Line.rank" s_rank f fd) (T : LTx P K mg CLine CBadLine fBadLine CBadRest fBadRest) : FnOk P w K mg base CX0 1 f fd ["self"] (spRank CLine) := by
  refine F.ok sc_rank (fun vs H Q E h => ?_) (fun cdv A outer s H vs Q E hr h => ?_)
  · obtain ⟨p, a, b, rfl, _⟩ := h
    rfl
  · obtain ⟨p, a, b, rfl, ⟨dx, hp⟩, k⟩ := h
    refine ⟨_, (pss_one (ps_ret (pe_tup (pa_cons (pe_fld (pv 0) rfl) (pa_cons (pe_fld (pv 0) rfl) pa_nil))))), ?_⟩
    exact ⟨_, rfl, p, CLine, dx, _, _, rfl, hp, T.cl, T.nS, lfs_slope _ _, _, rfl, p, CLine, dx, _, _, rfl, hp, T.cl, T.nM, lfs_more _ _, (by show 2 ≤ sizeLine; decide), k⟩
theorem ok_eq {f : Addr} {fd : FuncData} (F : Fun K "__eq__" "Line.__eq__" s_eq f fd) (T : LTx P K mg CLine CBadLine fBadLine CBadRest fBadRest)
    (X_rank : MethAt P w K mg base CX0 1 CLine "rank" ["self"] (spRank CLine)) : FnOk P w K mg base CX0 2 f fd ["self", "other"] (spEq CLine) := by
  refine F.ok sc_eq (fun vs H Q E h => ?_) (fun cdv A outer s H vs Q E hr h => ?_)
  · obtain ⟨p, q, a, b, c, d, rfl, _⟩ := h
    rfl
  · obtain ⟨p, q, a, b, c, d, rfl, ⟨dx, hp⟩, ⟨dy, hq⟩, k⟩ := h
    refine ⟨_, (pss_one (ps_ret (pe_and (pe_callB call_isi (by rfl) T.z_isinstance boot_isinstance (pa_cons (pv 1) (pa_cons (pe_glob (v := .ref CLine) (by rfl) T.gLine rfl) pa_nil))) (pe_one (pe_cmpR (op_eqD hr.units) (My.pe_mt0 T.cl X_rank (hr.mono (by decide)) pass0 (pv 0)) (My.pe_mt0 T.cl X_rank (hr.mono (by decide)) pass0 (pv 1)) (nomark _)))))), ?_⟩
    refine ⟨_, rfl, _, _, _, _, true, rfl, .own _, .base (.ins hq T.cl T.ha T.hn T.ht T.hm), T.me, _, rfl, iteT ?_⟩
    refine ⟨_, rfl, p, dx, _, rfl, hp, lfs_no _ _ (by decide +kernel) (by decide +kernel), p, a, b, rfl, ⟨dx, hp⟩, fun t1 h1 => ?_⟩
    have hq1 := same_new (o := .tup [.int a, .int b]) h1 _ _ hq
    refine ⟨_, rfl, q, dy, _, rfl, hq1, lfs_no _ _ (by decide +kernel) (by decide +kernel), q, c, d, rfl, ⟨dy, hq1⟩, fun t2 h2 => ?_⟩
    have w1 := same_new (o := .tup [.int c, .int d]) h2 _ _ (upd_same (H := H) (a := t1) (o := .tup [.int a, .int b]))
    refine ⟨.tuple [.int a, .int b], .tuple [.int c, .int d], .tup (SqT.of w1) (.cons (.int a) (.cons (.int b) .nil)), .tup (SqT.of upd_same) (.cons (.int c) (.cons (.int d) .nil)), rfl, rfl, ?_⟩
    have e : PyData.eqv (.tuple [.int a, .int b]) (.tuple [.int c, .int d]) = decide (a = c ∧ b = d) := by
      show (a == c && (b == d && true)) = decide (a = c ∧ b = d)
      rw [Bool.and_true, Bool.decide_and]
      rfl
    rw [e]
    exact k _ ((same_new h1).trans (same_new h2))
theorem ok_need {f : Addr} {fd : FuncData} (F : Fun K "need_rest" "need_rest" s_needrest f fd) (T : LTx P K mg CLine CBadLine fBadLine CBadRest fBadRest)
    (D_isint : DefAt P w K mg base CX0 1 "is_integer" ["thing"] spIsint) : FnOk P w K mg base (L2.CX P w) 3 f fd ["rest", "modulus"] (spNeed CBadRest) := by
  refine F.okX sc_needrest (fun vs H Q E h => ?_) (fun cdv A outer s H vs Q E hr h => ?_)
  · obtain ⟨rv, t, m, rfl, _⟩ := h
    rfl
  · obtain ⟨rv, t, m, rfl, ty, kQ, kE⟩ := h
    refine ⟨_, (pss_one (ps_if (PW.pt (pw_or (pt_not (pt_val (My.pe_d D_isint (hr.mono (by decide)) (by rfl) pass0 (pa_cons (pv 0) pa_nil)))) (pw_or1 (pt_not (pt_chain op_le op_lt pe_int (pv 0) (pv 1)))))) (pss_one (ps_raise1 rfl T.e_BadRest (hr.mono (by decide) : Room 0 _) (takes_of rfl rfl rfl rfl) (pa_cons (pv 0) pa_nil))) pss_nil)), ?_⟩
    refine ⟨_, rfl, rv, t, rfl, ty, _, rfl, ?_⟩
    cases e : isI rv with
    | false =>
      refine iteT (iteT ?_)
      exact ⟨_, rfl, _, rfl, fun d hd => (kE (.inl e)).go hd⟩
    | true =>
      obtain ⟨r, rfl⟩ := isI_int e
      refine iteF ?_
      refine ⟨_, rfl, _, _, rfl, rfl, _, rfl, ?_⟩
      refine ite2 (fun c => ?_) (fun c => ?_)
      · refine ⟨_, rfl, _, _, rfl, rfl, _, rfl, ?_⟩
        have c0 : 0 ≤ r := of_decide_eq_true c
        cases e2 : decide (r < m) with
        | true =>
          refine iteF ?_
          exact kQ r rfl c0 (of_decide_eq_true e2)
        | false =>
          refine iteT ?_
          exact ⟨_, rfl, _, rfl, fun d hd => (kE (.inr ⟨r, rfl, fun z => of_decide_eq_false e2 z.2⟩)).go hd⟩
      · refine ⟨_, rfl, iteT ?_⟩
        exact ⟨_, rfl, _, rfl, fun d hd => (kE (.inr ⟨r, rfl, fun z => c (decide_eq_true z.1)⟩)).go hd⟩
theorem ok_refined {f : Addr} {fd : FuncData} (F : Fun K "refined" "Line.refined" s_refined f fd) (T : LTx P K mg CLine CBadLine fBadLine CBadRest fBadRest)
    (D_isint : DefAt P w K mg base CX0 1 "is_integer" ["thing"] spIsint) (D_needrest : DefAt P w K mg base (L2.CX P w) 3 "need_rest" ["rest", "modulus"] (spNeed CBadRest))
    (M_Line : MakeAt P w K mg base (L2.CX P w) 3 "Line" CLine ["self", "slope", "more"] (spInit CLine CBadLine) []) : FnOk P w K mg base (L2.CX P w) 5 f fd ["self", "times", "rest"] (spRef CLine CBadLine CBadRest) := by
  refine F.okX sc_refined (fun vs H Q E h => ?_) (fun cdv A outer s H vs Q E hr h => ?_)
  · obtain ⟨p, a, b, tv, rv, tt, tr, rfl, _⟩ := h
    rfl
  · obtain ⟨p, a, b, tv, rv, tt, tr, rfl, ⟨dx, hp⟩, ty1, ty2, kQ, kT, kR⟩ := h
    refine ⟨_, (pss_cons (ps_if (PW.pt (pw_or (pt_not (pt_val (My.pe_d D_isint (hr.mono (by decide)) (by rfl) pass0 (pa_cons (pv 1) pa_nil)))) (pw_or1 (pt_cmpR op_lt (pv 1) pe_int (nomark _))))) (pss_one (ps_raise1 rfl T.e_BadLine (hr.mono (by decide) : Room 0 _) (takes_of rfl rfl rfl rfl) (pa_cons pe_str pa_nil))) pss_nil)
      (pss_cons (ps_expr (My.pe_d D_needrest (hr.mono (by decide)) (by rfl) (passes_call (takes_of rfl rfl rfl rfl) (fun _ _ _ _ h => h)) (pa_cons (pv 2) (pa_cons (pv 1) pa_nil))))
      (pss_one (ps_ret (My.pe_mk M_Line (hr.mono (by decide)) (by rfl) passL (pa_cons (pe_op op_mulW (pe_fld (pv 0) rfl) (pv 1)) (pa_cons (pe_op op_add (pe_op op_mulW (pe_fld (pv 0) rfl) (pv 2)) (pe_fld (pv 0) rfl)) pa_nil))))))), ?_⟩
    refine ⟨_, rfl, tv, tt, rfl, ty1, _, rfl, ?_⟩
    cases e : isI tv with
    | false =>
      refine iteT (iteT ?_)
      exact ⟨_, rfl, fun d hd => (kT (.inl e)).go hd⟩
    | true =>
      obtain ⟨t, rfl⟩ := isI_int e
      refine iteF ?_
      refine ⟨_, rfl, _, _, rfl, rfl, _, rfl, ?_⟩
      refine ite2 (fun c => ?_) (fun c => ?_)
      · exact ⟨_, rfl, fun d hd => (kT (.inr ⟨t, rfl, of_decide_eq_true c⟩)).go hd⟩
      · have c' : 1 ≤ t := by
          have z : ¬ t < 1 := fun z => c (decide_eq_true z)
          omega
        refine ⟨_, rfl, _, rfl, rv, tr, t, rfl, ty2, fun r er h0 h1 => ?_, fun nr => kR t rfl c' nr⟩
        subst er
        obtain ⟨m1, m2, k⟩ := kQ t r rfl rfl c' h0 h1
        refine ⟨_, rfl, p, CLine, dx, _, _, rfl, hp, T.cl, T.nS, lfs_slope _ _, _, rfl, _, _, rfl, rfl, m1, _, rfl, p, CLine, dx, _, _, rfl, hp, T.cl, T.nS, lfs_slope _ _, _, rfl, _, _, rfl, rfl, m2, _, rfl, p, CLine, dx, _, _, rfl, hp, T.cl, T.nM, lfs_more _ _, _, _, rfl, rfl, fun x dx' hx hd ne => ?_⟩
        exact init_ints hx hd ne fun H' hl hs => k x H' hx hl hs
end
end My
set_option pp.maxSteps 1500
set_option pp.deepTerms.threshold 8
/-! ### classes of lengths -/
namespace My
open PySem PySem.Spec PyProof.Rows L2
abbrev s_needmod : Stmt := topS 19
theorem sc_needmod : FnScope ["modulus"] ["modulus"] (defScope s_needmod) := ⟨rfl, rfl, rfl, by decide +kernel, rfl, by decide +kernel, by decide +kernel⟩
abbrev s_islen : Stmt := topS 21
theorem sc_islen : FnScope ["thing", "most"] ["thing", "most"] (defScope s_islen) := ⟨rfl, rfl, rfl, by decide +kernel, rfl, by decide +kernel, by decide +kernel⟩
abbrev s_classof : Stmt := topS 22
theorem sc_classof : FnScope ["n", "modulus"] ["n", "modulus"] (defScope s_classof) := ⟨rfl, rfl, rfl, by decide +kernel, rfl, by decide +kernel, by decide +kernel⟩
abbrev s_lenof : Stmt := topS 23
theorem sc_lenof : FnScope ["rest", "m", "modulus"] ["rest", "m", "modulus"] (defScope s_lenof) := ⟨rfl, rfl, rfl, by decide +kernel, rfl, by decide +kernel, by decide +kernel⟩
structure MTx (P : Program) (K : PySem.W.Frag) (mg : Str → Option Value) (CLine CB fB CR fR CN fN : Addr) (tG : Tok) : Prop extends LTx P K mg CLine CB fB CR fR where
  e_BadLength : Sup.Err1 P K mg "BadLength" "value" CN fN
  gGreat : mg "GREATEST_LENGTH" = some (.int (10 ^ 40) tG)
def lenB (v : V) (n : Int) : Bool := match v with
  | .int i => decide (0 ≤ i) && decide (i ≤ n)
  | _ => false
def spNeedM (CB : Addr) : Sp := fun vs H Q E => ∃ (v : V) (t : String), vs = [v] ∧ Ty0 H v t ∧ (∀ m, v = .int m → 1 ≤ m → Q .non H) ∧ (Low v 1 → Errs E CB "part" (.str "modulus") H)
def spIslen : Sp := fun vs H Q _ => ∃ (v : V) (t : String) (n : Int), vs = [v, .int n] ∧ Ty0 H v t ∧ Q (.bl (lenB v n)) H
/-- length_of: all three checked in their order -/
def spLenof (CB CR : Addr) : Sp := fun vs H Q E => ∃ (rv mv wv : V) (tr tm tw : String), vs = [rv, mv, wv] ∧ Ty0 H rv tr ∧ Ty0 H mv tm ∧ Ty0 H wv tw ∧
  (∀ r n m, rv = .int r → mv = .int n → wv = .int m → 1 ≤ m → 0 ≤ r → r < m → 0 ≤ n → CMulW m n ∧ Q (.int (m * n + r)) H) ∧ (Low wv 1 → Errs E CB "part" (.str "modulus") H) ∧ (∀ m, wv = .int m → 1 ≤ m → NoRest rv m → Errs E CR "value" rv H) ∧
  (∀ r m, wv = .int m → 1 ≤ m → rv = .int r → 0 ≤ r → r < m → Low mv 0 → Errs E CB "part" (.str "m") H)
def spClassof (CB CN : Addr) : Sp := fun vs H Q E => ∃ (v wv : V) (t tw : String), vs = [v, wv] ∧ Ty0 H v t ∧ Ty0 H wv tw ∧
  (∀ n m, v = .int n → 0 ≤ n → n ≤ 10 ^ 40 → wv = .int m → 1 ≤ m → m.natAbs.log2 < 9000 ∧ ∀ p, H p = none → Q (.ref p) (upd H p (.tup [.int (n % m), .int (n / m)]))) ∧ (lenB v (10 ^ 40) = false → Errs E CN "value" v H) ∧ (lenB v (10 ^ 40) = true → Low wv 1 → Errs E CB "part" (.str "modulus") H)
section
variable {P : Program} {w : World} {K : PySem.W.Frag} {mg : Str → Option Value} {base : Heap} {CLine CB fB CR fR CN fN : Addr} {tG : Tok}
theorem ok_needmod {f : Addr} {fd : FuncData} (F : Fun K "need_modulus" "need_modulus" s_needmod f fd) (T : LTx P K mg CLine CB fB CR fR) (D_isint : DefAt P w K mg base CX0 1 "is_integer" ["thing"] spIsint) : FnOk P w K mg base (L2.CX P w) 3 f fd ["modulus"] (spNeedM CB) := by
  refine F.okX sc_needmod (fun vs H Q E h => ?_) (fun cdv A outer s H vs Q E hr h => ?_)
  · obtain ⟨v, t, rfl, _⟩ := h
    rfl
  · obtain ⟨v, t, rfl, ty, kQ, kE⟩ := h
    refine ⟨_, (pss_one (ps_if (PW.pt (pw_or (pt_not (pt_val (My.pe_d D_isint (hr.mono (by decide)) (by rfl) pass0 (pa_cons (pv 0) pa_nil)))) (pw_or1 (pt_cmpR op_lt (pv 0) pe_int (nomark _))))) (pss_one (ps_raise1 rfl T.e_BadLine (hr.mono (by decide) : Room 0 _) (takes_of rfl rfl rfl rfl) (pa_cons pe_str pa_nil))) pss_nil)), ?_⟩
    refine ⟨_, rfl, v, t, rfl, ty, _, rfl, ?_⟩
    cases e : isI v with
    | false =>
      refine iteT (iteT ?_)
      exact ⟨_, rfl, fun d hd => (kE (.inl e)).go hd⟩
    | true =>
      obtain ⟨m, rfl⟩ := isI_int e
      refine iteF ?_
      refine ⟨_, rfl, _, _, rfl, rfl, _, rfl, ?_⟩
      refine ite2 (fun c => ?_) (fun c => ?_)
      · exact ⟨_, rfl, fun d hd => (kE (.inr ⟨m, rfl, of_decide_eq_true c⟩)).go hd⟩
      · exact kQ m rfl (by
          have z : ¬ m < 1 := fun z => c (decide_eq_true z)
          omega)
theorem ok_islen {f : Addr} {fd : FuncData} (F : Fun K "is_length" "is_length" s_islen f fd) (D_isint : DefAt P w K mg base CX0 1 "is_integer" ["thing"] spIsint) : FnOk P w K mg base CX0 3 f fd ["thing", "most"] spIslen := by
  refine F.ok sc_islen (fun vs H Q E h => ?_) (fun cdv A outer s H vs Q E hr h => ?_)
  · obtain ⟨v, t, n, rfl, _⟩ := h
    rfl
  · obtain ⟨v, t, n, rfl, ty, k⟩ := h
    refine ⟨_, (pss_one (ps_ret (pe_and (My.pe_d D_isint (hr.mono (by decide)) (by rfl) pass0 (pa_cons (pv 0) pa_nil)) (pe_one (pe_chain op_le op_le pe_int (pv 0) (pv 1)))))), ?_⟩
    refine ⟨_, rfl, v, t, rfl, ty, _, rfl, ?_⟩
    cases e : isI v with
    | false =>
      have : lenB v n = false := by cases v <;> first | rfl | cases e
      rw [this] at k
      exact iteF k
    | true =>
      obtain ⟨i, rfl⟩ := isI_int e
      refine iteT ⟨_, rfl, _, _, rfl, rfl, _, rfl, ?_⟩
      have k : Q (.bl (decide (0 ≤ i) && decide (i ≤ n))) H := k
      refine ite2 (fun c => ?_) (fun c => ?_)
      · rw [c, Bool.true_and] at k
        exact ⟨_, rfl, _, _, rfl, rfl, k⟩
      · have c' : decide (0 ≤ i) = false := by simpa using c
        rw [c', Bool.false_and] at k
        exact k
theorem low_or {v : V} {n : Int} : Low v n ∨ ∃ m, v = .int m ∧ n ≤ m := by
  cases e : isI v with
  | false => exact .inl (.inl e)
  | true =>
    obtain ⟨m, rfl⟩ := isI_int e
    by_cases h : m < n
    · exact .inl (.inr ⟨m, rfl, h⟩)
    · exact .inr ⟨m, rfl, by omega⟩
theorem ok_classof {f : Addr} {fd : FuncData} (F : Fun K "class_of" "class_of" s_classof f fd) (T : MTx P K mg CLine CB fB CR fR CN fN tG) (D_islen : DefAt P w K mg base CX0 3 "is_length" ["thing", "most"] spIslen) (D_needmod : DefAt P w K mg base (L2.CX P w) 3 "need_modulus" ["modulus"] (spNeedM CB)) : FnOk P w K mg base (L2.CX P w) 5 f fd ["n", "modulus"] (spClassof CB CN) := by
  refine F.okX sc_classof (fun vs H Q E h => ?_) (fun cdv A outer s H vs Q E hr h => ?_)
  · obtain ⟨v, wv, t, tw, rfl, _⟩ := h
    rfl
  · obtain ⟨v, wv, t, tw, rfl, ty, tyw, kQ, kN, kM⟩ := h
    refine ⟨_, (pss_cons (ps_if (pt_not (pt_val (My.pe_d D_islen (hr.mono (by decide)) (by rfl) pass0 (pa_cons (pv 0) (pa_cons (pe_glob (v := .int (10 ^ 40)) rfl T.gGreat ⟨_, rfl⟩) pa_nil))))) (pss_one (ps_raise1 rfl T.e_BadLength (hr.mono (by decide) : Room 0 _) (takes_of rfl rfl rfl rfl) (pa_cons (pv 0) pa_nil))) pss_nil)
      (pss_cons (ps_expr (My.pe_d D_needmod (hr.mono (by decide)) (by rfl) (passes_call (takes_of rfl rfl rfl rfl) (fun _ _ _ _ h => h)) (pa_cons (pv 1) pa_nil)))
      (pss_one (ps_ret (pe_tup (pa_cons (pe_op op_mod (pv 0) (pv 1)) (pa_cons (pe_op op_fdivW (pv 0) (pv 1)) pa_nil))))))), ?_⟩
    refine ⟨_, rfl, v, t, 10 ^ 40, rfl, ty, _, rfl, ?_⟩
    cases e : lenB v (10 ^ 40) with
    | false => exact iteT ⟨_, rfl, _, rfl, fun d hd => (kN e).go hd⟩
    | true =>
      obtain ⟨n, rfl, h0, h1⟩ : ∃ n, v = .int n ∧ 0 ≤ n ∧ n ≤ 10 ^ 40 := by
        cases v with
        | int n =>
          have e : (decide (0 ≤ n) && decide (n ≤ 10 ^ 40)) = true := e
          rw [Bool.and_eq_true] at e
          exact ⟨n, rfl, of_decide_eq_true e.1, of_decide_eq_true e.2⟩
        | _ => cases e
      refine iteF ⟨_, rfl, wv, tw, rfl, tyw, fun m em hm => ?_, fun lo => kM e lo⟩
      subst em
      obtain ⟨lg, q⟩ := kQ n m rfl h0 h1 rfl hm
      exact ⟨_, rfl, _, rfl, n, m, rfl, rfl, (by show 0 < m; omega), _, rfl, _, rfl, n, m, rfl, rfl, ⟨by omega, lg⟩, (by show 2 ≤ sizeLine; decide), q⟩
theorem ok_lenof {f : Addr} {fd : FuncData} (F : Fun K "length_of" "length_of" s_lenof f fd) (T : MTx P K mg CLine CB fB CR fR CN fN tG) (D_isint : DefAt P w K mg base CX0 1 "is_integer" ["thing"] spIsint) (D_needmod : DefAt P w K mg base (L2.CX P w) 3 "need_modulus" ["modulus"] (spNeedM CB)) (D_needrest : DefAt P w K mg base (L2.CX P w) 3 "need_rest" ["rest", "modulus"] (spNeed CR)) : FnOk P w K mg base (L2.CX P w) 5 f fd ["rest", "m", "modulus"] (spLenof CB CR) := by
  refine F.okX sc_lenof (fun vs H Q E h => ?_) (fun cdv A outer s H vs Q E hr h => ?_)
  · obtain ⟨rv, mv, wv, tr, tm, tw, rfl, _⟩ := h
    rfl
  · obtain ⟨rv, mv, wv, tr, tm, tw, rfl, tyr, tym, tyw, kQ, kM, kR, kB⟩ := h
    refine ⟨_, (pss_cons (ps_expr (My.pe_d D_needmod (hr.mono (by decide)) (by rfl) (passes_call (takes_of rfl rfl rfl rfl) (fun _ _ _ _ h => h)) (pa_cons (pv 2) pa_nil)))
      (pss_cons (ps_expr (My.pe_d D_needrest (hr.mono (by decide)) (by rfl) (passes_call (takes_of rfl rfl rfl rfl) (fun _ _ _ _ h => h)) (pa_cons (pv 0) (pa_cons (pv 2) pa_nil))))
      (pss_cons (ps_if (PW.pt (pw_or (pt_not (pt_val (My.pe_d D_isint (hr.mono (by decide)) (by rfl) pass0 (pa_cons (pv 1) pa_nil)))) (pw_or1 (pt_cmpR op_lt (pv 1) pe_int (nomark _))))) (pss_one (ps_raise1 rfl T.e_BadLine (hr.mono (by decide) : Room 0 _) (takes_of rfl rfl rfl rfl) (pa_cons pe_str pa_nil))) pss_nil)
      (pss_one (ps_ret (pe_op op_add (pe_op op_mulW (pv 2) (pv 1)) (pv 0))))))), ?_⟩
    refine ⟨_, rfl, wv, tw, rfl, tyw, fun m em hm => ?_, fun lo => kM lo⟩
    subst em
    refine ⟨_, rfl, _, rfl, rv, tr, m, rfl, tyr, fun r er r0 r1 => ?_, fun no => kR m rfl hm no⟩
    subst er
    refine ⟨_, rfl, mv, tm, rfl, tym, _, rfl, ?_⟩
    cases e : isI mv with
    | false => exact iteT (iteT ⟨_, rfl, fun d hd => (kB r m rfl hm rfl r0 r1 (.inl e)).go hd⟩)
    | true =>
      obtain ⟨n, rfl⟩ := isI_int e
      refine iteF ⟨_, rfl, _, _, rfl, rfl, _, rfl, ite2 (fun c => ?_) (fun c => ?_)⟩
      · exact ⟨_, rfl, fun d hd => (kB r m rfl hm rfl r0 r1 (.inr ⟨n, rfl, of_decide_eq_true c⟩)).go hd⟩
      · have n0 : 0 ≤ n := by
          have z : ¬ n < 0 := fun z => c (decide_eq_true z)
          omega
        obtain ⟨h1, h2⟩ := kQ r n m rfl rfl rfl hm r0 r1 n0
        exact ⟨_, rfl, _, rfl, m, n, rfl, rfl, h1, _, rfl, _, _, rfl, rfl, h2⟩
end
end My
/-! range(n) of any n: within a word and beyond. -/
namespace L2
open PySem PySem.Spec PyProof.Rows
theorem turn_long {P : Program} {w : World} {K : PySem.W.Frag} {tg : Expr} (it : Addr) (lo : Int) (n : Nat) : Turn P w K tg (Itr lo n) [it] it (fun i h => IsLongIter h it (lo + (i : Nat) * 1) ((n : Int) - (i : Nat)) 1) where
  mem := by simp
  obj := fun i h st b hb => by
    have e : b = it := by simpa using hb
    subst e
    exact ⟨_, st, fun v z => by
      have z' : Data.fields _ = Data.cell v := z
      cases z'⟩
  keep := fun i h h' st k => k it (by simp) _ st
  item := by
    intro X hP hw hK hc i pins s σ H E I hf st hg
    subst hP hw hK
    obtain ⟨f0, f1, f2, f3, f4, f5⟩ := hf it (by simp)
    have W := Walks.longrange (prog := X.prog) (w := X.w) (I.ok.hd hc) it lo 1 n
    refine W.item i s _ _ hg st fun v h' tk hv st' kk => ?_
    obtain ⟨t, rfl⟩ := hv
    have I1 : Inv X pins σ H { s with heap := h', toks := tk } := I.turned (fun b o hb e => kk b o (by simpa using hb) e) f0 f1 f3 f4 f5
    refine ⟨_, rfl, go_of (s := { s with heap := h', toks := tk }) (n := "longrange_iterator") st' rfl rfl (by decide) ⟨.int (lo + i), H, I1, ⟨t, ?_⟩, ⟨rfl, rfl⟩, st', fun b hb => (hf b hb).1⟩⟩
    rw [Int.mul_one]
  done := by
    intro X hP hw hK hc i pins s σ H E I hf st hg
    subst hP hw hK
    obtain ⟨f0, f1, f2, f3, f4, f5⟩ := hf it (by simp)
    exact wpAny_pyNext_long_end (I.ok.hd hc) st (by have : n ≤ i := hg; omega) fun h' eb => ⟨rfl, I.turned (t' := s.toks) (fun b o hb e => eb b o hb e) f0 f1 f3 f4 f5⟩
  self := fun _ _ _ _ _ st h => wpAny_pyIter_longiter st h
section
variable {X : Cx} {tg : Expr}
theorem range_itL {pins : List (Addr × Obj)} {σ : St} {H : Hp} {s : Shared} {R : It → Hp → Prop} {E : Value → Shared → Prop} {lo hi : Int} {t u v : Tok} {tk : Nat} (I : Inv X pins σ H s) (hb : Builtin.Range.small lo hi 1 = false)
    (q : R (Itr lo (hi - lo).toNat) H) : wpAny (model X.prog X.w) X.A (pyIter (.ref s.heap.objs.size)) (PIE X pins σ tg R) E { s with heap := s.heap.push { cls := .type "range", data := .fields #[.int lo t, .int hi u, .int 1 v] }, toks := tk } := by
  refine wpAny_pyIter_longrange (IsRange.new ..) hb ?_
  have I1 : Inv X pins σ H { s with heap := s.heap.push { cls := .type "range", data := .fields #[.int lo t, .int hi u, .int 1 v] }, toks := tk } := I.kept fun b o e => Heap.get?_push_of_some _ e
  refine ⟨(s.heap.push { cls := .type "range", data := .fields #[.int lo t, .int hi u, .int 1 v] }).objs.size, [(s.heap.push { cls := .type "range", data := .fields #[.int lo t, .int hi u, .int 1 v] }).objs.size], _, _, H, rfl,
    I1.kept (t' := tk) fun b o e => Heap.get?_push_of_some _ e, turn_long _ lo (hi - lo).toNat, ?_, fun b hb => ?_, q⟩
  · have e1 : lo + ((0 : Nat) : Int) * 1 = lo := by simp
    have e2 : (((hi - lo).toNat : Nat) : Int) - ((0 : Nat) : Int) = Builtin.Range.rangeSize lo hi 1 := by rw [rangeSize_one]; split <;> omega
    show IsLongIter _ _ (lo + ((0 : Nat) : Int) * 1) ((((hi - lo).toNat : Nat) : Int) - ((0 : Nat) : Int)) 1
    rw [e1, e2]
    exact Heap.get?_push_size _ rfl
  · have e : b = (s.heap.push { cls := .type "range", data := .fields #[.int lo t, .int hi u, .int 1 v] }).objs.size := by simpa using hb
    subst e
    exact I1.fpOk (Nat.le_refl _) (I1.hok.fresh (Nat.le_refl _))
theorem range_itA {pins : List (Addr × Obj)} {σ : St} {H : Hp} {s : Shared} {R : It → Hp → Prop} {E : Value → Shared → Prop} {lo hi : Int} {t u v : Tok} {tk : Nat} (I : Inv X pins σ H s)
    (q : R (Itr lo (hi - lo).toNat) H) : wpAny (model X.prog X.w) X.A (pyIter (.ref s.heap.objs.size)) (PIE X pins σ tg R) E { s with heap := s.heap.push { cls := .type "range", data := .fields #[.int lo t, .int hi u, .int 1 v] }, toks := tk } := by
  cases hb : Builtin.Range.small lo hi 1 with
  | false => exact range_itL I hb q
  | true =>
    refine wpAny_pyIter_range (IsRange.new ..) hb ?_
    have I1 : Inv X pins σ H { s with heap := s.heap.push { cls := .type "range", data := .fields #[.int lo t, .int hi u, .int 1 v] }, toks := tk } := I.kept fun b o e => Heap.get?_push_of_some _ e
    refine ⟨(s.heap.push { cls := .type "range", data := .fields #[.int lo t, .int hi u, .int 1 v] }).objs.size, [(s.heap.push { cls := .type "range", data := .fields #[.int lo t, .int hi u, .int 1 v] }).objs.size], _, _, H, rfl,
      I1.kept (t' := tk) fun b o e => Heap.get?_push_of_some _ e, turn_range _ lo (hi - lo).toNat, ?_, fun b hb => ?_, q⟩
    · have e1 : lo + ((0 : Nat) : Int) * 1 = lo := by simp
      have e2 : (((hi - lo).toNat : Nat) : Int) - ((0 : Nat) : Int) = Builtin.Range.rangeSize lo hi 1 := by rw [rangeSize_one]; split <;> omega
      show IsRangeIter _ _ (lo + ((0 : Nat) : Int) * 1) ((((hi - lo).toNat : Nat) : Int) - ((0 : Nat) : Int)) 1
      rw [e1, e2]
      exact Heap.get?_push_size _ rfl
    · have e : b = (s.heap.push { cls := .type "range", data := .fields #[.int lo t, .int hi u, .int 1 v] }).objs.size := by simpa using hb
      subst e
      exact I1.fpOk (Nat.le_refl _) (I1.hok.fresh (Nat.le_refl _))
/-- range(j) of any j -/
def iRngA (ta : TA) : TI := fun σ H R => ta σ H fun vs H1 => ∃ j : Int, vs = [.int j] ∧ R (Itr 0 j.toNat) H1
theorem pi_rangeA {a : Expr} {ta : TA} {p pos : Pos} (hg : Gl X "range") (hm : X.mg "range" = none) (ha : PA X [a] ta) (hs : starEach [a] X.env = [(false, eval a X.env)] := by rfl) : PI X tg (.Call (.Name "range" p) [a] [] pos) (iRngA ta) := by
  refine ⟨fun pins s σ H R I h => ?_⟩
  refine Call_ (ld_blt I hg hm boot_range (PyProof.Rows.callWith_type1 (thn (ha.run pos pins s σ H _ I h) fun us s1 ⟨vs, H1, I1, r1, q1⟩ => ?_) hs rfl))
  obtain ⟨j, e, q⟩ := q1
  subst e
  cases r1 with
  | cons r rr =>
    cases rr
    obtain ⟨t, rfl⟩ := r
    exact call_range_1 (range_itA I1 (by simpa using q))
end
end L2
set_option pp.maxSteps 1500
set_option pp.deepTerms.threshold 8
/-! ### rests and finer, taken one by one -/
namespace My
open PySem PySem.Spec PyProof.Rows L2 GenW
abbrev s_rests : Stmt := topS 24
abbrev s_finer : Stmt := topS 25
/-- a callee that lets nothing out -/
theorem passNo {X : Cx} : Passes (L2.CX X.prog X.w) X (fun _ _ _ => False) := fun _ _ _ _ _ _ _ c => by
  obtain ⟨_, _, _, _, _, _, _, _, _, _, _, _, h⟩ := c
  exact h.elim
/-- it hands out f 0, f 1, .. f (n - 1) -/
def intG (n : Nat) (f : Nat → Int) : GSpec := ⟨fun _ => True, fun i Hw x H' => H' = Hw ∧ i < n ∧ x = .int (f i), fun _ _ _ => True, fun i Hw H' => H' = Hw ∧ i = n⟩
theorem for_intG {n : Nat} {f : Nat → Int} {te : TE} {D : GEn} {σ : L2.St} {H : Hp} (ix : Nat) (G : L2.St → Prop) (g0 : G σ) (gs : ∀ σ v, G σ → G (σ.set ix (some v))) (te_ok : ∀ i σ H Q, i < n → G σ → σ[ix]? = some (some (.int (0 + i))) → Q (.int (f i)) H → te σ H Q) (nx : ∀ σ Hw, D.nx n Hw σ Hw) (hl : ix < σ.length) :
    ∃ W : Nat → Nat → Nat → Hp → L2.St → Hp → Prop, (∃ m, W 0 m 0 H σ H) ∧ ∀ j m i Hw σ H, W j m i Hw σ H →
      ((Itr 0 n).stop j H ∧ D.nx i Hw σ H) ∨ ((Itr 0 n).go j H ∧ ∃ N : Nat → Hp → L2.St → Hp → Prop, (∀ i' Hw' σ' H', N i' Hw' σ' H' → ∃ m', m' < m ∧ W (j + 1) m' i' Hw' σ' H') ∧ ∀ x H', (Itr 0 n).yld j H x H' → gName ix x σ H' fun σ2 H2 =>
        (tG1then (tG1yield (intG n f).prt n te) tG1nil) { D with nx := N, ct := N, bk := D.nx } i Hw σ2 H2) := by
  refine ⟨fun j m i Hw σ H => m = n - j ∧ j ≤ n ∧ i = j ∧ Hw = H ∧ G σ ∧ ix < σ.length, ⟨n, by simp, Nat.zero_le _, rfl, rfl, g0, hl⟩, ?_⟩
  intro j m i Hw σ H hw
  obtain ⟨e1, hj, e2, e3, hg, hl⟩ := hw
  subst e1 e2 e3
  by_cases hlt : i < n
  · refine .inr ⟨hlt, fun i' Hw' σ' H' => i' = i + 1 ∧ Hw' = H' ∧ G σ' ∧ ix < σ'.length, fun i' Hw' σ' H' h => ⟨n - (i + 1), by omega, rfl, hlt, h.1, h.2.1, h.2.2.1, h.2.2.2⟩, fun x H' y => ?_⟩
    obtain ⟨e, ex⟩ := y
    subst e ex
    refine ⟨hlt, te_ok i _ _ _ hlt (gs _ _ hg) (by rw [List.getElem?_set_self hl]) ⟨⟨rfl, hlt, rfl⟩, fun H2 _ => ⟨rfl, rfl, gs _ _ hg, by rw [List.length_set]; exact hl⟩⟩⟩
  · have e : i = n := by omega
    subst e
    exact .inl ⟨Nat.le_refl _, nx σ _⟩
def spFiner : SpGn := fun vs gs => ∃ r m t : Int, vs = [.int r, .int m, .int t] ∧ 1 ≤ m ∧ 0 ≤ r ∧ r < m ∧ 1 ≤ t ∧ (∀ i : Nat, i < t.toNat → CMulW m i) ∧ gs = intG t.toNat fun i => r + m * i
def spRests : SpGn := fun vs gs => ∃ m : Int, vs = [.int m] ∧ 1 ≤ m ∧ gs = intG m.toNat fun i => (i : Int)
section
variable {P : Program} {w : World} {K : PySem.W.Frag} {mg : Str → Option Value} {base : Heap} {CLine CB fB CR fR CN fN : Addr} {tG : Tok}
theorem gs_rests : GScope ["modulus", "rest"] ["modulus"] (defScope s_rests) := ⟨rfl, rfl, rfl, by decide +kernel, rfl, by decide +kernel, by decide +kernel⟩
theorem gs_finer : GScope ["rest", "modulus", "times", "turn"] ["rest", "modulus", "times"] (defScope s_finer) := ⟨rfl, rfl, rfl, by decide +kernel, rfl, by decide +kernel, by decide +kernel⟩
theorem ok_rests {f : Addr} {dV kV doc pm cdv ct oc : Value} {an od : Option Addr} {osl : Array (Option Value)} (lk : K.lookup f = some ⟨oc, od, .func (PySem.W.fnOf "rests" "rests" (defArgs s_rests) (defBody s_rests) (defScope s_rests) dV kV doc pm an cdv ct), osl⟩) (hcd : PySem.W.codeIn K cdv "rests" = true)
    (z_range : mg "range" = none) (D_needmod : DefAt P w K mg base (L2.CX P w) 3 "need_modulus" ["modulus"] (spNeedM CB)) : GDef P w K mg base 5 f (PySem.W.fnOf "rests" "rests" (defArgs s_rests) (defBody s_rests) (defScope s_rests) dV kV doc pm an cdv ct) ["modulus"] spRests := by
  refine gdef_of (k := 3) lk hcd gs_rests (by decide +kernel) (fun vs gs h => ?_) fun A outer L vs gs hr h => ?_
  · obtain ⟨m, rfl, _⟩ := h
    rfl
  · obtain ⟨m, rfl, hm, rfl⟩ := h
    refine ⟨m.toNat, _, g1s_cons (g1_ps fun r => ps_expr (My.pe_d D_needmod hr (by rfl) passNo (pa_cons (pv 0) pa_nil))) (g1s_cons (g1_for (fun r => pi_rangeA rfl z_range (pa_cons (pv 0) pa_nil)) (fun r => pg_name (i := 1) gs_rests.nd rfl (Or.inl rfl)) (g1s_cons (g1_yield (fun r => pv 1)) g1s_nil)) g1s_nil), fun H _ => ?_⟩
    refine ⟨_, rfl, .int m, _, rfl, .int m, fun m' em _ => ?_, fun lo => ?_⟩
    · cases em
      refine ⟨_, rfl, m, rfl, ?_⟩
      exact for_intG 1 (fun _ => True) trivial (fun _ _ _ => trivial) (fun i σ H Q _ _ e q => ⟨_, e, by rw [Int.zero_add]; exact q⟩) (fun σ Hw => ⟨rfl, rfl⟩) (by show 1 < 2; decide)
    · rcases lo with z | ⟨m', em, z⟩
      · cases z
      · cases em
        omega
theorem ok_finer {f : Addr} {dV kV doc pm cdv ct oc : Value} {an od : Option Addr} {osl : Array (Option Value)} (lk : K.lookup f = some ⟨oc, od, .func (PySem.W.fnOf "finer" "finer" (defArgs s_finer) (defBody s_finer) (defScope s_finer) dV kV doc pm an cdv ct), osl⟩) (hcd : PySem.W.codeIn K cdv "finer" = true)
    (z_range : mg "range" = none) (D_isint : DefAt P w K mg base CX0 1 "is_integer" ["thing"] spIsint) (D_needmod : DefAt P w K mg base (L2.CX P w) 3 "need_modulus" ["modulus"] (spNeedM CB)) (D_needrest : DefAt P w K mg base (L2.CX P w) 3 "need_rest" ["rest", "modulus"] (spNeed CR)) : GDef P w K mg base 5 f (PySem.W.fnOf "finer" "finer" (defArgs s_finer) (defBody s_finer) (defScope s_finer) dV kV doc pm an cdv ct) ["rest", "modulus", "times"] spFiner := by
  refine gdef_of (k := 3) lk hcd gs_finer (by decide +kernel) (fun vs gs h => ?_) fun A outer L vs gs hr h => ?_
  · obtain ⟨r, m, t, rfl, _⟩ := h
    rfl
  · obtain ⟨r, m, t, rfl, hm, r0, r1, t1, cm, rfl⟩ := h
    refine ⟨t.toNat, _, g1s_cons (g1_ps fun r => ps_expr (My.pe_d D_needmod hr (by rfl) passNo (pa_cons (pv 1) pa_nil))) (g1s_cons (g1_ps fun r => ps_expr (My.pe_d D_needrest hr (by rfl) passNo (pa_cons (pv 0) (pa_cons (pv 1) pa_nil))))
      (g1s_cons (g1_ps fun r => ps_if (PW.pt (pw_or (pt_not (pt_val (My.pe_d D_isint (hr.mono (by decide)) (by rfl) pass0 (pa_cons (pv 2) pa_nil)))) (pw_or1 (pt_cmpR op_lt (pv 2) pe_int (nomark _))))) (pss_one ps_never) pss_nil)
      (g1s_cons (g1_for (fun r => pi_rangeA rfl z_range (pa_cons (pv 2) pa_nil)) (fun r => pg_name (i := 3) gs_finer.nd rfl (Or.inl rfl)) (g1s_cons (g1_yield (fun r => pe_op op_add (pv 0) (pe_op op_mulW (pv 1) (pv 3)))) g1s_nil)) g1s_nil))), fun H _ => ?_⟩
    refine ⟨_, rfl, .int m, _, rfl, .int m, fun m' em _ => ?_, fun lo => ?_⟩
    · cases em
      refine ⟨_, rfl, _, rfl, .int r, _, m, rfl, .int r, fun r' er _ _ => ?_, fun no => ?_⟩
      · cases er
        refine ⟨_, rfl, .int t, _, rfl, .int t, _, rfl, iteF ⟨_, rfl, _, _, rfl, rfl, _, rfl, ?_⟩⟩
        rw [decide_eq_false (show ¬ t < 1 by omega)]
        refine iteF ⟨_, rfl, t, rfl, ?_⟩
        refine for_intG 3 (fun σ => σ[0]? = some (some (.int r)) ∧ σ[1]? = some (some (.int m))) ⟨rfl, rfl⟩ (fun σ v g => ⟨by rw [List.getElem?_set_ne (by decide)]; exact g.1, by rw [List.getElem?_set_ne (by decide)]; exact g.2⟩) (fun i σ H Q hi g e q => ?_) (fun σ Hw => ⟨rfl, rfl⟩) (by show 3 < 4; decide)
        exact ⟨_, g.1, _, g.2, _, e, m, _, rfl, rfl, by rw [Int.zero_add]; exact cm i hi, _, _, rfl, rfl, by rw [Int.zero_add]; exact q⟩
      · rcases no with z | ⟨r', er, z⟩
        · cases z
        · cases er
          exact absurd ⟨r0, r1⟩ z
    · rcases lo with z | ⟨m', em, z⟩
      · cases z
      · cases em
        omega
end
end My
set_option pp.maxSteps 1500
set_option pp.deepTerms.threshold 8
/-! ### rests and finer refused -/
namespace My
open PySem PySem.Spec PyProof.Rows L2 GenW
theorem gs_never {X : Cx} {st : Stmt} : GS X st (fun _ _ _ _ => False) := ⟨fun A S ip R n ys s₀ c fs K J gd lv s σ H D _ _ _ _ h => h.elim⟩
def spRestsE (CB : Addr) : SpG := fun vs H _ E => ∃ (v : V) (t : String), vs = [v] ∧ Ty0 H v t ∧ Low v 1 ∧ Errs E CB "part" (.str "modulus") H
def spFinerE (CB CR : Addr) : SpG := fun vs H _ E => ∃ (rv wv tv : V) (tr tw tt : String), vs = [rv, wv, tv] ∧ Ty0 H rv tr ∧ Ty0 H wv tw ∧ Ty0 H tv tt ∧
  ((Low wv 1 ∧ Errs E CB "part" (.str "modulus") H) ∨ (∃ m, wv = .int m ∧ 1 ≤ m ∧ NoRest rv m ∧ Errs E CR "value" rv H) ∨ (∃ r m, wv = .int m ∧ 1 ≤ m ∧ rv = .int r ∧ 0 ≤ r ∧ r < m ∧ Low tv 1 ∧ Errs E CB "part" (.str "times") H))
section
variable {P : Program} {w : World} {K : PySem.W.Frag} {mg : Str → Option Value} {base : Heap} {CLine CB fB CR fR CN fN : Addr} {tG : Tok}
theorem ok_restsE {f : Addr} {dV kV doc pm cdv ct oc : Value} {an od : Option Addr} {osl : Array (Option Value)} (lk : K.lookup f = some ⟨oc, od, .func (PySem.W.fnOf "rests" "rests" (defArgs s_rests) (defBody s_rests) (defScope s_rests) dV kV doc pm an cdv ct), osl⟩) (hcd : PySem.W.codeIn K cdv "rests" = true)
    (D_needmod : DefAt P w K mg base (L2.CX P w) 3 "need_modulus" ["modulus"] (spNeedM CB)) : GFn P w K mg base 4 f (PySem.W.fnOf "rests" "rests" (defArgs s_rests) (defBody s_rests) (defScope s_rests) dV kV doc pm an cdv ct) ["modulus"] (spRestsE CB) := by
  refine gfn_of (k := 3) lk hcd gs_rests (fun vs H Q E h => ?_) fun A outer s H vs Q E pn hr h => ?_
  · obtain ⟨v, t, rfl, _⟩ := h
    rfl
  · obtain ⟨v, t, rfl, ty, lo, k⟩ := h
    refine ⟨_, gss_cons (gs_ps (ps_expr (My.pe_d D_needmod hr (by rfl) (passes_call takes_gcx (fun _ _ _ _ h => h)) (pa_cons (pv 0) pa_nil)))) (gss_cons gs_never gss_nil), ?_⟩
    refine ⟨_, rfl, v, t, rfl, ty, fun m em hm => ?_, fun _ => k⟩
    subst em
    rcases lo with z | ⟨m', e, z⟩
    · cases z
    · cases e
      omega
theorem ok_finerE {f : Addr} {dV kV doc pm cdv ct oc : Value} {an od : Option Addr} {osl : Array (Option Value)} (lk : K.lookup f = some ⟨oc, od, .func (PySem.W.fnOf "finer" "finer" (defArgs s_finer) (defBody s_finer) (defScope s_finer) dV kV doc pm an cdv ct), osl⟩) (hcd : PySem.W.codeIn K cdv "finer" = true)
    (T : LTx P K mg CLine CB fB CR fR) (D_isint : DefAt P w K mg base CX0 1 "is_integer" ["thing"] spIsint) (D_needmod : DefAt P w K mg base (L2.CX P w) 3 "need_modulus" ["modulus"] (spNeedM CB)) (D_needrest : DefAt P w K mg base (L2.CX P w) 3 "need_rest" ["rest", "modulus"] (spNeed CR)) : GFn P w K mg base 4 f (PySem.W.fnOf "finer" "finer" (defArgs s_finer) (defBody s_finer) (defScope s_finer) dV kV doc pm an cdv ct) ["rest", "modulus", "times"] (spFinerE CB CR) := by
  refine gfn_of (k := 3) lk hcd gs_finer (fun vs H Q E h => ?_) fun A outer s H vs Q E pn hr h => ?_
  · obtain ⟨rv, wv, tv, tr, tw, tt, rfl, _⟩ := h
    rfl
  · obtain ⟨rv, wv, tv, tr, tw, tt, rfl, tyr, tyw, tyt, h⟩ := h
    refine ⟨_, gss_cons (gs_ps (ps_expr (My.pe_d D_needmod hr (by rfl) (passes_call takes_gcx (fun _ _ _ _ h => h)) (pa_cons (pv 1) pa_nil)))) (gss_cons (gs_ps (ps_expr (My.pe_d D_needrest hr (by rfl) (passes_call takes_gcx (fun _ _ _ _ h => h)) (pa_cons (pv 0) (pa_cons (pv 1) pa_nil)))))
      (gss_cons (gs_ps (ps_if (PW.pt (pw_or (pt_not (pt_val (My.pe_d D_isint (hr.mono (by decide)) (by rfl) pass0 (pa_cons (pv 2) pa_nil)))) (pw_or1 (pt_cmpR op_lt (pv 2) pe_int (nomark _))))) (pss_one (ps_raise1 rfl T.e_BadLine (hr.mono (by decide) : Room 0 _) takes_gcx (pa_cons pe_str pa_nil))) pss_nil))
      (gss_cons gs_never gss_nil))), ?_⟩
    refine ⟨_, rfl, wv, tw, rfl, tyw, fun m em hm => ?_, fun lo => ?_⟩
    · subst em
      have nlo : ¬ Low (.int m) 1 := fun lo => by
        rcases lo with z | ⟨m', e, z⟩
        · cases z
        · cases e
          omega
      refine ⟨_, rfl, _, rfl, rv, tr, m, rfl, tyr, fun r er r0 r1 => ?_, fun no => ?_⟩
      · subst er
        rcases h with ⟨lo, _⟩ | ⟨m', em, _, no, _⟩ | ⟨r', m', em, _, er, _, _, lo, k⟩
        · exact absurd lo nlo
        · cases em
          rcases no with z | ⟨r', er, z⟩
          · cases z
          · cases er
            exact absurd ⟨r0, r1⟩ z
        · refine ⟨_, rfl, tv, tt, rfl, tyt, _, rfl, ?_⟩
          cases e : isI tv with
          | false => exact iteT (iteT ⟨_, rfl, fun d hd => k.go hd⟩)
          | true =>
            obtain ⟨t, rfl⟩ := isI_int e
            refine iteF ⟨_, rfl, _, _, rfl, rfl, _, rfl, ?_⟩
            have : t < 1 := by
              rcases lo with z | ⟨t', et, z⟩
              · cases z
              · cases et
                exact z
            rw [decide_eq_true this]
            exact iteT ⟨_, rfl, fun d hd => k.go hd⟩
      · rcases h with ⟨lo, _⟩ | ⟨m', em, _, _, k⟩ | ⟨r', m', em, _, er, r0, r1, _⟩
        · exact absurd lo nlo
        · exact k
        · cases em
          subst er
          rcases no with z | ⟨r'', er, z⟩
          · cases z
          · cases er
            exact absurd ⟨r0, r1⟩ z
    · rcases h with ⟨_, k⟩ | ⟨m, em, hm, _⟩ | ⟨r, m, em, hm, _⟩
      · exact k
      · subst em
        rcases lo with z | ⟨m', e, z⟩
        · cases z
        · cases e
          omega
      · subst em
        rcases lo with z | ⟨m', e, z⟩
        · cases z
        · cases e
          omega
end
end My
namespace My
open PySem PySem.Spec PyProof.Rows L2
abbrev s_heard : Stmt := topS 30
theorem sc_heard : FnScope ["_law_ask", "_law_caught", "error", "_law_found"] ["_law_ask"] (defScope s_heard) := ⟨rfl, rfl, rfl, by decide +kernel, rfl, by decide +kernel, by decide +kernel⟩
/-- what the top has written of the errors' classes -/
structure HTx (P : Program) (K : PySem.W.Frag) (mg : Str → Option Value) (CE CB fB CR fR CN fN : Addr) : Prop extends BI mg where
  gClip : mg "ClipError" = some (.ref CE)
  e_BadLine : Sup.Err1 P K mg "BadLine" "part" CB fB
  e_BadRest : Sup.Err1 P K mg "BadRest" "value" CR fR
  e_BadLength : Sup.Err1 P K mg "BadLength" "value" CN fN
  xN : PySem.W.exmOne K (.ref CN) (.ref CE) = some true
  kN : ExcK K CN
  iNR : PySem.W.kitOne K (.ref CN) (.ref CR) = some false
  iNN : PySem.W.kitOne K (.ref CN) (.ref CN) = some true
  iNB : PySem.W.kitOne K (.ref CN) (.ref CB) = some false
  iBN : PySem.W.kitOne K (.ref CB) (.ref CN) = some false
  iRN : PySem.W.kitOne K (.ref CR) (.ref CN) = some false
  iRB : PySem.W.kitOne K (.ref CR) (.ref CB) = some false
  xB : PySem.W.exmOne K (.ref CB) (.ref CE) = some true
  xR : PySem.W.exmOne K (.ref CR) (.ref CE) = some true
  kB : ExcK K CB
  kR : ExcK K CR
  iBB : PySem.W.kitOne K (.ref CB) (.ref CB) = some true
  iRR : PySem.W.kitOne K (.ref CR) (.ref CR) = some true
  iBR : PySem.W.kitOne K (.ref CB) (.ref CR) = some false
  sB : PySem.W.subIn K (.ref CB) (.type "StopIteration") = some false
  sR : PySem.W.subIn K (.ref CR) (.type "StopIteration") = some false
/-- what heard hands back of an error -/
def WHeard (K : PySem.W.Frag) (CB CR CN : Addr) (Q : VK) : XK := fun cls d H => (∃ dd v, cls = .ref CB ∧ d = some dd ∧ H dd = some (.xd [("part", v)]) ∧ ∀ t H', H t = none → Same H H' → H' t = some (.tup [.str "part", v]) → Q (.ref t) H') ∨
  (∃ (C : Addr) (x : Str) (dd : Addr) (v : V) (dat : PyData), ((C = CR ∧ x = "rest") ∨ (C = CN ∧ x = "length")) ∧ cls = .ref C ∧ d = some dd ∧ H dd = some (.xd [("value", v)]) ∧ Dr K H v dat ∧ dat.showable = true ∧ dat.depth ≤ 60 ∧ dat.shown.length ≤ sizeLine ∧ ∀ t H', H t = none → Same H H' → H' t = some (.tup [.str x, .str dat.shown]) → Q (.ref t) H')
/-- it is always refused -/
def THeard (K : PySem.W.Frag) (CB CR CN : Addr) : (XK → Hp → VK → Prop) → Hp → VK → Prop := fun tl H Q => ∀ Q' : VK, tl (WHeard K CB CR CN Q) H Q'
theorem four {σ : List (Option V)} (h : σ.length = 4) : ∃ x y z u, σ = [x, y, z, u] := by
  match σ, h with
  | [x, y, z, u], _ => exact ⟨x, y, z, u, rfl⟩
theorem heard_gives {X : Cx} {CE CB fB CR fR CN fN : Addr} (T : HTx X.prog X.K X.mg CE CB fB CR fR CN fN) {k : Nat} (hrX : Room (k + 1) X.A) (hgX : X.A.guards = some []) {g : Addr} {cdg : Value} {q : Str} :
    LamX.GivesTo X ["_law_ask", "_law_caught", "error", "_law_found"] "_law_heard" (defScope s_heard) g cdg (defBody s_heard) "_law_ask" q (THeard X.K CB CR CN) := by
  intro f c' s H Q tl act hc h
  have hr : Room k (cxOf C8.CX0 X.prog X.w X.K X.mg X.base ["_law_ask", "_law_caught", "error", "_law_found"] "_law_heard" (defScope s_heard) g cdg X.A X.stack s H C8.E0).nox.A := hrX.deeper _
  have hgd : (cxOf C8.CX0 X.prog X.w X.K X.mg X.base ["_law_ask", "_law_caught", "error", "_law_found"] "_law_heard" (defScope s_heard) g cdg X.A X.stack s H C8.E0).nox.A.guards = some [] := hgX
  refine ⟨_, (pss_cons (ps_set (i := 1) sc_heard.nd rfl (Or.inl rfl) pe_non)
      (pss_cons (My.ps_try_keep (X := (cxOf C8.CX0 X.prog X.w X.K X.mg X.base ["_law_ask", "_law_caught", "error", "_law_found"] "_law_heard" (defScope s_heard) g cdg X.A X.stack s H C8.E0).nox) (i := 2) (j := 1) (c := .ref CE) (tb := fun W D σ H => ∃ Ech : XK, (∀ cls d σ' H', Ech cls d H' → W cls d σ' H') ∧ σ[0]? = some (some (.ref f)) ∧ H c' = some (LamX.CodeO c' q) ∧ tl Ech H fun _ H' => D.nx σ H') (Wout := fun _ _ _ _ => False) rfl rfl sc_heard.nd rfl rfl rfl rfl rfl ⟨rfl, by decide, .inl T.gClip⟩ LamX.takes0 (fun W pn xe tk _ => ?_))
      (pss_cons (ps_set (i := 3) sc_heard.nd rfl (Or.inl rfl) (pe_lst pa_nil))
      (pss_cons (ps_if (pt_val (pe_callB My.call_isA (by rfl) T.z_isinstance boot_isinstance (pa_cons (pv 1) (pa_cons (pe_glob (v := .ref CR) (by rfl) T.e_BadRest.gC rfl) pa_nil)))) (pss_one (ps_expr (pe_bm PySem.F.plainAttrs_list PySem.F.slot_list_append PySem.F.type_list_append mt_append (pv 3) (pa_cons (pe_tup (pa_cons pe_str (pa_cons (pe_callB (My.call_repr hgd hr) (by rfl) T.z_repr boot_repr (pa_cons (My.pe_xa (pv 1)) pa_nil)) pa_nil))) pa_nil)))) pss_nil)
      (pss_cons (ps_if (pt_val (pe_callB My.call_isA (by rfl) T.z_isinstance boot_isinstance (pa_cons (pv 1) (pa_cons (pe_glob (v := .ref CN) (by rfl) T.e_BadLength.gC rfl) pa_nil)))) (pss_one (ps_expr (pe_bm PySem.F.plainAttrs_list PySem.F.slot_list_append PySem.F.type_list_append mt_append (pv 3) (pa_cons (pe_tup (pa_cons pe_str (pa_cons (pe_callB (My.call_repr hgd hr) (by rfl) T.z_repr boot_repr (pa_cons (My.pe_xa (pv 1)) pa_nil)) pa_nil))) pa_nil)))) pss_nil)
      (pss_cons (ps_if (pt_val (pe_callB My.call_isA (by rfl) T.z_isinstance boot_isinstance (pa_cons (pv 1) (pa_cons (pe_glob (v := .ref CB) (by rfl) T.e_BadLine.gC rfl) pa_nil)))) (pss_one (ps_expr (pe_bm PySem.F.plainAttrs_list PySem.F.slot_list_append PySem.F.type_list_append mt_append (pv 3) (pa_cons (pe_tup (pa_cons pe_str (pa_cons (My.pe_xa (pv 1)) pa_nil))) pa_nil)))) pss_nil)
      (pss_cons (ps_if (pt_cmpR op_isN (pv 1) pe_non (nomark _)) (pss_one (ps_ret pe_non)) pss_nil)
      (pss_one (ps_ret (pe_ifExp (pt_cmpR op_eq (pe_callB call_len (by rfl) T.z_len PySem.boot_len (pa_cons (pv 3) pa_nil)) pe_int (nomark _)) (pe_ix ix_list (pv 3) pe_int (fun _ _ => rfl)) (pe_tup (pa_cons pe_str pa_nil)))))))))))), ?_⟩
  · refine ⟨fun pins s' σ H' D I h' => ?_⟩
    obtain ⟨Ech, hW, h1, h2, h3⟩ := h'
    exact (pss_one (ps_expr (act W pn xe Ech _ _ tk hW))).run pins s' σ H' D I ⟨h1, h2, h3⟩
  · refine ⟨WHeard X.K CB CR CN Q, ?_, rfl, hc, h _⟩
    intro cls d σ' H' hw
    rcases hw with ⟨dd, v, rfl, rfl, hd, kk⟩ | ⟨C, x, dd, v, dat, hC, rfl, rfl, hd, hdr, hs1, hs2, hs3, kk⟩
    · refine ⟨true, T.xB, fun _ a na hl => ?_, fun z => Bool.noConfusion z⟩
      obtain ⟨x0, x1, x2, x3, rfl⟩ := four hl
      have hd' := same_new (o := ExA (.ref CB) (some dd) a) na _ _ hd
      have ha : upd H' a (ExA (.ref CB) (some dd) a) a = some (ExA (.ref CB) (some dd) a) := upd_same
      have sa : Same H' (upd H' a (ExA (.ref CB) (some dd) a)) := same_new na
      generalize upd H' a (ExA (.ref CB) (some dd) a) = H1 at ha hd' sa ⊢
      refine ⟨(by show 0 ≤ sizeLine; decide), fun l hl => ?_⟩
      have s1 := same_new (o := .lst []) hl
      have L1 : upd H1 l (.lst []) l = some (.lst []) := upd_same
      have ha1 := s1 _ _ ha
      have hd1 := s1 _ _ hd'
      have S1 := sa.trans s1
      generalize upd H1 l (.lst []) = H2 at L1 ha1 hd1 S1 ⊢
      refine ⟨_, rfl, a, CB, dd, _, _, _, false, rfl, .own _, T.kB, ha1, hd1, T.iBR, _, rfl, iteF ?_⟩
      refine ⟨_, rfl, a, CB, dd, _, _, _, false, rfl, .own _, T.kB, ha1, hd1, T.iBN, _, rfl, iteF ?_⟩
      refine ⟨_, rfl, a, CB, dd, _, _, _, true, rfl, .own _, T.kB, ha1, hd1, T.iBB, _, rfl, iteT ?_⟩
      refine ⟨_, rfl, .inl ⟨rfl, _, SqL.of L1⟩, _, rfl, a, CB, dd, _, v, rfl, ha1, hd1, T.e_BadLine.rd, T.e_BadLine.nf, by simp [List.lookup], (by show 2 ≤ sizeLine; decide), fun t ht => ?_⟩
      have s2 := same_new (o := .tup [.str "part", v]) ht
      refine ⟨l, [], .ref t, rfl, rfl, s2 _ _ L1, (by show 0 + 1 ≤ sizeLine; decide), ?_⟩
      have eL : upd (upd H2 t (.tup [.str "part", v])) l (.lst ([] ++ [V.ref t])) l = some (.lst [.ref t]) := upd_same
      have nlt : t ≠ l := fun z => by rw [z, L1] at ht; cases ht
      have eT : upd (upd H2 t (.tup [.str "part", v])) l (.lst ([] ++ [V.ref t])) t = some (.tup [.str "part", v]) := (upd_ne nlt).trans upd_same
      have lH : H' l = none := sa.free hl
      have S3 : Same H' (upd (upd H2 t (.tup [.str "part", v])) l (.lst ([] ++ [V.ref t]))) := fun b o e => by
        rw [upd_ne (ne_of_none e lH)]
        exact s2 _ _ (S1 _ _ e)
      refine ⟨_, rfl, rfl, _, rfl, ?_⟩
      rw [decide_eq_false (show ¬ V.ref a = V.non from fun z => nomatch z)]
      refine iteF ⟨_, rfl, _, _, rfl, .inl ⟨_, SqL.of eL, rfl⟩, rfl, _, rfl, iteT ?_⟩
      exact ⟨_, rfl, l, _, _, _, rfl, rfl, SqL.of eL, rfl, kk t _ (S1.free ht) S3 eT⟩
    · rcases hC with ⟨eC, eX⟩ | ⟨eC, eX⟩
      all_goals
        have eC' := eC.symm
        subst eC' eX
      · refine ⟨true, T.xR, fun _ a na hl => ?_, fun z => Bool.noConfusion z⟩
        obtain ⟨x0, x1, x2, x3, rfl⟩ := four hl
        have hd' := same_new (o := ExA (.ref CR) (some dd) a) na _ _ hd
        have ha : upd H' a (ExA (.ref CR) (some dd) a) a = some (ExA (.ref CR) (some dd) a) := upd_same
        have sa : Same H' (upd H' a (ExA (.ref CR) (some dd) a)) := same_new na
        generalize upd H' a (ExA (.ref CR) (some dd) a) = H1 at ha hd' sa ⊢
        refine ⟨(by show 0 ≤ sizeLine; decide), fun l hl => ?_⟩
        have s1 := same_new (o := .lst []) hl
        have L1 : upd H1 l (.lst []) l = some (.lst []) := upd_same
        have ha1 := s1 _ _ ha
        have hd1 := s1 _ _ hd'
        have S1 := sa.trans s1
        generalize upd H1 l (.lst []) = H2 at L1 ha1 hd1 S1 ⊢
        refine ⟨_, rfl, a, CR, dd, _, _, _, true, rfl, .own _, T.kR, ha1, hd1, T.iRR, _, rfl, iteT ?_⟩
        refine ⟨_, rfl, .inl ⟨rfl, _, SqL.of L1⟩, _, rfl, a, CR, dd, _, v, rfl, ha1, hd1, T.e_BadRest.rd, T.e_BadRest.nf, by simp [List.lookup], v, dat, rfl, dr_same S1 hdr, hs1, hs2, hs3, (by show 2 ≤ sizeLine; decide), fun t ht => ?_⟩
        have s2 := same_new (o := .tup [.str "rest", .str dat.shown]) ht
        refine ⟨l, [], .ref t, rfl, rfl, s2 _ _ L1, (by show 0 + 1 ≤ sizeLine; decide), ?_⟩
        have eL : upd (upd H2 t (.tup [.str "rest", .str dat.shown])) l (.lst ([] ++ [V.ref t])) l = some (.lst [.ref t]) := upd_same
        have nlt : t ≠ l := fun z => by rw [z, L1] at ht; cases ht
        have eT : upd (upd H2 t (.tup [.str "rest", .str dat.shown])) l (.lst ([] ++ [V.ref t])) t = some (.tup [.str "rest", .str dat.shown]) := (upd_ne nlt).trans upd_same
        have lH : H' l = none := sa.free hl
        have S3 : Same H' (upd (upd H2 t (.tup [.str "rest", .str dat.shown])) l (.lst ([] ++ [V.ref t]))) := fun b o e => by
          rw [upd_ne (ne_of_none e lH)]
          exact s2 _ _ (S1 _ _ e)
        have ha3 : upd (upd H2 t (.tup [.str "rest", .str dat.shown])) l (.lst ([] ++ [V.ref t])) a = some (ExA (.ref CR) (some dd) a) := (upd_ne fun z => by rw [z, L1] at ha1; cases ha1).trans (s2 _ _ ha1)
        have hd3 := S3 _ _ hd
        refine ⟨_, rfl, a, CR, dd, _, _, _, false, rfl, .own _, T.kR, ha3, hd3, T.iRN, _, rfl, iteF ?_⟩
        refine ⟨_, rfl, a, CR, dd, _, _, _, false, rfl, .own _, T.kR, ha3, hd3, T.iRB, _, rfl, iteF ?_⟩
        refine ⟨_, rfl, rfl, _, rfl, ?_⟩
        rw [decide_eq_false (show ¬ V.ref a = V.non from fun z => nomatch z)]
        refine iteF ⟨_, rfl, _, _, rfl, .inl ⟨_, SqL.of eL, rfl⟩, rfl, _, rfl, iteT ?_⟩
        exact ⟨_, rfl, l, _, _, _, rfl, rfl, SqL.of eL, rfl, kk t _ (S1.free ht) S3 eT⟩
      · refine ⟨true, T.xN, fun _ a na hl => ?_, fun z => Bool.noConfusion z⟩
        obtain ⟨x0, x1, x2, x3, rfl⟩ := four hl
        have hd' := same_new (o := ExA (.ref CN) (some dd) a) na _ _ hd
        have ha : upd H' a (ExA (.ref CN) (some dd) a) a = some (ExA (.ref CN) (some dd) a) := upd_same
        have sa : Same H' (upd H' a (ExA (.ref CN) (some dd) a)) := same_new na
        generalize upd H' a (ExA (.ref CN) (some dd) a) = H1 at ha hd' sa ⊢
        refine ⟨(by show 0 ≤ sizeLine; decide), fun l hl => ?_⟩
        have s1 := same_new (o := .lst []) hl
        have L1 : upd H1 l (.lst []) l = some (.lst []) := upd_same
        have ha1 := s1 _ _ ha
        have hd1 := s1 _ _ hd'
        have S1 := sa.trans s1
        generalize upd H1 l (.lst []) = H2 at L1 ha1 hd1 S1 ⊢
        refine ⟨_, rfl, a, CN, dd, _, _, _, false, rfl, .own _, T.kN, ha1, hd1, T.iNR, _, rfl, iteF ?_⟩
        refine ⟨_, rfl, a, CN, dd, _, _, _, true, rfl, .own _, T.kN, ha1, hd1, T.iNN, _, rfl, iteT ?_⟩
        refine ⟨_, rfl, .inl ⟨rfl, _, SqL.of L1⟩, _, rfl, a, CN, dd, _, v, rfl, ha1, hd1, T.e_BadLength.rd, T.e_BadLength.nf, by simp [List.lookup], v, dat, rfl, dr_same S1 hdr, hs1, hs2, hs3, (by show 2 ≤ sizeLine; decide), fun t ht => ?_⟩
        have s2 := same_new (o := .tup [.str "length", .str dat.shown]) ht
        refine ⟨l, [], .ref t, rfl, rfl, s2 _ _ L1, (by show 0 + 1 ≤ sizeLine; decide), ?_⟩
        have eL : upd (upd H2 t (.tup [.str "length", .str dat.shown])) l (.lst ([] ++ [V.ref t])) l = some (.lst [.ref t]) := upd_same
        have nlt : t ≠ l := fun z => by rw [z, L1] at ht; cases ht
        have eT : upd (upd H2 t (.tup [.str "length", .str dat.shown])) l (.lst ([] ++ [V.ref t])) t = some (.tup [.str "length", .str dat.shown]) := (upd_ne nlt).trans upd_same
        have lH : H' l = none := sa.free hl
        have S3 : Same H' (upd (upd H2 t (.tup [.str "length", .str dat.shown])) l (.lst ([] ++ [V.ref t]))) := fun b o e => by
          rw [upd_ne (ne_of_none e lH)]
          exact s2 _ _ (S1 _ _ e)
        have ha3 : upd (upd H2 t (.tup [.str "length", .str dat.shown])) l (.lst ([] ++ [V.ref t])) a = some (ExA (.ref CN) (some dd) a) := (upd_ne fun z => by rw [z, L1] at ha1; cases ha1).trans (s2 _ _ ha1)
        have hd3 := S3 _ _ hd
        refine ⟨_, rfl, a, CN, dd, _, _, _, false, rfl, .own _, T.kN, ha3, hd3, T.iNB, _, rfl, iteF ?_⟩
        refine ⟨_, rfl, rfl, _, rfl, ?_⟩
        rw [decide_eq_false (show ¬ V.ref a = V.non from fun z => nomatch z)]
        refine iteF ⟨_, rfl, _, _, rfl, .inl ⟨_, SqL.of eL, rfl⟩, rfl, _, rfl, iteT ?_⟩
        exact ⟨_, rfl, l, _, _, _, rfl, rfl, SqL.of eL, rfl, kk t _ (S1.free ht) S3 eT⟩
/-- heard as it stands in the module -/
structure HeardAt (K : PySem.W.Frag) (mg : Str → Option Value) : Prop where
  ex : ∃ g fd, Fun K "_law_heard" "_law_heard" s_heard g fd ∧ mg "_law_heard" = some (.ref g) ∧ L2.Binds K fd ["_law_ask"] []
/-- heard(lambda: body) -/
theorem pe_heard {X : Cx} {CE CB fB CR fR CN fN : Addr} {TS : List (Addr × Str)} {c P : Addr} {k : Nat} {params : Arguments} {body : Expr} {scope : Scope} {t : XK → TE} {p lpos pos : Pos}
    (D : HeardAt X.K X.mg) (T : HTx X.prog X.K X.mg CE CB fB CR fR CN fN) (hgd : X.A.guards = some []) (hr : Room (k + 2) X.A) (TB : LamX.TabB X.base X.mg c P) (hcode : X.env.code = .ref c) (hmT : (P, X.env.qual ++ "<lambda>") ∈ TS) (hu : ∀ p ∈ TS, p.1 = P → p.2 = X.env.qual ++ "<lambda>")
    (hg : Gl X "_law_heard") (L : LamX.LamS X.env.scope scope) (hdef : defaultsOf params X.env = ([], []))
    (hbind : ∀ (q : Str) (cl : List (Str × Addr)) (pm cv ctv : Value), bindArgs (PySem.W.kla_fn "<lambda>" q params body scope cl pm cv ctv) ⟨[], []⟩ = pure [])
    (hbody : ∀ (A : Around) (outer : List Env) (s : Shared) (H : Hp) (E : XK) (f c' : Addr), Room k (A.deeper (LamX.lamEnv X scope s.heap.objs.size f c')) → PE (LamX.lamCx X A outer s H E scope f c') body (t E)) :
    PE X (.Call (.Name "_law_heard" p) [.Lambda params body scope lpos] [] pos) (LamX.tLam TS (THeard X.K CB CR CN) t) := by
  obtain ⟨g, fd, F, hm, hb⟩ := D.ex
  have kp := F.kp
  obtain ⟨oc, od, kV, doc, pm, an, cdv, ct, osl, rfl, lk, hcd⟩ := F.ex
  exact LamX.pe_lamcall hg hm kp lk hcd hb sc_heard rfl (Or.inl rfl) (heard_gives (k := k) T (hr.mono (by omega)) hgd) TB hcode hmT hu hr L hdef hbind hbody (by decide) (by decide) (by decide)
/-! ### tables of code objects, the pen, and all else -/
theorem line_kp {pn : Addr} {TS : List (Addr × Str)} {C p : Addr} {H H' : Hp} {n : Nat} {a b : Int} (h : LineAt C H p a b) (hp : PenAt H pn n) (k : Kp pn TS H H') : LineAt C H' p a b := by
  obtain ⟨dx, e⟩ := h
  obtain ⟨cl, ns, a', r, g1, _⟩ := hp
  exact ⟨dx, k.keep _ _ e (ne_of e g1 (by intro z; cases z)) (by intro ps z; cases z)⟩
theorem line_ext {C p : Addr} {H H' : Hp} {a b : Int} (h : LineAt C H p a b) (k : LamX.ExtN H H') : LineAt C H' p a b := by
  obtain ⟨dx, e⟩ := h
  exact ⟨dx, k _ _ e (by intro ps z; cases z)⟩
theorem line_but {pn C p : Addr} {H H' : Hp} {n : Nat} {a b : Int} (h : LineAt C H p a b) (hp : PenAt H pn n) (k : But pn H H') : LineAt C H' p a b := by
  obtain ⟨dx, e⟩ := h
  obtain ⟨cl, ns, a', r, g1, _⟩ := hp
  exact ⟨dx, k _ _ e (ne_of e g1 (by intro z; cases z))⟩
end My
/-! Texts whose signs are code points; lists of texts and of truths as data. -/
namespace My
open PySem PySem.Spec PyProof.Rows L2
theorem strOk_app (x y : Str) : PyData.strOk (x ++ y) = (PyData.strOk x && PyData.strOk y) := by
  unfold PyData.strOk
  rw [PySem.Str.cps_append, Array.all_append]
theorem strOk_of (s : String) : PyData.strOk (Str.ofString s) = true := by
  unfold PyData.strOk
  rw [PySem.Str.ofString_eq_toList]
  rw [Array.all_eq_true]
  intro i hi
  simp only [List.getElem_toArray, List.getElem_map, decide_eq_true_eq]
  have := (s.toList[i]'(by simpa using hi)).valid
  rcases this with h | ⟨_, h⟩
  · exact Nat.lt_trans h (by decide)
  · exact h
/-- a list of texts as data -/
theorem dp_strs {K : PySem.W.Frag} {H : Hp} : ∀ zs : List Str, DpAll K H (zs.map V.str) (zs.map PyData.str)
  | [] => .nil
  | z :: zs => .cons (.str z) (dp_strs zs)
theorem lay_strs : ∀ zs : List Str, (∀ z ∈ zs, PyData.strOk z = true) → PyData.canLayAll0 (zs.map PyData.str) = true
  | [], _ => rfl
  | z :: zs, h => by
    show (PyData.strOk z && PyData.canLayAll0 (zs.map PyData.str)) = true
    rw [lay_strs zs fun x hx => h x (List.mem_cons_of_mem _ hx), h z List.mem_cons_self]
    rfl
theorem dep_strs : ∀ zs : List Str, PyData.depthAll (zs.map PyData.str) = 0
  | [] => rfl
  | z :: zs => by
    show max 0 (PyData.depthAll (zs.map PyData.str)) = 0
    rw [dep_strs zs]
    rfl
theorem shaped_strs (zs : List Str) (h : ∀ z ∈ zs, PyData.strOk z = true) : SeqAt.shaped (.list (zs.map PyData.str)) = true := by
  show (PyData.canLayAll0 (zs.map PyData.str) && decide (PyData.depthAll (zs.map PyData.str) + 1 ≤ 64)) = true
  rw [lay_strs zs h, dep_strs]
  rfl
/-- a list of truths as data, shown -/
theorem dp_bls {K : PySem.W.Frag} {H : Hp} : ∀ zs : List Bool, DpAll K H (zs.map V.bl) (zs.map PyData.bool)
  | [] => .nil
  | z :: zs => .cons (.bl z) (dp_bls zs)
theorem dep_bls : ∀ zs : List Bool, PyData.depthAll (zs.map PyData.bool) = 0
  | [] => rfl
  | z :: zs => by
    show max 0 (PyData.depthAll (zs.map PyData.bool)) = 0
    rw [dep_bls zs]
    rfl
theorem showable_bls : ∀ zs : List Bool, PyData.showableAll (zs.map PyData.bool) = true
  | [] => rfl
  | z :: zs => by
    show (true && PyData.showableAll (zs.map PyData.bool)) = true
    rw [showable_bls zs]
    rfl
theorem bls_sum : ∀ zs : List Bool, ((PyData.shownAll (zs.map PyData.bool)).map (·.length)).sum ≤ 5 * zs.length ∧ (PyData.shownAll (zs.map PyData.bool)).length = zs.length
  | [] => ⟨Nat.le_refl _, rfl⟩
  | z :: zs => by
    obtain ⟨h1, h2⟩ := bls_sum zs
    refine ⟨?_, ?_⟩
    · show (PyData.bool z).shown.length + ((PyData.shownAll (zs.map PyData.bool)).map (·.length)).sum ≤ 5 * (zs.length + 1)
      have e : (PyData.bool z).shown.length ≤ 5 := by cases z <;> decide +kernel
      omega
    · show (PyData.shownAll (zs.map PyData.bool)).length + 1 = zs.length + 1
      omega
theorem bls_show {K : PySem.W.Frag} {H : Hp} {l : Addr} (zs : List Bool) (hl : zs.length ≤ 1000) (h : H l = some (.lst (zs.map V.bl))) : Dr K H (.ref l) (.list (zs.map PyData.bool)) ∧ (PyData.list (zs.map PyData.bool)).showable = true ∧ (PyData.list (zs.map PyData.bool)).depth ≤ 60 ∧ (PyData.list (zs.map PyData.bool)).shown.length ≤ sizeLine := by
  refine ⟨.inl (.lst (SqL.of h) (dp_bls zs)), showable_bls zs, ?_, ?_⟩
  · show PyData.depthAll (zs.map PyData.bool) + 1 ≤ 60
    rw [dep_bls]
    decide
  · have h1 := listText_len_le (PyData.shownAll (zs.map PyData.bool))
    obtain ⟨h2, h3⟩ := bls_sum zs
    show (listText (PyData.shownAll (zs.map PyData.bool))).length ≤ sizeLine
    rw [sizeLine_eq]
    omega
theorem bl_show {K : PySem.W.Frag} {H : Hp} (b : Bool) : Dr K H (.bl b) (.bool b) ∧ (PyData.bool b).showable = true ∧ (PyData.bool b).depth ≤ 60 ∧ (PyData.bool b).shown.length ≤ sizeLine := by
  refine ⟨.inl (.bl b), rfl, Nat.zero_le _, ?_⟩
  cases b <;> decide +kernel
end My
namespace My
open PySem PySem.Spec PyProof.Rows L2
theorem int_show {K : PySem.W.Frag} {H : Hp} {i : Int} (h : i.natAbs.log2 < 1920) : Dr K H (.int i) (.int i) ∧ (PyData.int i).showable = true ∧ (PyData.int i).depth ≤ 60 ∧ (PyData.int i).shown.length ≤ sizeLine := by
  refine ⟨.inl (.int i), ?_, Nat.zero_le _, ?_⟩
  · show decide (i.natAbs.log2 < 1920) = true
    exact decide_eq_true h
  · have := num_len h
    show ((toString i : String) : Str).length ≤ sizeLine
    rw [sizeLine_eq]
    omega
theorem shaped_tupI (ns : List Int) : SeqAt.shaped (.tuple (ns.map PyData.int)) = true := by
  show (PyData.canLayAll0 (ns.map PyData.int) && decide (PyData.depthAll (ns.map PyData.int) + 1 ≤ 64)) = true
  rw [lay_ints, dep_ints]
  rfl
theorem bl_len (b : Bool) : (PyData.bool b).shown.length ≤ 5 := by cases b <;> decide +kernel
theorem dep_2 (us ts : List Int) (n : Int) (b : Bool) : PyData.depthAll [PyData.tuple (us.map PyData.int), .int n, .bool b, .list (ts.map PyData.int)] ≤ 10 := by
  show max (PyData.depthAll (us.map PyData.int) + 1) (max 0 (max 0 (max (PyData.depthAll (ts.map PyData.int) + 1) 0))) ≤ 10
  rw [dep_ints, dep_ints]
  decide
/-- [tuple, int, bool, list] shown -/
theorem seen_show {K : PySem.W.Frag} {H : Hp} {l t q : Addr} (us ts : List Int) (n : Int) (b : Bool) (hu : ∀ z ∈ us, z.natAbs.log2 < 1920) (ht : ∀ z ∈ ts, z.natAbs.log2 < 1920) (hn : n.natAbs.log2 < 1920) (lu : us.length ≤ 100) (lt : ts.length ≤ 100) (h : H l = some (.lst [.ref t, .int n, .bl b, .ref q])) (h1 : H t = some (.tup (us.map V.int))) (h2 : H q = some (.lst (ts.map V.int))) :
    Dr K H (.ref l) (.list [.tuple (us.map .int), .int n, .bool b, .list (ts.map .int)]) ∧ (PyData.list [.tuple (us.map .int), .int n, .bool b, .list (ts.map .int)]).showable = true ∧ (PyData.list [.tuple (us.map .int), .int n, .bool b, .list (ts.map .int)]).depth ≤ 60 ∧ (PyData.list [.tuple (us.map .int), .int n, .bool b, .list (ts.map .int)]).shown.length ≤ sizeLine := by
  refine ⟨.inl (.lst (SqL.of h) (.cons (.tup (SqT.of h1) (dp_ints us)) (.cons (.int n) (.cons (.bl b) (.cons (.lst (SqL.of h2) (dp_ints ts)) .nil))))), ?_, ?_, ?_⟩
  · show (PyData.showableAll (us.map PyData.int) && (decide (n.natAbs.log2 < 1920) && (true && (PyData.showableAll (ts.map PyData.int) && true)))) = true
    rw [showable_ints us hu, showable_ints ts ht, decide_eq_true hn]
    rfl
  · have := dep_2 us ts n b
    show _ + 1 ≤ 60
    omega
  · have a1 := tupleText_len_le (PyData.shownAll (us.map PyData.int))
    obtain ⟨a2, a3⟩ := shown_sum us hu
    have b1 := listText_len_le (PyData.shownAll (ts.map PyData.int))
    obtain ⟨b2, b3⟩ := shown_sum ts ht
    have c1 := num_len hn
    have d1 := bl_len b
    have e1 := listText_len_le [(PyData.tuple (us.map PyData.int)).shown, (PyData.int n).shown, (PyData.bool b).shown, (PyData.list (ts.map PyData.int)).shown]
    show (listText [(PyData.tuple (us.map PyData.int)).shown, (PyData.int n).shown, (PyData.bool b).shown, (PyData.list (ts.map PyData.int)).shown]).length ≤ sizeLine
    have e2 : ([(PyData.tuple (us.map PyData.int)).shown, (PyData.int n).shown, (PyData.bool b).shown, (PyData.list (ts.map PyData.int)).shown].map (·.length)).sum = (tupleText (PyData.shownAll (us.map PyData.int))).length + (((toString n : String) : Str).length + ((PyData.bool b).shown.length + ((listText (PyData.shownAll (ts.map PyData.int))).length + 0))) := rfl
    have e3 : [(PyData.tuple (us.map PyData.int)).shown, (PyData.int n).shown, (PyData.bool b).shown, (PyData.list (ts.map PyData.int)).shown].length = 4 := rfl
    rw [e2, e3] at e1
    rw [sizeLine_eq]
    omega
end My
set_option pp.maxSteps 1500
set_option pp.deepTerms.threshold 8
/-! ### classes right -/
namespace My
open PySem PySem.Spec PyProof.Rows L2
abbrev s_classesR : Stmt := topS 31
theorem sc_classesR : FnScope ["_law_pen_here", "_law_many", "_law_far", "_law_size", "_law_found"] ["_law_pen_here", "_law_many"] (defScope s_classesR) := ⟨rfl, rfl, rfl, by decide +kernel, rfl, by decide +kernel, by decide +kernel⟩
def gRev : List V → List V → List V := fun vs zs => vs ++ zs.reverse
/-- m, modulus, rest put in their order -/
def gLen : List V → List V → List V := fun vs zs => vs ++ (zs.drop 2 ++ zs.take 2)
/-- a tuple of ints shown -/
theorem tup_show {K : PySem.W.Frag} {H : Hp} {l : Addr} (ns : List Int) (hz : ∀ z ∈ ns, z.natAbs.log2 < 1920) (hl : ns.length ≤ 1000) (h : H l = some (.tup (ns.map V.int))) : Dr K H (.ref l) (.tuple (ns.map PyData.int)) ∧ (PyData.tuple (ns.map PyData.int)).showable = true ∧ (PyData.tuple (ns.map PyData.int)).depth ≤ 60 ∧ (PyData.tuple (ns.map PyData.int)).shown.length ≤ sizeLine := by
  refine ⟨.inl (.tup (SqT.of h) (dp_ints ns)), showable_ints ns hz, ?_, ?_⟩
  · show PyData.depthAll (ns.map PyData.int) + 1 ≤ 60
    rw [dep_ints]
    decide
  · have h1 := tupleText_len_le (PyData.shownAll (ns.map PyData.int))
    obtain ⟨h2, h3⟩ := shown_sum ns hz
    show (tupleText (PyData.shownAll (ns.map PyData.int))).length ≤ sizeLine
    rw [sizeLine_eq]
    omega
theorem eqv_ints : ∀ ts us : List Int, PyData.eqvAll (ts.map PyData.int) (us.map PyData.int) = decide (ts = us)
  | [], [] => rfl
  | [], u :: us => rfl
  | t :: ts, [] => rfl
  | t :: ts, u :: us => by
    show (t == u && PyData.eqvAll (ts.map PyData.int) (us.map PyData.int)) = _
    rw [eqv_ints ts us]
    by_cases h1 : t = u
    · by_cases h2 : ts = us
      · subst h1
        subst h2
        simp
      · simp [h1, h2]
    · simp [h1]
theorem eqv_tupI (ts us : List Int) : PyData.eqv (.tuple (ts.map PyData.int)) (.tuple (us.map PyData.int)) = decide (ts = us) := eqv_ints ts us
theorem eqv_lstI (ts us : List Int) : PyData.eqv (.list (ts.map PyData.int)) (.list (us.map PyData.int)) = decide (ts = us) := eqv_ints ts us
theorem two_log {x y : Int} (hx : Sm x) (hy : Sm y) : ∀ z ∈ [x, y], z.natAbs.log2 < 1920 := fun z hz => by
  simp only [List.mem_cons, List.mem_nil_iff, or_false] at hz
  rcases hz with rfl | rfl
  · exact hx.log
  · exact hy.log
theorem no_low {n m : Int} {p : Prop} (h : n ≤ m) : Low (.int m) n → p := fun lo => by
  rcases lo with z | ⟨m', e, z⟩
  · cases z
  · cases e
    omega
theorem no_rest {r m : Int} {p : Prop} (r0 : 0 ≤ r) (r1 : r < m) : NoRest (.int r) m → p := fun no => by
  rcases no with z | ⟨r', e, z⟩
  · cases z
  · cases e
    exact absurd ⟨r0, r1⟩ z
theorem no_len {z : Int} {p : Prop} (z0 : 0 ≤ z) (z1 : z ≤ 10 ^ 40) : lenB (.int z) (10 ^ 40) = false → p := fun e => by
  have e : (decide (0 ≤ z) && decide (z ≤ 10 ^ 40)) = false := e
  rw [decide_eq_true z0, decide_eq_true z1] at e
  cases e
def spClassesR : Sp := fun vs H Q _ => ∃ (pn : Addr) (m : Int) (n : Nat), vs = [.ref pn, .int m] ∧ 1 ≤ m ∧ m ≤ 40 ∧ PenAt H pn n ∧ n < 90000 ∧ ∀ (H' : Hp), PenAt H' pn (n + 3) → But pn H H' → Q (.bl true) H'
section
variable {P : Program} {w : World} {K : PySem.W.Frag} {mg : Str → Option Value} {base : Heap} {CE CLine CB fB CR fR CN fN : Addr} {tG : Tok}
theorem ok_classesR {f : Addr} {fd : FuncData} (F : Fun K "_law_classes_right" "_law_classes_right" s_classesR f fd) (T : MTx P K mg CLine CB fB CR fR CN fN tG)
    (D_draw : DefAt P w K mg base CX0 1 "_law_draw" ["_law_pen_here", "_law_many"] spDraw) (D_pick : DefAt P w K mg base CX0 2 "_law_pick" ["_law_pen_here", "_law_some"] spPick) (D_classof : DefAt P w K mg base (L2.CX P w) 5 "class_of" ["n", "modulus"] (spClassof CB CN)) (D_lenof : DefAt P w K mg base (L2.CX P w) 5 "length_of" ["rest", "m", "modulus"] (spLenof CB CR))
    (DK_classof : DefK P w K mg base (L2.CX P w) 5 "class_of" ["n", "modulus"] ["modulus", "n"] (spClassof CB CN) gRev) (DK_lenof : DefK P w K mg base (L2.CX P w) 5 "length_of" ["rest", "m", "modulus"] ["m", "modulus", "rest"] (spLenof CB CR) gLen) :
    FnG P w K mg base CX0 8 f fd ["_law_pen_here", "_law_many"] spClassesR := by
  refine okG F sc_classesR (fun vs H Q E h => ?_) (fun cdv A outer s H vs Q E hf hgd hr h => ?_)
  · obtain ⟨pn, m, n, rfl, _⟩ := h
    rfl
  · obtain ⟨pn, m, n, rfl, m1, m40, hp, hn, k⟩ := h
    refine ⟨_, (pss_cons (ps_set (i := 2) sc_classesR.nd rfl (Or.inl rfl) (My.pe_d D_pick (hr.mono (by decide)) (by rfl) pass0 (pa_cons (pv 0) (pa_cons (pe_lst (pa_cons (My.pe_d D_draw (hr.mono (by decide)) (by rfl) pass0 (pa_cons (pv 0) (pa_cons (pe_op op_pow pe_int pe_int) pa_nil))) (pa_cons (pe_op op_pow pe_int pe_int) (pa_cons (pe_op op_sub (pe_op op_pow pe_int pe_int) pe_int) pa_nil)))) pa_nil))))
      (pss_cons (ps_for PassesOwn.never rfl (pi_list (pe_lst (pa_cons pe_int (pa_cons pe_int (pa_cons (pe_op op_sub (pv 1) pe_int) (pa_cons (pv 1) (pa_cons (My.pe_d D_draw (hr.mono (by decide)) (by rfl) pass0 (pa_cons (pv 0) (pa_cons pe_int pa_nil))) (pa_cons (pv 2) pa_nil)))))))) (pg_name (i := 3) sc_classesR.nd rfl (Or.inl rfl)) (pss_cons (ps_set (i := 4) sc_classesR.nd rfl (Or.inl rfl) (My.pe_d D_classof (hr.mono (by decide)) (by rfl) passNo (pa_cons (pv 3) (pa_cons (pv 1) pa_nil))))
      (pss_cons (ps_if (PW.pt (pw_or (pt_cmpR op_ne (pe_callB (My.call_repr hgd hr) (by rfl) T.z_repr boot_repr (pa_cons (pv 4) pa_nil)) (pe_callB (My.call_repr hgd hr) (by rfl) T.z_repr boot_repr (pa_cons (pe_tup (pa_cons (pe_op op_mod (pe_callTy call_int1 (by rfl) T.z_int boot_int (pa_cons (pv 3) pa_nil)) (pv 1)) (pa_cons (pe_op op_fdivW (pv 3) (pv 1)) pa_nil))) pa_nil)) (nomark _)) (pw_or1 (pt_cmpR (op_neD hr.units) (My.pe_dK DK_classof (hr.mono (by decide)) (by rfl) passNo (pk_cons (pv 1) (pk_cons (pv 3) pk_nil))) (pv 4) (nomark _))))) (pss_one (ps_ret pe_bl)) pss_nil)
      (pss_one (ps_if (pt_cmpR op_ne (pe_callB (My.call_repr hgd hr) (by rfl) T.z_repr boot_repr (pa_cons (My.pe_d D_lenof (hr.mono (by decide)) (by rfl) passNo (pa_cons (pe_ix ix_tup (pv 4) pe_int (fun _ _ => rfl)) (pa_cons (pe_ix ix_tup (pv 4) pe_int (fun _ _ => rfl)) (pa_cons (pv 1) pa_nil)))) pa_nil)) (pe_callB (My.call_repr hgd hr) (by rfl) T.z_repr boot_repr (pa_cons (pv 3) pa_nil)) (nomark _)) (pss_one (ps_ret pe_bl)) pss_nil)))))
      (pss_one (ps_ret (pe_cmpR op_eq (My.pe_dK DK_lenof (hr.mono (by decide)) (by rfl) passNo (pk_cons (pe_op op_pow pe_int pe_int) (pk_cons (pv 1) (pk_cons (pe_op op_sub (pv 1) pe_int) pk_nil)))) (pe_op op_sub (pe_op op_add (pe_op op_mulW (pv 1) (pe_op op_pow pe_int pe_int)) (pv 1)) pe_int) (nomark _)))))), ?_⟩
    have lg : m.natAbs.log2 < 9000 := Nat.lt_of_lt_of_le (PySem.Flt.log2_lt_of (k := 10) (by decide) (by omega)) (by decide)
    have e40 : (10 : Int) ^ Int.toNat 40 = 10 ^ 40 := rfl
    -- far
    refine ⟨_, rfl, _, rfl, _, _, rfl, rfl, ⟨by decide, by decide, by decide⟩, pn, _, n, rfl, by decide, by decide, hp, by omega, fun d1 H1 a1 b1 p1 u1 => ?_⟩
    rw [e40] at b1
    refine ⟨_, _, rfl, rfl, ⟨by decide, by decide, by decide⟩, _, _, rfl, rfl, ⟨by decide, by decide, by decide⟩, _, _, rfl, rfl, (by show 3 ≤ sizeLine; decide), fun l hl => ?_⟩
    refine ⟨pn, l, n + 1, _, rfl, upd_same, pen_ne p1 hl, (by show 0 < 3; decide), (by show 3 ≤ 1000; decide), pen_new p1 hl, by omega, fun v H2 hv p2 u2 => ?_⟩
    obtain ⟨far, rfl, hz⟩ := mem_ints (zs := [d1, 10 ^ Int.toNat 40, 10 ^ Int.toNat 40 - 1]) hv
    have f0 : 0 ≤ far ∧ far ≤ 10 ^ 40 := by
      rw [e40] at hz
      simp only [List.mem_cons, List.mem_nil_iff, or_false] at hz
      rcases hz with e | e | e <;> omega
    have k2 : But pn H H2 := (u1.trans (But.new hl)).trans u2
    -- the sizes
    refine ⟨_, rfl, _, _, rfl, rfl, _, rfl, _, rfl, pn, 100, n + 2, rfl, by decide, by decide, p2, by omega, fun d3 H3 a3 b3 p3 u3 => ?_⟩
    refine ⟨_, rfl, (by show 6 ≤ sizeLine; decide), fun l6 hl6 => ?_⟩
    have p7 : PenAt (upd H3 l6 (.lst ([0, 1, m - 1, m, d3, far].map V.int))) pn (n + 3) := pen_new p3 hl6
    have u7 : But pn H (upd H3 l6 (.lst ([0, 1, m - 1, m, d3, far].map V.int))) := (k2.trans u3).trans (But.new hl6)
    have w7 : (upd H3 l6 (.lst ([0, 1, m - 1, m, d3, far].map V.int))) l6 = some (.lst ([0, 1, m - 1, m, d3, far].map V.int)) := upd_same
    refine ⟨l6, rfl, ⟨_, SqL.of w7⟩, for_list (K := K) (a := l6) (xs := [0, 1, m - 1, m, d3, far].map V.int) (fun i σ H' => ∃ v3 v4, σ = [some (.ref pn), some (.int m), some (.int far), v3, v4] ∧ Same (upd H3 l6 (.lst ([0, 1, m - 1, m, d3, far].map V.int))) H')
        ⟨none, none, rfl, fun b o e => e⟩ (fun i σ H' _ ⟨_, _, e, s⟩ => SqL.of (s _ _ w7)) ?_ ?_⟩
    · rintro i x σ H' hi ⟨v3, v4, rfl, s⟩
      obtain ⟨z, rfl, hm⟩ := mem_ints (List.mem_of_getElem? hi)
      have z0 : 0 ≤ z ∧ z ≤ 10 ^ 40 := by
        simp only [List.mem_cons, List.mem_nil_iff, or_false] at hm
        rcases hm with e | e | e | e | e | e <;> omega
      have q0 : 0 ≤ z % m ∧ z % m < m := ⟨Int.emod_nonneg _ (by omega), Int.emod_lt_of_pos _ (by omega)⟩
      have q1 : 0 ≤ z / m ∧ z / m ≤ 10 ^ 40 := ⟨Int.ediv_nonneg z0.1 (by omega), Int.le_trans (Int.ediv_le_self m z0.1) z0.2⟩
      have zl : ∀ x ∈ [z % m, z / m], x.natAbs.log2 < 1920 := two_log (by show _ < _; omega) (by show _ < _; omega)
      refine ⟨_, rfl, _, rfl, .int z, .int m, _, _, rfl, .int z, .int m, fun n' m' en _ _ em _ => ?_, no_len z0.1 z0.2, fun _ => no_low m1⟩
      cases en
      cases em
      refine ⟨lg, fun t ht => ?_⟩
      have s1 := s.trans (same_new (o := .tup [.int (z % m), .int (z / m)]) ht)
      have w1 : (upd H' t (.tup [.int (z % m), .int (z / m)])) t = some (.tup ([z % m, z / m].map V.int)) := upd_same
      generalize (upd H' t (.tup [.int (z % m), .int (z / m)])) = H8 at s1 w1 ⊢
      obtain ⟨a1, a2, a3, a4⟩ := tup_show (K := K) [z % m, z / m] zl (by show 2 ≤ 1000; decide) w1
      refine ⟨_, rfl, _, _, rfl, a1, a2, a3, a4, _, rfl, .inl ⟨z, rfl, _, rfl, _, _, rfl, rfl, (by show 0 < m; omega), _, rfl, _, rfl, _, _, rfl, rfl, ⟨by omega, lg⟩, (by show 2 ≤ sizeLine; decide), fun t2 h2 => ?_⟩⟩
      have s2 := same_new (o := .tup ([z % m, z / m].map V.int)) h2
      obtain ⟨c1, c2, c3, c4⟩ := tup_show (K := K) (H := upd H8 t2 (.tup ([z % m, z / m].map V.int))) [z % m, z / m] zl (by show 2 ≤ 1000; decide) upd_same
      refine ⟨_, _, rfl, c1, c2, c3, c4, ?_⟩
      have w9 := s2 _ _ w1
      have s9 := s1.trans s2
      refine ⟨rfl, _, rfl, iteNS rfl ?_⟩
      refine ⟨_, rfl, _, rfl, rfl, .int z, .int m, _, _, rfl, .int z, .int m, fun n' m' en _ _ em _ => ?_, no_len z0.1 z0.2, fun _ => no_low m1⟩
      cases en
      cases em
      refine ⟨lg, fun t3 h3 => ?_⟩
      have s10 := same_new (o := .tup ([z % m, z / m].map V.int)) h3
      refine ⟨_, rfl, .tuple ([z % m, z / m].map .int), .tuple ([z % m, z / m].map .int), .tup (SqT.of upd_same) (dp_ints [z % m, z / m]), .tup (SqT.of (s10 _ _ w9)) (dp_ints [z % m, z / m]), shaped_tupI _, shaped_tupI _, ?_⟩
      rw [eqv_tupI, decide_eq_true rfl]
      refine ⟨_, rfl, iteF ?_⟩
      have w11 := s10 _ _ w9
      have s11 := s9.trans s10
      refine ⟨_, rfl, t, [z % m, z / m].map V.int, 0, .int (z % m), rfl, rfl, SqT.of w11, rfl, _, rfl, t, [z % m, z / m].map V.int, 1, .int (z / m), rfl, rfl, SqT.of w11, rfl, _, rfl, .int (z % m), .int (z / m), .int m, _, _, _, rfl, .int _, .int _, .int m, fun r' n' m' er en em _ _ _ _ => ?_, no_low m1, fun m' em _ => ?_, fun _ _ _ _ _ _ _ => no_low q1.1⟩
      · cases er
        cases en
        cases em
        refine ⟨Sm.mul (i := 100) (j := 200) (by omega) (by omega), ?_⟩
        have ez : m * (z / m) + z % m = z := Int.mul_ediv_add_emod z m
        rw [ez]
        obtain ⟨i1, i2, i3, i4⟩ := int_show (K := K) (H := H8) (i := z) (by exact Sm.log (by show _ < _; omega))
        refine ⟨.int z, .int z, rfl, .inl (.int z), i2, i3, i4, _, rfl, .int z, .int z, rfl, .inl (.int z), i2, i3, i4, rfl, _, rfl, iteNS rfl ?_⟩
        exact ⟨_, _, rfl, s11⟩
      · cases em
        exact no_rest q0.1 q0.2
    · rintro σ H' ⟨v3, v4, rfl, s⟩
      refine ⟨_, _, rfl, rfl, ⟨by decide, by decide, by decide⟩, _, rfl, _, rfl, _, _, rfl, rfl, rfl, .int (m - 1), .int (10 ^ Int.toNat 40), .int m, _, _, _, rfl, .int _, .int _, .int m, fun r' n' m' er en em _ _ _ _ => ?_, no_low m1, fun m' em _ => ?_, fun _ _ _ _ _ _ _ => no_low (by decide)⟩
      · cases er
        cases en
        cases em
        have cm : CMulW m (10 ^ Int.toNat 40) := Sm.mul (i := 100) (j := 200) (by omega) (by rw [e40]; decide)
        refine ⟨cm, _, rfl, _, _, rfl, rfl, ⟨by decide, by decide, by decide⟩, _, _, rfl, rfl, cm, _, rfl, _, _, rfl, rfl, _, _, rfl, rfl, ?_⟩
        refine ⟨rfl, ?_⟩
        have ev : (m * 10 ^ Int.toNat 40 + (m - 1)) = (m * 10 ^ Int.toNat 40 + m - 1) := by omega
        show Q (.bl (decide (V.int (m * 10 ^ Int.toNat 40 + (m - 1)) = V.int (m * 10 ^ Int.toNat 40 + m - 1)))) H'
        rw [ev, decide_eq_true rfl]
        exact k _ (pen_same p7 s) (u7.trans (but_same s))
      · cases em
        exact no_rest (by omega) (by omega)
end
end My
set_option pp.maxSteps 1500
set_option pp.deepTerms.threshold 8
/-! ### finer right -/
namespace My
open PySem PySem.Spec PyProof.Rows L2 GenW
abbrev s_finerR : Stmt := topS 32
theorem sc_finerR : FnScope ["_law_pen_here", "_law_many", "_law_spot", "_law_by", "_law_some", "_law_one", "_law_k", "_law_line", "_law_at", "_law_size", "_law_here", "_law_there"] ["_law_pen_here", "_law_many"] (defScope s_finerR) := ⟨rfl, rfl, rfl, by decide +kernel, rfl, by decide +kernel, by decide +kernel⟩
/-- the first n ints that f tells -/
def flI (n : Nat) (f : Nat → Int) : List Int := (List.range n).map f
theorem flI_len (n : Nat) (f : Nat → Int) : (flI n f).length = n := by unfold flI; rw [List.length_map, List.length_range]
theorem flI_succ (n : Nat) (f : Nat → Int) : (flI (n + 1) f).map V.int = (flI n f).map V.int ++ [.int (f n)] := by
  unfold flI
  rw [List.range_succ, List.map_append, List.map_append]
  rfl
theorem flI_at {n j : Nat} (f : Nat → Int) (h : j < n) : (flI n f)[j]? = some (f j) := by
  unfold flI
  rw [List.getElem?_map, List.getElem?_range h]
  rfl
theorem flI_mem {n : Nat} {f : Nat → Int} {z : Int} (h : z ∈ flI n f) : ∃ j, j < n ∧ z = f j := by
  unfold flI at h
  obtain ⟨j, hj, e⟩ := List.mem_map.mp h
  exact ⟨j, List.mem_range.mp hj, e.symm⟩
theorem walk_intG {n : Nat} {f : Nat → Int} : GWalk (intG n f) n (fun _ => True) (fun i H x H' => H' = H ∧ x = .int (f i)) :=
  ⟨fun _ _ => trivial, fun i H x H' _ h => ⟨h.2.1, h.1, h.2.2⟩, fun _ _ _ _ => trivial, fun i H H' _ h => ⟨h.2, h.1⟩⟩
theorem shaped_lstI (ns : List Int) : SeqAt.shaped (.list (ns.map PyData.int)) = true := by
  show (PyData.canLayAll0 (ns.map PyData.int) && decide (PyData.depthAll (ns.map PyData.int) + 1 ≤ 64)) = true
  rw [lay_ints, dep_ints]
  rfl
theorem lcG_ints {n : Nat} {f : Nat → Int} {ix : Nat} {vs : List Nat} {σ : L2.St} {H1 : Hp} {D : Addr} {Qd : Hp → Prop} (hD : H1 D = none) (hn : n ≤ sizeLine) (hw : ∀ x, wipe ((wipe σ vs).set ix (some x)) vs = wipe σ vs) (hx : ∀ x, ((wipe σ vs).set ix (some x))[ix]? = some (some x))
    (hd : ∀ H, H D = some (.lst ((flI n f).map V.int)) → Same H1 H → Qd H) :
    (intG n f).start (upd H1 D (.lst [])) ∧ ∃ W : Nat → Nat → Hp → Prop, (∃ m, W 0 m (upd H1 D (.lst []))) ∧ ∀ i m H, W i m H →
      (∀ H', (intG n f).fin i H H' → Qd H') ∧ ∀ x H', (intG n f).out i H x H' → ∃ Nx : Hp → Prop, (∀ H'', Nx H'' → (intG n f).back i H' H'' ∧ ∃ m', m' < m ∧ W (i + 1) m' H'') ∧ gName ix x (wipe σ vs) H' fun σ2 H2 => wipe σ2 vs = wipe σ vs ∧ tYes σ2 H2 fun b H3 =>
        if b = true then tVar ix σ2 H3 fun y H4 => ∃ acc, H4 D = some (.lst acc) ∧ acc.length < sizeLine ∧ Nx (upd H4 D (.lst (acc ++ [y]))) else Nx H3 := by
  refine lcG_it walk_intG (fun i Hh => Hh D = some (.lst ((flI i f).map V.int)) ∧ Same H1 Hh) ⟨upd_same, same_new hD⟩ (fun _ _ _ _ => trivial) ?_ fun H h => hd H h.1 h.2
  rintro i x Ha Hb hi ⟨g1, s⟩ ⟨rfl, rfl⟩
  refine ⟨hw _, yes_go ⟨_, hx _, _, g1, by rw [List.length_map, flI_len]; omega, ?_, fun b o e => ?_⟩⟩
  · rw [upd_same, flI_succ]
  · rw [upd_ne (ne_of_none e hD)]
    exact s _ _ e
/-- where a length of a class falls, more finely -/
theorem fine_mod {m t a r : Int} (m1 : 1 ≤ m) (t1 : 1 ≤ t) (r0 : 0 ≤ r) (r1 : r < m) : (m * a + r) % (m * t) = r + m * (a % t) ∧ (m * a + r) / (m * t) = a / t := by
  have h0 := Int.emod_nonneg a (show t ≠ 0 by omega)
  have h1 := Int.emod_lt_of_pos a (show 0 < t by omega)
  have e : m * a + r = r + m * (a % t) + m * t * (a / t) := by
    have e1 := Int.mul_ediv_add_emod a t
    have e2 : m * a = m * (t * (a / t) + a % t) := by rw [e1]
    rw [e2, Int.mul_add, ← Int.mul_assoc]
    omega
  have l0 : 0 ≤ m * (a % t) := Int.mul_nonneg (by omega) h0
  have l1 : m * (a % t) ≤ m * (t - 1) := Int.mul_le_mul_of_nonneg_left (by omega) (by omega)
  have l2 : m * (t - 1) = m * t - m := by rw [Int.mul_sub, Int.mul_one]
  have lt : 0 < m * t := Int.mul_pos (by omega) (by omega)
  have c1 : (r + m * (a % t)) % (m * t) = r + m * (a % t) := Int.emod_eq_of_lt (by omega) (by omega)
  have c2 : (r + m * (a % t)) / (m * t) = 0 := Int.ediv_eq_zero_of_lt (by omega) (by omega)
  rw [e, Int.add_mul_emod_self_left, Int.add_mul_ediv_left _ _ (by omega), c1, c2]
  exact ⟨rfl, by omega⟩
theorem fine_line {a b t n : Int} : a * t * (n / t) + (a * (n % t) + b) = a * n + b := by
  have e1 := Int.mul_ediv_add_emod n t
  have e2 : a * n = a * (t * (n / t) + n % t) := by rw [e1]
  rw [e2, Int.mul_add, ← Int.mul_assoc]
  omega
theorem fine_inj {m r x y : Int} (m1 : 1 ≤ m) (h : r + m * x = r + m * y) : x = y := by
  have h2 : m * x = m * y := by omega
  exact Int.eq_of_mul_eq_mul_left (by omega) h2
/-- a line at a place that is one -/
theorem call_ok {C CB p : Addr} {H : Hp} {Q : VK} {E : XK} {a b n : Int} (h : LineAt C H p a b) (n0 : 0 ≤ n) (c : CMulW a n) (k : Q (.int (a * n + b)) H) : spCall C CB (.ref p :: [.int n]) H Q E := by
  refine ⟨p, a, b, _, _, rfl, h, .int n, fun m' em _ => ?_, fun lo => ?_⟩
  · cases em
    exact ⟨c, k⟩
  · rcases lo with z | ⟨m', e, z⟩
    · cases z
    · cases e
      omega
theorem refined_ok {C CB CR p : Addr} {H : Hp} {Q : VK} {E : XK} {a b t r : Int} (h : LineAt C H p a b) (t1 : 1 ≤ t) (r0 : 0 ≤ r) (r1 : r < t) (c1 : CMulW a t) (c2 : CMulW a r) (k : ∀ q H', H q = none → LineAt C H' q (a * t) (a * r + b) → Same H H' → Q (.ref q) H') : spRef C CB CR [.ref p, .int t, .int r] H Q E := by
  refine ⟨p, a, b, _, _, _, _, rfl, h, .int t, .int r, fun t' r' et er _ _ _ => ?_, fun lo => ?_, fun t' et _ no => ?_⟩
  · cases et
    cases er
    exact ⟨c1, c2, k⟩
  · rcases lo with z | ⟨m', e, z⟩
    · cases z
    · cases e
      omega
  · cases et
    rcases no with z | ⟨r', e, z⟩
    · cases z
    · cases e
      exact absurd ⟨r0, r1⟩ z
theorem init_at {C CB : Addr} {H : Hp} {x dx : Addr} {a b : Int} {R : Hp → Prop} {E : XK} (hx : H x = none) (hd : H dx = none) (ne : dx ≠ x) (k : ∀ H', LineAt C H' x a b → Same H H' → R H') :
    spInit C CB (.ref x :: ([.int a, .int b] ++ [])) (upd (upd H dx (.own x)) x (.ins C dx [])) (fun v H2 => v = .non ∧ R H2) E := init_ints (Q := fun _ H' => R H') hx hd ne k
def spFinerR : Sp := fun vs H Q _ => ∃ (pn : Addr) (m : Int) (n : Nat), vs = [.ref pn, .int m] ∧ 1 ≤ m ∧ m ≤ 40 ∧ PenAt H pn n ∧ n < 90000 ∧ ∀ (H' : Hp), PenAt H' pn (n + 6) → But pn H H' → Q (.bl true) H'
section
variable {P : Program} {w : World} {K : PySem.W.Frag} {mg : Str → Option Value} {base : Heap} {CE CLine CB fB CR fR CN fN : Addr} {tG : Tok}
theorem ok_finerR {f : Addr} {fd : FuncData} (F : Fun K "_law_finer_right" "_law_finer_right" s_finerR f fd) (T : MTx P K mg CLine CB fB CR fR CN fN tG)
    (D_draw : DefAt P w K mg base CX0 1 "_law_draw" ["_law_pen_here", "_law_many"] spDraw) (D_pick : DefAt P w K mg base CX0 2 "_law_pick" ["_law_pen_here", "_law_some"] spPick) (D_classof : DefAt P w K mg base (L2.CX P w) 5 "class_of" ["n", "modulus"] (spClassof CB CN)) (D_lenof : DefAt P w K mg base (L2.CX P w) 5 "length_of" ["rest", "m", "modulus"] (spLenof CB CR))
    (G_finer : GnAt P w K mg base 5 "finer" ["rest", "modulus", "times"] spFiner) (GK_finer : GnKw P w K mg base 5 "finer" ["rest", "modulus", "times"] ["times", "modulus", "rest"] spFiner gRev) (M_Line : MakeAt P w K mg base (L2.CX P w) 3 "Line" CLine ["self", "slope", "more"] (spInit CLine CB) [])
    (X_refined : MethAt P w K mg base (L2.CX P w) 5 CLine "refined" ["self", "times", "rest"] (spRef CLine CB CR)) (C_Line : CallAt P w K mg base (L2.CX P w) 3 CLine ["self", "m"] (spCall CLine CB)) :
    FnG P w K mg base CX0 8 f fd ["_law_pen_here", "_law_many"] spFinerR := by
  refine okG F sc_finerR (fun vs H Q E h => ?_) (fun cdv A outer s H vs Q E hf hgd hr h => ?_)
  · obtain ⟨pn, m, n, rfl, _⟩ := h
    rfl
  · obtain ⟨pn, m, n, rfl, m1, m40, hp, hn, k⟩ := h
    refine ⟨_, (pss_cons (ps_asg (pe_tup (pa_cons (My.pe_d D_draw (hr.mono (by decide)) (by rfl) pass0 (pa_cons (pv 0) (pa_cons (pv 1) pa_nil))) (pa_cons (pe_op op_add pe_int (My.pe_d D_pick (hr.mono (by decide)) (by rfl) pass0 (pa_cons (pv 0) (pa_cons (pe_lst (pa_cons pe_int (pa_cons pe_int (pa_cons pe_int (pa_cons pe_int (pa_cons (My.pe_d D_draw (hr.mono (by decide)) (by rfl) pass0 (pa_cons (pv 0) (pa_cons pe_int pa_nil))) pa_nil)))))) pa_nil)))) pa_nil))) (pg_tup rfl (pgs_cons (pg_name (i := 2) sc_finerR.nd rfl (Or.inr rfl)) (pgs_cons (pg_name (i := 3) sc_finerR.nd rfl (Or.inl rfl)) pgs_nil))))
      (pss_cons (My.ps_setLcG (i := 4) (own := [("_law_one", 5)]) rfl sc_finerR.nd rfl rfl (sw_true rfl rfl rfl rfl) (My.pig_d G_finer rfl (hr.mono (by decide)) (by rfl) (pa_cons (pv 2) (pa_cons (pv 1) (pa_cons (pv 3) pa_nil)))) (blkOk_by (by show blkC ["_law_pen_here", "_law_many", "_law_spot", "_law_by", "_law_some", "_law_one", "_law_k", "_law_line", "_law_at", "_law_size", "_law_here", "_law_there"] (defScope s_finerR) _ _ = true; decide +kernel)) (by decide +kernel) (fun _ _ _ _ _ => (pg_name (i := 5) sc_finerR.nd rfl (Or.inl rfl))) (fun _ _ _ _ _ => pts_nil) (fun _ _ _ _ _ => (pv 5)))
      (pss_cons (ps_if (pt_cmpR op_ne (pe_callB (My.call_repr hgd hr) (by rfl) T.z_repr boot_repr (pa_cons (pv 4) pa_nil)) (pe_callB (My.call_repr hgd hr) (by rfl) T.z_repr boot_repr (pa_cons (pe_lc (own := [("_law_k", 6)]) rfl sc_finerR.nd (pi_range1 rfl T.z_range (pa_cons (pv 3) pa_nil)) (blkOk_by (by show blkC ["_law_pen_here", "_law_many", "_law_spot", "_law_by", "_law_some", "_law_one", "_law_k", "_law_line", "_law_at", "_law_size", "_law_here", "_law_there"] (defScope s_finerR) _ _ = true; decide +kernel)) (fun _ _ _ _ _ => (pg_name (i := 6) sc_finerR.nd rfl (Or.inl rfl))) (fun _ _ _ _ _ => pts_nil) (fun _ _ _ _ _ => (pe_op op_add (pv 2) (pe_op op_mulW (pv 1) (pv 6))))) pa_nil)) (nomark _)) (pss_one (ps_ret pe_bl)) pss_nil)
      (pss_cons (ps_if (pt_cmpR (op_neD hr.units) (My.pe_lcG (own := [("_law_one", 5)]) rfl sc_finerR.nd (My.pig_dK GK_finer rfl (hr.mono (by decide)) (by rfl) (pk_cons (pv 3) (pk_cons (pv 1) (pk_cons (pv 2) pk_nil)))) (blkOk_by (by show blkC ["_law_pen_here", "_law_many", "_law_spot", "_law_by", "_law_some", "_law_one", "_law_k", "_law_line", "_law_at", "_law_size", "_law_here", "_law_there"] (defScope s_finerR) _ _ = true; decide +kernel)) (by decide +kernel) (fun _ _ _ _ _ => (pg_name (i := 5) sc_finerR.nd rfl (Or.inl rfl))) (fun _ _ _ _ _ => pts_nil) (fun _ _ _ _ _ => (pv 5))) (pv 4) (nomark _)) (pss_one (ps_ret pe_bl)) pss_nil)
      (pss_cons (ps_set (i := 7) sc_finerR.nd rfl (Or.inl rfl) (My.pe_mk M_Line (hr.mono (by decide)) (by rfl) passL (pa_cons (pe_op op_sub (My.pe_d D_draw (hr.mono (by decide)) (by rfl) pass0 (pa_cons (pv 0) (pa_cons pe_int pa_nil))) pe_int) (pa_cons (pe_op op_sub (My.pe_d D_draw (hr.mono (by decide)) (by rfl) pass0 (pa_cons (pv 0) (pa_cons pe_int pa_nil))) pe_int) pa_nil))))
      (pss_cons (ps_for PassesOwn.never rfl (pi_list (pe_lst (pa_cons pe_int (pa_cons pe_int (pa_cons pe_int (pa_cons pe_int (pa_cons pe_int (pa_cons (My.pe_d D_draw (hr.mono (by decide)) (by rfl) pass0 (pa_cons (pv 0) (pa_cons (pe_op op_pow pe_int pe_int) pa_nil))) pa_nil)))))))) (pg_name (i := 8) sc_finerR.nd rfl (Or.inl rfl)) (pss_cons (ps_set (i := 9) sc_finerR.nd rfl (Or.inl rfl) (My.pe_d D_lenof (hr.mono (by decide)) (by rfl) passNo (pa_cons (pv 2) (pa_cons (pv 8) (pa_cons (pv 1) pa_nil)))))
      (pss_cons (ps_asg (My.pe_d D_classof (hr.mono (by decide)) (by rfl) passNo (pa_cons (pv 9) (pa_cons (pe_op op_mul (pv 1) (pv 3)) pa_nil))) (pg_tup rfl (pgs_cons (pg_name (i := 10) sc_finerR.nd rfl (Or.inl rfl)) (pgs_cons (pg_name (i := 11) sc_finerR.nd rfl (Or.inl rfl)) pgs_nil))))
      (pss_one (ps_if (PW.pt (pw_or (pt_cmpR op_notIn_seq (pv 10) (pv 4) (by rfl)) (pw_or1 (pt_cmpR op_ne (My.pe_cl C_Line (hr.mono (by decide)) passNo (My.pe_mt T.cl X_refined (hr.mono (by decide)) passNo (pv 7) (pa_cons (pv 3) (pa_cons (pe_bm PySem.F.plainAttrs_list PySem.F.slot_list_index PySem.F.type_list_index mt_index (pv 4) (pa_cons (pv 10) pa_nil)) pa_nil))) (pa_cons (pv 11) pa_nil)) (My.pe_cl C_Line (hr.mono (by decide)) passNo (pv 7) (pa_cons (pv 8) pa_nil)) (nomark _))))) (pss_one (ps_ret pe_bl)) pss_nil)))))
      (pss_one (ps_ret pe_bl)))))))), ?_⟩
    have lg : m.natAbs.log2 < 9000 := Nat.lt_of_lt_of_le (PySem.Flt.log2_lt_of (k := 10) (by decide) (by omega)) (by decide)
    refine ⟨_, rfl, _, rfl, pn, m, n, rfl, by omega, lg, hp, by omega, fun r H1 r0 r1 p1 u1 => ?_⟩
    refine ⟨_, rfl, _, rfl, pn, 9, n + 1, rfl, by decide, by decide, p1, by omega, fun d2 H2 a2 b2 p2 u2 => ?_⟩
    refine ⟨(by show 5 ≤ sizeLine; decide), fun l3 hl3 => ?_⟩
    refine ⟨pn, l3, n + 2, _, rfl, upd_same, pen_ne p2 hl3, (by show 0 < 5; decide), (by show 5 ≤ 1000; decide), pen_new p2 hl3, by omega, fun v H3 hv p3 u3 => ?_⟩
    obtain ⟨z, rfl, hz⟩ := mem_ints (zs := [0, 1, 1, 3, d2]) hv
    have z0 : 0 ≤ z ∧ z < 9 := by
      simp only [List.mem_cons, List.mem_nil_iff, or_false] at hz
      rcases hz with e | e | e | e | e <;> omega
    have k3 : But pn H H3 := ((u1.trans u2).trans (But.new hl3)).trans u3
    refine ⟨_, _, rfl, rfl, ?_⟩
    refine ⟨(by show 2 ≤ sizeLine; decide), fun t4 ht4 => ?_⟩
    have p4 : PenAt (upd H3 t4 (.tup [.int r, .int (1 + z)])) pn (n + 3) := pen_new p3 ht4
    have k4 : But pn H (upd H3 t4 (.tup [.int r, .int (1 + z)])) := k3.trans (But.new ht4)
    refine ⟨t4, _, rfl, SqT.of upd_same, rfl, _, _, rfl, _, _, rfl, rfl, ?_⟩
    have t1 : 1 ≤ 1 + z := by omega
    have zn : (1 + z).toNat ≤ 9 := by omega
    have cm : ∀ i : Nat, i < (1 + z).toNat → CMulW m i := fun i hi => Sm.mul (i := 100) (j := 100) (by omega) (by omega)
    refine ⟨_, rfl, _, rfl, _, rfl, _, ⟨r, m, 1 + z, rfl, m1, r0, r1, t1, cm, rfl⟩, fun D hD => ?_⟩
    refine lcG_ints hD (by rw [sizeLine_eq]; omega) (fun _ => rfl) (fun _ => rfl) fun H5 w5 s5 => ?_
    have fl : ∀ x ∈ flI (1 + z).toNat (fun i => r + m * i), x.natAbs.log2 < 1920 := fun x hx => by
      obtain ⟨j, hj, rfl⟩ := flI_mem hx
      have j9 : (j : Int) ≤ 8 := by omega
      have l0 : 0 ≤ m * (j : Int) := Int.mul_nonneg (by omega) (by omega)
      have l1 : m * (j : Int) ≤ 40 * (j : Int) := Int.mul_le_mul_of_nonneg_right m40 (by omega)
      exact Sm.log (by show _ < _; omega)
    obtain ⟨a1, a2, a3, a4⟩ := ints_show (K := K) (flI (1 + z).toNat (fun i => r + m * i)) fl (by rw [flI_len]; omega) w5
    refine ⟨_, rfl, _, _, rfl, a1, a2, a3, a4, _, rfl, 1 + z, rfl, ?_⟩
    refine ⟨by omega, by omega, fun D2 hD2 => ?_⟩
    refine lc_range (lo := 0) (n := (1 + z).toNat) (fun i Hh => Hh D2 = some (.lst ((flI i (fun i => r + m * i)).map V.int)) ∧ Same H5 Hh) ⟨upd_same, same_new hD2⟩ ?_ ?_
    · rintro i Hh hi ⟨g1, s⟩
      refine ⟨rfl, yes_go ⟨_, rfl, _, rfl, _, rfl, _, _, rfl, rfl, by rw [Int.zero_add]; exact cm i hi, _, _, rfl, rfl, _, g1, by rw [List.length_map, flI_len, sizeLine_eq]; omega, ?_, fun b o e => ?_⟩⟩
      · rw [upd_same, flI_succ, Int.zero_add]
      · rw [upd_ne (ne_of_none e hD2)]
        exact s _ _ e
    rintro H6 ⟨w6, s6⟩
    obtain ⟨c1, c2, c3, c4⟩ := ints_show (K := K) (flI (1 + z).toNat (fun i => r + m * i)) fl (by rw [flI_len]; omega) w6
    refine ⟨_, _, rfl, c1, c2, c3, c4, rfl, _, rfl, iteNS rfl ?_⟩
    refine ⟨_, rfl, _, rfl, _, rfl, rfl, _, ⟨r, m, 1 + z, rfl, m1, r0, r1, t1, cm, rfl⟩, fun D3 hD3 => ?_⟩
    refine lcG_ints hD3 (by rw [sizeLine_eq]; omega) (fun _ => rfl) (fun _ => rfl) fun H7 w7 s7 => ?_
    have w75 := s7 _ _ (s6 _ _ w5)
    refine ⟨_, rfl, .list ((flI (1 + z).toNat (fun i => r + m * i)).map .int), .list ((flI (1 + z).toNat (fun i => r + m * i)).map .int), .lst (SqL.of w7) (dp_ints _), .lst (SqL.of w75) (dp_ints _), shaped_lstI _, shaped_lstI _, ?_⟩
    rw [eqv_lstI, decide_eq_true rfl]
    refine ⟨_, rfl, iteF ?_⟩
    have s37 := (s5.trans s6).trans s7
    have p7 := pen_same p4 s37
    have k7 := k4.trans (but_same s37)
    -- the line
    refine ⟨_, rfl, pn, 9, n + 3, rfl, by decide, by decide, p7, by omega, fun da H8 a8 b8 p8 u8 => ⟨_, _, rfl, rfl, ?_⟩⟩
    refine ⟨_, rfl, pn, 99, n + 4, rfl, by decide, by decide, p8, by omega, fun db H9 a9 b9 p9 u9 => ⟨_, _, rfl, rfl, fun x dx hx hd ne => ?_⟩⟩
    refine init_at hx hd ne fun H10 lx s10 => ?_
    have p10 := pen_same p9 s10
    have nD : D ≠ pn := pen_ne p4 hD
    have w10 := s10 _ _ (u9 _ _ (u8 _ _ w75 nD) nD)
    have k10 := ((k7.trans u8).trans u9).trans (but_same s10)
    refine ⟨_, rfl, _, _, rfl, rfl, ⟨by decide, by decide, by decide⟩, pn, _, n + 5, rfl, by decide, by decide, p10, by omega, fun dc H11 a11 b11 p11 u11 => ?_⟩
    have b11' : dc < 10 ^ 20 := b11
    refine ⟨(by show 6 ≤ sizeLine; decide), fun l12 hl12 => ?_⟩
    have s12 := same_new (o := .lst ([0, 1, 2, 3, 4, dc].map V.int)) hl12
    have w12 : (upd H11 l12 (.lst ([0, 1, 2, 3, 4, dc].map V.int))) l12 = some (.lst ([0, 1, 2, 3, 4, dc].map V.int)) := upd_same
    have p12 := pen_same p11 s12
    have k12 := (k10.trans u11).trans (but_same s12)
    have wD := s12 _ _ (u11 _ _ w10 nD)
    have lx12 := (line_but lx p10 u11).same s12
    refine ⟨l12, rfl, ⟨_, SqL.of w12⟩, for_list (K := K) (a := l12) (xs := [0, 1, 2, 3, 4, dc].map V.int) (fun i σ H' => ∃ v5 v6 v8 v9 v10 v11, σ = [some (.ref pn), some (.int m), some (.int r), some (.int (1 + z)), some (.ref D), v5, v6, some (.ref x), v8, v9, v10, v11] ∧ Same (upd H11 l12 (.lst ([0, 1, 2, 3, 4, dc].map V.int))) H')
        ⟨none, none, none, none, none, none, rfl, fun b o e => e⟩ (fun i σ H' _ h => by obtain ⟨_, _, _, _, _, _, _, s⟩ := h; exact SqL.of (s _ _ w12)) ?_ ?_⟩
    · rintro i xv σ H' hi ⟨v5, v6, v8, v9, v10, v11, rfl, s⟩
      obtain ⟨a, rfl, hm⟩ := mem_ints (List.mem_of_getElem? hi)
      have a0 : 0 ≤ a ∧ a < 10 ^ 20 := by
        simp only [List.mem_cons, List.mem_nil_iff, or_false] at hm
        rcases hm with e | e | e | e | e | e <;> omega
      have ma : m * a ≤ 40 * a := Int.mul_le_mul_of_nonneg_right m40 a0.1
      have ma0 : 0 ≤ m * a := Int.mul_nonneg (by omega) a0.1
      refine ⟨_, rfl, _, rfl, _, rfl, .int r, .int a, .int m, _, _, _, rfl, .int _, .int _, .int m, fun r' n' m' er en em _ _ _ _ => ?_, no_low m1, fun m' em _ => ?_, fun _ _ _ _ _ _ _ => no_low a0.1⟩
      rotate_left
      · cases em
        exact no_rest r0 r1
      cases er
      cases en
      cases em
      refine ⟨Sm.mul (i := 100) (j := 200) (by omega) (by omega), ?_⟩
      refine ⟨_, rfl, _, rfl, _, rfl, ?_⟩
      have mt1 : 1 ≤ m * (1 + z) := by
        have := Int.mul_le_mul_of_nonneg_right m1 (show 0 ≤ 1 + z by omega)
        omega
      have mt2 : m * (1 + z) ≤ 40 * 9 := by
        have x1 := Int.mul_le_mul_of_nonneg_right m40 (show 0 ≤ 1 + z by omega)
        omega
      have lg2 : (m * (1 + z)).natAbs.log2 < 9000 := Nat.lt_of_lt_of_le (PySem.Flt.log2_lt_of (k := 10) (by decide) (by omega)) (by decide)
      refine ⟨_, _, rfl, rfl, .inl ⟨by omega, by omega⟩, .int (m * a + r), .int (m * (1 + z)), _, _, rfl, .int _, .int _, fun n' m' en _ _ em _ => ?_, no_len (by omega) (by omega), fun _ => no_low mt1⟩
      cases en
      cases em
      refine ⟨lg2, fun t5 ht5 => ?_⟩
      obtain ⟨f1, f2⟩ := fine_mod (a := a) m1 t1 r0 r1
      rw [f1, f2]
      have s5' := same_new (o := .tup [.int (r + m * (a % (1 + z))), .int (a / (1 + z))]) ht5
      refine ⟨t5, _, rfl, SqT.of upd_same, rfl, _, _, rfl, _, _, rfl, rfl, ?_⟩
      have ht0 := Int.emod_nonneg a (show 1 + z ≠ 0 by omega)
      have ht1 := Int.emod_lt_of_pos a (show 0 < 1 + z by omega)
      obtain ⟨j, hj⟩ : ∃ j : Nat, a % (1 + z) = j := ⟨(a % (1 + z)).toNat, by omega⟩
      have jl : j < (1 + z).toNat := by omega
      have s13 := s.trans s5'
      have wD' := s13 _ _ wD
      have fj := flI_at (fun i => r + m * i) jl
      rw [hj] at s5' s13 wD' ⊢
      have at_j : ((flI (1 + z).toNat (fun i => r + m * i)).map V.int)[j]? = some (.int (r + m * (j : Int))) := by rw [List.getElem?_map, fj]; rfl
      have flat : ((flI (1 + z).toNat (fun i => r + m * i)).map V.int).all flatV = true := by rw [List.all_map]; exact List.all_eq_true.mpr fun _ _ => rfl
      have hin : inV (.int (r + m * (j : Int))) ((flI (1 + z).toNat (fun i => r + m * i)).map V.int) = true := List.any_eq_true.mpr ⟨_, List.mem_of_getElem? at_j, by simp [eqV]⟩
      refine ⟨_, rfl, _, rfl, D, _, rfl, .inl (SqL.of wD'), rfl, flat, ?_⟩
      rw [hin]
      refine ⟨_, rfl, iteF ?_⟩
      have lx13 := lx12.same s13
      obtain ⟨dq, ex13⟩ := id lx13
      have sA : (da - 4).natAbs < 2 ^ 100 := by omega
      refine ⟨_, rfl, x, dq, _, rfl, ex13, lfs_no _ _ (by decide +kernel) (by decide +kernel), _, rfl, _, rfl, .inl ⟨rfl, _, SqL.of wD'⟩, _, rfl, D, _, _, j, _, rfl, rfl, SqL.of wD', rfl, flat, at_j, by simp [eqV], fun i' z' hi' hz' => ?_, ?_⟩
      · rw [List.getElem?_map, flI_at _ (by omega)] at hz'
        cases hz'
        show ((r + m * (i' : Int)) == (r + m * (j : Int))) = false
        refine beq_eq_false_iff_ne.mpr fun e => ?_
        have := fine_inj m1 e
        omega
      refine ⟨x, da - 4, db - 50, .int (1 + z), .int (j : Int), _, _, rfl, lx13, .int _, .int _, fun t' r' et er _ _ _ => ?_, no_low t1, fun t' et _ => ?_⟩
      rotate_left
      · cases et
        exact no_rest (by omega) (by omega)
      cases et
      cases er
      refine ⟨Sm.mul (i := 100) (j := 100) sA (by omega), Sm.mul (i := 100) (j := 100) sA (by omega), fun q H14 hq hlq s14 => ?_⟩
      obtain ⟨dq2, eq2⟩ := id hlq
      have hat : 0 ≤ a / (1 + z) ∧ a / (1 + z) ≤ a := ⟨Int.ediv_nonneg a0.1 (by omega), Int.ediv_le_self _ a0.1⟩
      refine ⟨q, rfl, _, rfl, .inr ⟨_, _, eq2⟩, q, _, _, _, _, rfl, hlq, .int _, fun m' em h0 => ?_, no_low hat.1⟩
      cases em
      refine ⟨Sm.mul (i := 200) (j := 200) (wide_lt sA (show (1 + z).natAbs < 2 ^ 100 by omega)) (by omega), ?_⟩
      refine ⟨_, rfl, x, rfl, _, rfl, .inr ⟨_, _, s14 _ _ ex13⟩, x, _, _, _, _, rfl, lx13.same s14, .int _, fun m' em h0 => ?_, no_low a0.1⟩
      cases em
      refine ⟨Sm.mul (i := 100) (j := 200) sA (by omega), rfl, _, rfl, iteNS ?_ ?_⟩
      · rw [← hj, fine_line]
      exact ⟨_, _, _, _, _, _, rfl, s13.trans s14⟩
    · rintro σ H' ⟨v5, v6, v8, v9, v10, v11, rfl, s⟩
      exact k _ (pen_same p12 s) (k12.trans (but_same s))
end
end My
set_option pp.maxSteps 1500
set_option pp.deepTerms.threshold 8
/-! ### far right -/
namespace My
open PySem PySem.Spec PyProof.Rows L2 GenW
abbrev s_farR : Stmt := topS 34
theorem sc_farR : FnScope ["_law_found", "_law_some", "_law_one"] [] (defScope s_farR) := ⟨rfl, rfl, rfl, by decide +kernel, rfl, by decide +kernel, by decide +kernel⟩
def spFarR : Sp := fun vs H Q _ => vs = [] ∧ ∀ (H' : Hp), Same H H' → Q (.bl true) H'
section
variable {P : Program} {w : World} {K : PySem.W.Frag} {mg : Str → Option Value} {base : Heap} {CE CLine CB fB CR fR CN fN : Addr} {tG : Tok}
theorem ok_farR {f : Addr} {fd : FuncData} (F : Fun K "_law_far_right" "_law_far_right" s_farR f fd) (T : MTx P K mg CLine CB fB CR fR CN fN tG)
    (G_rests : GnAt P w K mg base 5 "rests" ["modulus"] spRests) (G_finer : GnAt P w K mg base 5 "finer" ["rest", "modulus", "times"] spFiner) :
    FnOk P w K mg base CX0 8 f fd [] spFarR := by
  refine F.ok sc_farR (fun vs H Q E h => ?_) (fun cdv A outer s H vs Q E hr h => ?_)
  · obtain ⟨rfl, _⟩ := h
    rfl
  · obtain ⟨rfl, k⟩ := h
    refine ⟨_, (pss_cons (ps_par (i := 0) (j := 1) (by rfl) sc_farR.nd rfl rfl (by decide) rfl rfl (pa_cons (pe_lst pa_nil) (pa_cons (pe_lst pa_nil) pa_nil)) (by rfl))
      (pss_cons (My.ps_forG0 (fun _ _ z => z) rfl (My.pig_d G_rests rfl (hr.mono (by decide)) (by rfl) (pa_cons (pe_op op_pow pe_int pe_int) pa_nil)) (pg_name (i := 2) sc_farR.nd rfl (Or.inl rfl)) (pss_cons (ps_expr (pe_bm PySem.F.plainAttrs_list PySem.F.slot_list_append PySem.F.type_list_append mt_append (pv 0) (pa_cons (pv 2) pa_nil)))
      (pss_one (ps_if (pt_cmpR op_eq (pe_callB call_len (by rfl) T.z_len PySem.boot_len (pa_cons (pv 0) pa_nil)) pe_int (nomark _)) (pss_one ps_break) pss_nil))))
      (pss_cons (My.ps_forG0 (fun _ _ z => z) rfl (My.pig_d G_finer rfl (hr.mono (by decide)) (by rfl) (pa_cons pe_int (pa_cons (pe_op op_pow pe_int pe_int) (pa_cons (pe_op op_pow pe_int pe_int) pa_nil)))) (pg_name (i := 2) sc_farR.nd rfl (Or.inl rfl)) (pss_cons (ps_expr (pe_bm PySem.F.plainAttrs_list PySem.F.slot_list_append PySem.F.type_list_append mt_append (pv 1) (pa_cons (pv 2) pa_nil)))
      (pss_one (ps_if (pt_cmpR op_eq (pe_callB call_len (by rfl) T.z_len PySem.boot_len (pa_cons (pv 1) pa_nil)) pe_int (nomark _)) (pss_one ps_break) pss_nil))))
      (pss_one (ps_ret (pe_cmpR (op_eqD hr.units) (pe_op op_cat (pv 0) (pv 1)) (pe_lst (pa_cons pe_int (pa_cons pe_int (pa_cons pe_int (pa_cons (pe_op op_add (pe_op op_pow pe_int pe_int) pe_int) pa_nil))))) (nomark _))))))), ?_⟩
    refine ⟨(by show 0 ≤ sizeLine; decide), fun l1 h1 => ⟨(by show 0 ≤ sizeLine; decide), fun l2 h2 => ?_⟩⟩
    have s2 := (same_new (o := .lst []) h1).trans (same_new (o := .lst []) h2)
    have w1 := same_new (o := .lst []) h2 _ _ (upd_same (H := H) (a := l1) (o := .lst []))
    have w2 : upd (upd H l1 (.lst [])) l2 (.lst []) l2 = some (.lst []) := upd_same
    have ne : l1 ≠ l2 := fun z => by rw [z, upd_same] at h2; cases h2
    have n1 : H l1 = none := h1
    have n2 : H l2 = none := by rw [upd_ne ne.symm] at h2; exact h2
    refine ⟨_, _, rfl, _, _, rfl, rfl, ⟨by decide, by decide, by decide⟩, _, ⟨10 ^ Int.toNat 50, rfl, by decide, rfl⟩, ?_⟩
    refine forG_it walk_intG (fun i σ H' => i < 2 ∧ ∃ v, σ = [some (.ref l1), some (.ref l2), v] ∧ H' l1 = some (.lst ((flI i fun j => (j : Int)).map V.int)) ∧ H' l2 = some (.lst []) ∧ (∀ b o, H b = some o → H' b = some o)) ⟨by decide, _, rfl, w1, w2, s2⟩ (fun _ _ _ _ _ => trivial) ?_ ?_
    · rintro i x σ Ha Hb hi ⟨i2, v, rfl, g1, g2, s⟩ ⟨rfl, rfl⟩
      have e3 : upd Hb l1 (.lst ((flI i fun j => (j : Int)).map V.int ++ [.int (i : Nat)])) l1 = some (.lst ((flI (i + 1) fun j => (j : Int)).map V.int)) := by rw [upd_same, flI_succ]
      have e4 : upd Hb l1 (.lst ((flI i fun j => (j : Int)).map V.int ++ [.int (i : Nat)])) l2 = some (.lst []) := by rw [upd_ne ne.symm]; exact g2
      have s4 : ∀ b o, H b = some o → upd Hb l1 (.lst ((flI i fun j => (j : Int)).map V.int ++ [.int (i : Nat)])) b = some o := fun b o e => by rw [upd_ne (ne_of_none e n1)]; exact s _ _ e
      refine ⟨_, rfl, .inl ⟨rfl, _, SqL.of g1⟩, _, rfl, l1, _, _, rfl, rfl, g1, (by rw [List.length_map, flI_len, sizeLine_eq]; omega), ?_⟩
      refine ⟨_, rfl, _, _, rfl, .inl ⟨_, SqL.of e3, rfl⟩, rfl, _, rfl, ?_⟩
      have hdec : decide (V.int (((flI (i + 1) fun j => (j : Int)).map V.int).length : Nat) = V.int 2) = decide (i = 1) := by
        rw [List.length_map, flI_len]
        exact decide_eq_decide.mpr ⟨fun z => by injection z with z; omega, fun z => by subst z; rfl⟩
      rw [hdec]
      have hi2 : i = 0 ∨ i = 1 := by omega
      rcases hi2 with rfl | rfl
      · exact iteF ⟨by omega, _, rfl, e3, e4, s4⟩
      refine iteT ?_
      generalize upd Hb l1 _ = Hc at e3 e4 s4 ⊢
      refine ⟨_, _, rfl, rfl, ⟨by decide, by decide, by decide⟩, _, _, rfl, rfl, ⟨by decide, by decide, by decide⟩, _, ⟨1, 10 ^ Int.toNat 40, 10 ^ Int.toNat 9, rfl, by decide, by decide, by decide, by decide, ?_, rfl⟩, ?_⟩
      · intro j hj
        have hj' : (j : Int) < 10 ^ 9 := by
          have hj2 : j < (10 ^ Int.toNat 9 : Int).toNat := hj
          have e9 : (10 ^ Int.toNat 9 : Int).toNat = 10 ^ 9 := by decide +kernel
          rw [e9] at hj2
          omega
        exact Sm.mul (i := 200) (j := 200) (by decide +kernel) (by omega)
      · have c0 : Hc l1 = some (.lst ([0, 1].map V.int)) := e3
        refine forG_it walk_intG (fun i σ H' => i < 2 ∧ ∃ v, σ = [some (.ref l1), some (.ref l2), v] ∧ H' l1 = some (.lst ([0, 1].map V.int)) ∧ H' l2 = some (.lst ((flI i fun j => 1 + 10 ^ Int.toNat 40 * (j : Int)).map V.int)) ∧ (∀ b o, H b = some o → H' b = some o)) ⟨by decide, _, rfl, c0, e4, s4⟩ (fun _ _ _ _ _ => trivial) ?_ ?_
        · rintro i x σ Ha Hd hi ⟨i2, v, rfl, g1, g2, s⟩ ⟨rfl, rfl⟩
          have e5 : upd Hd l2 (.lst ((flI i fun j => 1 + 10 ^ Int.toNat 40 * (j : Int)).map V.int ++ [.int (1 + 10 ^ Int.toNat 40 * (i : Nat))])) l2 = some (.lst ((flI (i + 1) fun j => 1 + 10 ^ Int.toNat 40 * (j : Int)).map V.int)) := by rw [upd_same, flI_succ]
          have e6 : upd Hd l2 (.lst ((flI i fun j => 1 + 10 ^ Int.toNat 40 * (j : Int)).map V.int ++ [.int (1 + 10 ^ Int.toNat 40 * (i : Nat))])) l1 = some (.lst ([0, 1].map V.int)) := by rw [upd_ne ne]; exact g1
          have s5 : ∀ b o, H b = some o → upd Hd l2 (.lst ((flI i fun j => 1 + 10 ^ Int.toNat 40 * (j : Int)).map V.int ++ [.int (1 + 10 ^ Int.toNat 40 * (i : Nat))])) b = some o := fun b o e => by rw [upd_ne (ne_of_none e n2)]; exact s _ _ e
          refine ⟨_, rfl, .inl ⟨rfl, _, SqL.of g2⟩, _, rfl, l2, _, _, rfl, rfl, g2, (by rw [List.length_map, flI_len, sizeLine_eq]; omega), ?_⟩
          refine ⟨_, rfl, _, _, rfl, .inl ⟨_, SqL.of e5, rfl⟩, rfl, _, rfl, ?_⟩
          have hdec : decide (V.int (((flI (i + 1) fun j => 1 + 10 ^ Int.toNat 40 * (j : Int)).map V.int).length : Nat) = V.int 2) = decide (i = 1) := by
            rw [List.length_map, flI_len]
            exact decide_eq_decide.mpr ⟨fun z => by injection z with z; omega, fun z => by subst z; rfl⟩
          rw [hdec]
          have hi2 : i = 0 ∨ i = 1 := by omega
          rcases hi2 with rfl | rfl
          · exact iteF ⟨by omega, _, rfl, e6, e5, s5⟩
          refine iteT ?_
          generalize upd Hd l2 _ = He at e5 e6 s5 ⊢
          refine ⟨_, rfl, _, rfl, l1, l2, _, _, rfl, rfl, e6, e5, (by show 2 + 2 ≤ sizeLine; decide), fun l3 h3 => ?_⟩
          refine ⟨_, _, rfl, rfl, ⟨by decide, by decide, by decide⟩, _, _, rfl, rfl, (by show 4 ≤ sizeLine; decide), fun l4 h4 => ?_⟩
          have s6 := (same_new (o := .lst ([0, 1].map V.int ++ (flI 2 fun j => 1 + 10 ^ Int.toNat 40 * (j : Int)).map V.int)) h3).trans (same_new (o := .lst [.int 0, .int 1, .int 1, .int (10 ^ Int.toNat 40 + 1)]) h4)
          have w6 := same_new (o := .lst [.int 0, .int 1, .int 1, .int (10 ^ Int.toNat 40 + 1)]) h4 _ _ (upd_same (H := He) (a := l3) (o := .lst ([0, 1].map V.int ++ (flI 2 fun j => 1 + 10 ^ Int.toNat 40 * (j : Int)).map V.int)))
          refine ⟨.list ([0, 1, 1, 10 ^ Int.toNat 40 + 1].map .int), .list ([0, 1, 1, 10 ^ Int.toNat 40 + 1].map .int), .lst (SqL.of w6) (dp_ints [0, 1, 1, 10 ^ Int.toNat 40 + 1]), .lst (SqL.of upd_same) (dp_ints [0, 1, 1, 10 ^ Int.toNat 40 + 1]), by decide +kernel, by decide +kernel, ?_⟩
          rw [eqv_lstI, decide_eq_true rfl]
          exact k _ fun b o e => s6 _ _ (s5 _ _ e)
        · rintro σ H' ⟨z, _⟩
          exact absurd z (by decide +kernel)
    · rintro σ H' ⟨z, _⟩
      exact absurd z (by decide +kernel)
end
end My
/-! == and != of data with any texts. -/
namespace My
open PySem PySem.Spec PyProof.Rows L2
section
variable {X : Cx}
def rEqP (K : PySem.W.Frag) : R2 := fun x y H Q => ∃ d e, Dp K H x d ∧ Dp K H y e ∧ d.plain = true ∧ e.plain = true ∧ min d.depth e.depth ≤ 60 ∧ Q (.bl (PyData.eqv d e)) H
def rNeP (K : PySem.W.Frag) : R2 := fun x y H Q => ∃ d e, Dp K H x d ∧ Dp K H y e ∧ d.plain = true ∧ e.plain = true ∧ min d.depth e.depth ≤ 60 ∧ Q (.bl (!PyData.eqv d e)) H
theorem op_eqP (hu : X.A.units + 64 < cLine) : OpR X (compareOp .Eq) (rEqP X.K) := by
  intro pins s σ H x y v u Q I rx ry h
  obtain ⟨d, e, hd, he, sd, se, dp, q⟩ := h
  obtain ⟨as, r1⟩ := Dp.reads I d x v hd rx
  obtain ⟨bs, r2⟩ := Dp.reads I e y u he ry
  exact SeqAt.eq_plain r1 r2 sd se (by omega) ⟨.bl _, H, I, rfl, q⟩
theorem op_neP (hu : X.A.units + 64 < cLine) : OpR X (compareOp .NotEq) (rNeP X.K) := by
  intro pins s σ H x y v u Q I rx ry h
  obtain ⟨d, e, hd, he, sd, se, dp, q⟩ := h
  obtain ⟨as, r1⟩ := Dp.reads I d x v hd rx
  obtain ⟨bs, r2⟩ := Dp.reads I e y u he ry
  exact SeqAt.ne_plain r1 r2 sd se (by omega) ⟨.bl _, H, I, rfl, q⟩
theorem plain_strs : ∀ zs : List Str, PyData.plainAll (zs.map PyData.str) = true
  | [] => rfl
  | z :: zs => by
    show (true && PyData.plainAll (zs.map PyData.str)) = true
    rw [plain_strs zs]
    rfl
end
end My
set_option pp.maxSteps 1500
set_option pp.deepTerms.threshold 8
/-! ### refused right -/
namespace My
open PySem PySem.Spec PyProof.Rows L2 GenW
abbrev s_refusedR : Stmt := topS 33
theorem sc_refusedR : FnScope ["_law_pen_here", "_law_many", "_law_odd", "_law_wrong", "_law_heard_here", "_law_over", "_law_back", "_law_shown"] ["_law_pen_here", "_law_many"] (defScope s_refusedR) := ⟨rfl, rfl, rfl, by decide +kernel, rfl, by decide +kernel, by decide +kernel⟩
theorem sql_ext {K : PySem.W.Frag} {H H' : Hp} {a : Addr} {xs : List V} (e : LamX.ExtN H H') (h : SqL K H a xs) : SqL K H' a xs := by
  rcases h with (h | ⟨o, h⟩) | h
  · exact .inl (.inl (e _ _ h (by intro ps z; cases z)))
  · exact .inl (.inr ⟨o, e _ _ h (by intro ps z; cases z)⟩)
  · exact .inr h
theorem sqt_ext {K : PySem.W.Frag} {H H' : Hp} {a : Addr} {xs : List V} (e : LamX.ExtN H H') (h : SqT K H a xs) : SqT K H' a xs := by
  rcases h with (h | ⟨o, h⟩) | h
  · exact .inl (.inl (e _ _ h (by intro ps z; cases z)))
  · exact .inl (.inr ⟨o, e _ _ h (by intro ps z; cases z)⟩)
  · exact .inr h
mutual
theorem dp_ext {K : PySem.W.Frag} {H H' : Hp} (k : LamX.ExtN H H') : ∀ (d : PyData) (v : V), Dp K H v d → Dp K H' v d
  | _, _, .non => .non
  | _, _, .bl b => .bl b
  | _, _, .int i => .int i
  | _, _, .str x => .str x
  | .list ds, _, .lst h ha => .lst (sql_ext k h) (dp_extAll k ds _ ha)
  | .tuple ds, _, .tup h ha => .tup (sqt_ext k h) (dp_extAll k ds _ ha)
theorem dp_extAll {K : PySem.W.Frag} {H H' : Hp} (k : LamX.ExtN H H') : ∀ (ds : List PyData) (vs : List V), DpAll K H vs ds → DpAll K H' vs ds
  | [], _, .nil => .nil
  | d :: ds, _, .cons h1 h2 => .cons (dp_ext k d _ h1) (dp_extAll k ds _ h2)
end
/-- a value of a built-in kind, shown as dat -/
structure VD (K : PySem.W.Frag) (H : Hp) (v : V) (dat : PyData) : Prop where
  ty : ∃ t, Ty0 H v t
  dr : Dp K H v dat
  sh : dat.showable = true
  dp : dat.depth ≤ 60
  ln : dat.shown.length ≤ 1000
theorem VD.ext {K : PySem.W.Frag} {H H' : Hp} {v : V} {dat : PyData} (h : VD K H v dat) (k : LamX.ExtN H H') : VD K H' v dat := by
  obtain ⟨t, h1⟩ := h.ty
  exact ⟨⟨t, ty_ext h1 k⟩, dp_ext k _ _ h.dr, h.sh, h.dp, h.ln⟩
theorem vd_non {K : PySem.W.Frag} {H : Hp} : VD K H .non .none := ⟨⟨_, .non⟩, .non, rfl, by decide, by decide +kernel⟩
theorem vd_bl {K : PySem.W.Frag} {H : Hp} (b : Bool) : VD K H (.bl b) (.bool b) := ⟨⟨_, .bl b⟩, .bl b, rfl, (by show 0 ≤ 60; decide), by cases b <;> decide +kernel⟩
theorem vd_str {K : PySem.W.Frag} {H : Hp} (x : Str) (h : (PyData.str x).shown.length ≤ 1000) : VD K H (.str x) (.str x) := ⟨⟨_, .str x⟩, .str x, rfl, (by show 0 ≤ 60; decide), h⟩
theorem vd_int {K : PySem.W.Frag} {H : Hp} {i : Int} (h : i.natAbs < 2 ^ 300) : VD K H (.int i) (.int i) := ⟨⟨_, .int i⟩, .int i, by
    show decide (i.natAbs.log2 < 1920) = true
    exact decide_eq_true (Sm.log h), (by show 0 ≤ 60; decide), by
    have e := int_text_length_le (k := 900) (by decide) (Nat.lt_of_lt_of_le (PySem.Flt.log2_lt_of (k := 300) (by decide) h) (by decide))
    show ((toString i : String) : Str).length ≤ 1000
    show (Str.ofString (toString i)).length ≤ 1000
    rw [PySem.ofString_length]
    omega⟩
theorem vd_nil {K : PySem.W.Frag} {H : Hp} {a : Addr} (e : H a = some (.lst [])) : VD K H (.ref a) (.list []) := ⟨⟨_, .lst e⟩, .lst (SqL.of e) .nil, rfl, by decide, by decide +kernel⟩
theorem vd_tup1 {K : PySem.W.Frag} {H : Hp} {a : Addr} {i : Int} (e : H a = some (.tup [.int i])) (h : (PyData.tuple [.int i]).shown.length ≤ 1000 := by decide +kernel) (h2 : (PyData.tuple [.int i]).showable = true := by decide) : VD K H (.ref a) (.tuple [.int i]) := ⟨⟨_, .tup e⟩, .tup (SqT.of e) (.cons (.int i) .nil), h2, (by show 1 ≤ 60; decide), h⟩
/-! ### what is drawn -/
theorem odd_of {K : PySem.W.Frag} {H : Hp} {v : V} {t1 t2 : Addr} (h1 : H t1 = some (.tup [.int 0])) (h2 : H t2 = some (.lst [])) (hv : v ∈ [V.non, .bl true, .int (-1), .str "0", .ref t1, .int (10 ^ Int.toNat 40 + 1), .ref t2]) : ∃ dat, VD K H v dat ∧ lenB v (10 ^ 40) = false := by
  simp only [List.mem_cons, List.mem_nil_iff, or_false] at hv
  rcases hv with rfl | rfl | rfl | rfl | rfl | rfl | rfl
  · exact ⟨_, vd_non, rfl⟩
  · exact ⟨_, vd_bl _, rfl⟩
  · exact ⟨_, vd_int (by decide), by decide +kernel⟩
  · exact ⟨_, vd_str _ (by decide +kernel), rfl⟩
  · exact ⟨_, vd_tup1 h1, rfl⟩
  · exact ⟨_, vd_int (by decide +kernel), by decide +kernel⟩
  · exact ⟨_, vd_nil h2, rfl⟩
theorem wrong_of {H : Hp} {v : V} {t1 t2 : Addr} (h1 : H t1 = some (.lst [])) (h2 : H t2 = some (.tup [.int 1])) (hv : v ∈ [V.non, .bl false, .int 0, .int (-3), .str "2", .ref t1, .ref t2]) : (∃ t, Ty0 H v t) ∧ Low v 1 := by
  simp only [List.mem_cons, List.mem_nil_iff, or_false] at hv
  rcases hv with rfl | rfl | rfl | rfl | rfl | rfl | rfl
  · exact ⟨⟨_, .non⟩, .inl rfl⟩
  · exact ⟨⟨_, .bl _⟩, .inl rfl⟩
  · exact ⟨⟨_, .int _⟩, .inr ⟨_, rfl, by decide⟩⟩
  · exact ⟨⟨_, .int _⟩, .inr ⟨_, rfl, by decide⟩⟩
  · exact ⟨⟨_, .str _⟩, .inl rfl⟩
  · exact ⟨⟨_, .lst h1⟩, .inl rfl⟩
  · exact ⟨⟨_, .tup h2⟩, .inl rfl⟩
theorem over_of {K : PySem.W.Frag} {H : Hp} {v : V} {m : Int} (m1 : 1 ≤ m) (m2 : m ≤ 40) (hv : v ∈ [V.int m, .int (-1), .non, .bl true, .str "0", .int (m + 10 ^ Int.toNat 30)]) : ∃ dat, VD K H v dat ∧ NoRest v m := by
  have e30 : (10 : Int) ^ Int.toNat 30 = 10 ^ 30 := rfl
  rw [e30] at hv
  simp only [List.mem_cons, List.mem_nil_iff, or_false] at hv
  rcases hv with rfl | rfl | rfl | rfl | rfl | rfl
  · exact ⟨_, vd_int (by omega), .inr ⟨_, rfl, by omega⟩⟩
  · exact ⟨_, vd_int (by decide), .inr ⟨_, rfl, by omega⟩⟩
  · exact ⟨_, vd_non, .inl rfl⟩
  · exact ⟨_, vd_bl _, .inl rfl⟩
  · exact ⟨_, vd_str _ (by decide +kernel), .inl rfl⟩
  · exact ⟨_, vd_int (by omega), .inr ⟨_, rfl, by omega⟩⟩
theorem back_of {H : Hp} {v : V} {t1 t2 : Addr} (h1 : H t1 = some (.tup [.int 0])) (h2 : H t2 = some (.lst [])) (hv : v ∈ [V.non, .bl true, .int (-1), .str "0", .ref t1, .ref t2]) : (∃ t, Ty0 H v t) ∧ Low v 0 := by
  simp only [List.mem_cons, List.mem_nil_iff, or_false] at hv
  rcases hv with rfl | rfl | rfl | rfl | rfl | rfl
  · exact ⟨⟨_, .non⟩, .inl rfl⟩
  · exact ⟨⟨_, .bl _⟩, .inl rfl⟩
  · exact ⟨⟨_, .int _⟩, .inr ⟨_, rfl, by decide⟩⟩
  · exact ⟨⟨_, .str _⟩, .inl rfl⟩
  · exact ⟨⟨_, .tup h1⟩, .inl rfl⟩
  · exact ⟨⟨_, .lst h2⟩, .inl rfl⟩
/-! ### what heard tells of each -/
section
variable {K : PySem.W.Frag} {CB CR CN : Addr} {H : Hp} {Q : VK}
theorem er_part {x : Str} (k : ∀ t H', H t = none → Same H H' → H' t = some (.tup [.str "part", .str x]) → Q (.ref t) H') : Errs (WHeard K CB CR CN Q) CB "part" (.str x) H := fun d H' hd hx s =>
  .inl ⟨d, _, rfl, rfl, hx, fun t H'' ht s' w => k t H'' (s.free ht) (s.trans s') w⟩
theorem er_rest {v : V} {dat : PyData} (h : VD K H v dat) (k : ∀ t H', H t = none → Same H H' → H' t = some (.tup [.str "rest", .str dat.shown]) → Q (.ref t) H') : Errs (WHeard K CB CR CN Q) CR "value" v H := fun d H' hd hx s =>
  .inr ⟨CR, "rest", d, v, dat, .inl ⟨rfl, rfl⟩, rfl, rfl, hx, dr_same s (.inl h.dr), h.sh, h.dp, Nat.le_trans h.ln (by decide), fun t H'' ht s' w => k t H'' (s.free ht) (s.trans s') w⟩
theorem er_len {v : V} {dat : PyData} (h : VD K H v dat) (k : ∀ t H', H t = none → Same H H' → H' t = some (.tup [.str "length", .str dat.shown]) → Q (.ref t) H') : Errs (WHeard K CB CR CN Q) CN "value" v H := fun d H' hd hx s =>
  .inr ⟨CN, "length", d, v, dat, .inr ⟨rfl, rfl⟩, rfl, rfl, hx, dr_same s (.inl h.dr), h.sh, h.dp, Nat.le_trans h.ln (by decide), fun t H'' ht s' w => k t H'' (s.free ht) (s.trans s') w⟩
theorem er_own {E : XK} {C CR : Addr} {f : Str} {v : V} (h : C = CB ∨ C = CR) (k : Errs E C f v H) : Errs (OwnE CB CR E) C f v H := fun d H' hd hx s => ⟨by rcases h with rfl | rfl <;> first | exact .inl rfl | exact .inr rfl, k d H' hd hx s⟩
end
/-! ### what was heard, in a list -/
/-- tuples of two texts, one after another -/
inductive Rows2 (H : Hp) : List V → List (Str × Str) → Prop where
  | nil : Rows2 H [] []
  | snoc {xs : List V} {ts : List (Str × Str)} {a : Addr} {x y : Str} (h : Rows2 H xs ts) (e : H a = some (.tup [.str x, .str y])) : Rows2 H (xs ++ [.ref a]) (ts ++ [(x, y)])
theorem Rows2.keep {H H' : Hp} {xs : List V} {ts : List (Str × Str)} (h : Rows2 H xs ts) (k : ∀ a x, H a = some (.tup x) → H' a = some (.tup x)) : Rows2 H' xs ts := by
  induction h with
  | nil => exact .nil
  | snoc _ e ih => exact .snoc ih (k _ _ e)
theorem Rows2.len {H : Hp} {xs : List V} {ts : List (Str × Str)} (h : Rows2 H xs ts) : xs.length = ts.length := by
  induction h with
  | nil => rfl
  | snoc _ _ ih => rw [List.length_append, List.length_append, ih]; rfl
def rowD (t : Str × Str) : PyData := .tuple [.str t.1, .str t.2]
theorem dpAll_app {K : PySem.W.Frag} {H : Hp} : ∀ {xs ys : List V} {ds es : List PyData}, DpAll K H xs ds → DpAll K H ys es → DpAll K H (xs ++ ys) (ds ++ es)
  | _, _, _, _, .nil, h => h
  | _, _, _, _, .cons a b, h => .cons a (dpAll_app b h)
theorem Rows2.dp {K : PySem.W.Frag} {H : Hp} {xs : List V} {ts : List (Str × Str)} (h : Rows2 H xs ts) : DpAll K H xs (ts.map rowD) := by
  induction h with
  | nil => exact .nil
  | snoc h e ih =>
    rw [List.map_append]
    exact dpAll_app ih (.cons (.tup (SqT.of e) (.cons (.str _) (.cons (.str _) .nil))) .nil)
/-- the list at lh -/
structure RowL (H : Hp) (lh : Addr) (ts : List (Str × Str)) : Prop where
  ex : ∃ xs, H lh = some (.lst xs) ∧ Rows2 H xs ts
theorem RowL.ext {H H' : Hp} {lh : Addr} {ts : List (Str × Str)} (h : RowL H lh ts) (k : LamX.ExtN H H') : RowL H' lh ts := by
  obtain ⟨xs, e, r⟩ := h.ex
  exact ⟨xs, k _ _ e (by intro ps z; cases z), r.keep fun a x e => k _ _ e (by intro ps z; cases z)⟩
theorem RowL.one {H : Hp} {lh t : Addr} {x y : Str} (n : H lh = none) (e : H t = some (.tup [.str x, .str y])) : RowL (upd H lh (.lst [.ref t])) lh [(x, y)] := ⟨_, upd_same, Rows2.snoc .nil (same_new n _ _ e)⟩
theorem RowL.add {H : Hp} {lh t : Addr} {xs : List V} {x y : Str} {ts : List (Str × Str)} (h : H lh = some (.lst xs)) (r : Rows2 H xs ts) (e : H t = some (.tup [.str x, .str y])) : RowL (upd H lh (.lst (xs ++ [.ref t]))) lh (ts ++ [(x, y)]) := by
  have k : ∀ (a : Addr) (z : List V), H a = some (.tup z) → upd H lh (.lst (xs ++ [.ref t])) a = some (.tup z) := fun a z e => by rw [upd_ne (ne_of e h (by intro z; cases z))]; exact e
  exact ⟨_, upd_same, (r.keep k).snoc (k _ _ e)⟩
theorem RowL.dp {K : PySem.W.Frag} {H : Hp} {lh : Addr} {ts : List (Str × Str)} (h : RowL H lh ts) : Dp K H (.ref lh) (.list (ts.map rowD)) := by
  obtain ⟨xs, e, r⟩ := h.ex
  exact .lst (SqL.of e) r.dp
theorem rows_plain : ∀ ts : List (Str × Str), PyData.plainAll (ts.map rowD) = true
  | [] => rfl
  | t :: ts => by
    show (true && PyData.plainAll (ts.map rowD)) = true
    rw [rows_plain ts]
    rfl
theorem rows_depth : ∀ ts : List (Str × Str), PyData.depthAll (ts.map rowD) ≤ 1
  | [] => Nat.zero_le _
  | t :: ts => by
    show max 1 (PyData.depthAll (ts.map rowD)) ≤ 1
    have := rows_depth ts
    omega
theorem rows_same : ∀ ts : List (Str × Str), PyData.eqvAll (ts.map rowD) (ts.map rowD) = true
  | [] => rfl
  | t :: ts => by
    show (((t.1 == t.1) && ((t.2 == t.2) && true)) && PyData.eqvAll (ts.map rowD) (ts.map rowD)) = true
    rw [rows_same ts]
    simp
theorem rows_min (ts us : List (Str × Str)) : min (PyData.list (ts.map rowD)).depth (PyData.list (us.map rowD)).depth ≤ 60 := by
  have h := rows_depth ts
  have e : (PyData.list (ts.map rowD)).depth = PyData.depthAll (ts.map rowD) + 1 := rfl
  omega
theorem rows_eq (ts : List (Str × Str)) : PyData.eqv (.list (ts.map rowD)) (.list (ts.map rowD)) = true := rows_same ts
def spRefusedR (TS : List (Addr × Str)) : Sp := fun vs H Q _ => ∃ (pn : Addr) (m : Int) (n : Nat), vs = [.ref pn, .int m] ∧ 1 ≤ m ∧ m ≤ 40 ∧ PenAt H pn n ∧ n < 90000 ∧ LamX.Tabs TS H ∧ ∀ (H' : Hp), PenAt H' pn (n + 4) → Kp pn TS H H' → Q (.bl true) H'
section
variable {P : Program} {w : World} {K : PySem.W.Frag} {mg : Str → Option Value} {base : Heap} {CE CLine CB fB CR fR CN fN : Addr} {tG : Tok}
theorem ok_refusedR {f c tb : Addr} {fd : FuncData} {TS : List (Addr × Str)} (F : FunC K "_law_refused_right" "_law_refused_right" s_refusedR f fd c) (T : MTx P K mg CLine CB fB CR fR CN fN tG) (TH : HTx P K mg CE CB fB CR fR CN fN) (DH : HeardAt K mg)
    (TB : LamX.TabB base mg c tb) (hmT : (tb, (("_law_refused_right" : Str) ++ ".<locals>.") ++ "<lambda>") ∈ TS) (hu : ∀ p ∈ TS, p.1 = tb → p.2 = (("_law_refused_right" : Str) ++ ".<locals>.") ++ "<lambda>")
    (D_pick : DefAt P w K mg base CX0 2 "_law_pick" ["_law_pen_here", "_law_some"] spPick) (D_classof : DefAt P w K mg base (L2.CX P w) 5 "class_of" ["n", "modulus"] (spClassof CB CN)) (D_lenof : DefAt P w K mg base (L2.CX P w) 5 "length_of" ["rest", "m", "modulus"] (spLenof CB CR))
    (GE_rests : GfAt P w K mg base 4 "rests" ["modulus"] (spRestsE CB)) (GE_finer : GfAt P w K mg base 4 "finer" ["rest", "modulus", "times"] (spFinerE CB CR)) :
    FnG P w K mg base CX0 11 f fd ["_law_pen_here", "_law_many"] (spRefusedR TS) := by
  refine okGc F sc_refusedR (fun vs H Q E h => ?_) (fun A outer s H vs Q E hgd hr h => ?_)
  · obtain ⟨pn, m, n, rfl, _⟩ := h
    rfl
  · obtain ⟨pn, m, n, rfl, m1, m40, hp, hn, ht, k⟩ := h
    refine ⟨_, (pss_cons (ps_set (i := 2) sc_refusedR.nd rfl (Or.inr rfl) (My.pe_d D_pick (hr.mono (by decide)) (by rfl) pass0 (pa_cons (pv 0) (pa_cons (pe_lst (pa_cons pe_non (pa_cons pe_bl (pa_cons (pe_un un_neg pe_int) (pa_cons pe_str (pa_cons (pe_tup (pa_cons pe_int pa_nil)) (pa_cons (pe_op op_add (pe_op op_pow pe_int pe_int) pe_int) (pa_cons (pe_lst pa_nil) pa_nil)))))))) pa_nil))))
      (pss_cons (ps_set (i := 3) sc_refusedR.nd rfl (Or.inr rfl) (My.pe_d D_pick (hr.mono (by decide)) (by rfl) pass0 (pa_cons (pv 0) (pa_cons (pe_lst (pa_cons pe_non (pa_cons pe_bl (pa_cons pe_int (pa_cons (pe_un un_neg pe_int) (pa_cons pe_str (pa_cons (pe_lst pa_nil) (pa_cons (pe_tup (pa_cons pe_int pa_nil)) pa_nil)))))))) pa_nil))))
      (pss_cons (ps_set (i := 4) sc_refusedR.nd rfl (Or.inl rfl) (pe_lst (pa_cons (My.pe_heard (k := 7) DH TH hgd (hr.mono (by decide)) TB rfl hmT hu (by rfl) (LamX.lamS_by (by show LamX.lamSB (defScope s_refusedR) _ = true; decide +kernel)) rfl (fun _ _ _ _ _ => rfl) (fun A outer s H E f c hrl => (My.pe_d D_classof (hrl.mono (by decide)) (by rfl) (passes_call (takes_of rfl rfl rfl rfl) (fun _ _ _ _ h => h)) (pa_cons (pv 2) (pa_cons (pv 3) pa_nil))))) pa_nil)))
      (pss_cons (ps_expr (pe_bm PySem.F.plainAttrs_list PySem.F.slot_list_append PySem.F.type_list_append mt_append (pv 4) (pa_cons (My.pe_heard (k := 7) DH TH hgd (hr.mono (by decide)) TB rfl hmT hu (by rfl) (LamX.lamS_by (by show LamX.lamSB (defScope s_refusedR) _ = true; decide +kernel)) rfl (fun _ _ _ _ _ => rfl) (fun A outer s H E f c hrl => (My.pe_d D_classof (hrl.mono (by decide)) (by rfl) (passes_call (takes_of rfl rfl rfl rfl) (fun _ _ _ _ h => h)) (pa_cons pe_int (pa_cons (pv 3) pa_nil))))) pa_nil)))
      (pss_cons (ps_expr (pe_bm PySem.F.plainAttrs_list PySem.F.slot_list_append PySem.F.type_list_append mt_append (pv 4) (pa_cons (My.pe_heard (k := 7) DH TH hgd (hr.mono (by decide)) TB rfl hmT hu (by rfl) (LamX.lamS_by (by show LamX.lamSB (defScope s_refusedR) _ = true; decide +kernel)) rfl (fun _ _ _ _ _ => rfl) (fun A outer s H E f c hrl => (My.pe_d D_lenof (hrl.mono (by decide)) (by rfl) (passes_call (takes_of rfl rfl rfl rfl) (fun _ _ _ _ h => h)) (pa_cons (pv 3) (pa_cons (pv 2) (pa_cons (pv 3) pa_nil)))))) pa_nil)))
      (pss_cons (ps_expr (pe_bm PySem.F.plainAttrs_list PySem.F.slot_list_append PySem.F.type_list_append mt_append (pv 4) (pa_cons (My.pe_heard (k := 7) DH TH hgd (hr.mono (by decide)) TB rfl hmT hu (by rfl) (LamX.lamS_by (by show LamX.lamSB (defScope s_refusedR) _ = true; decide +kernel)) rfl (fun _ _ _ _ _ => rfl) (fun A outer s H E f c hrl => (My.pe_listD GE_rests (passes_call (takes_of rfl rfl rfl rfl) (fun _ _ _ _ h => h.2)) TH.sB TH.sR (hrl.mono (by decide)) (by rfl) (by rfl) T.z_list (pa_cons (pv 3) pa_nil)))) pa_nil)))
      (pss_cons (ps_expr (pe_bm PySem.F.plainAttrs_list PySem.F.slot_list_append PySem.F.type_list_append mt_append (pv 4) (pa_cons (My.pe_heard (k := 7) DH TH hgd (hr.mono (by decide)) TB rfl hmT hu (by rfl) (LamX.lamS_by (by show LamX.lamSB (defScope s_refusedR) _ = true; decide +kernel)) rfl (fun _ _ _ _ _ => rfl) (fun A outer s H E f c hrl => (My.pe_listD GE_finer (passes_call (takes_of rfl rfl rfl rfl) (fun _ _ _ _ h => h.2)) TH.sB TH.sR (hrl.mono (by decide)) (by rfl) (by rfl) T.z_list (pa_cons (pv 3) (pa_cons (pv 3) (pa_cons (pv 3) pa_nil)))))) pa_nil)))
      (pss_cons (ps_if (pt_cmpR (My.op_neP hr.units) (pv 4) (pe_op op_cat (pe_lst (pa_cons (pe_tup (pa_cons pe_str (pa_cons (pe_callB (My.call_repr hgd hr) (by rfl) T.z_repr boot_repr (pa_cons (pv 2) pa_nil)) pa_nil))) pa_nil)) (pe_op op_rep (pe_lst (pa_cons (pe_tup (pa_cons pe_str (pa_cons pe_str pa_nil))) pa_nil)) pe_int)) (nomark _)) (pss_one (ps_ret pe_bl)) pss_nil)
      (pss_cons (ps_set (i := 5) sc_refusedR.nd rfl (Or.inr rfl) (My.pe_d D_pick (hr.mono (by decide)) (by rfl) pass0 (pa_cons (pv 0) (pa_cons (pe_lst (pa_cons (pv 1) (pa_cons (pe_un un_neg pe_int) (pa_cons pe_non (pa_cons pe_bl (pa_cons pe_str (pa_cons (pe_op op_add (pv 1) (pe_op op_pow pe_int pe_int)) pa_nil))))))) pa_nil))))
      (pss_cons (ps_set (i := 6) sc_refusedR.nd rfl (Or.inr rfl) (My.pe_d D_pick (hr.mono (by decide)) (by rfl) pass0 (pa_cons (pv 0) (pa_cons (pe_lst (pa_cons pe_non (pa_cons pe_bl (pa_cons (pe_un un_neg pe_int) (pa_cons pe_str (pa_cons (pe_tup (pa_cons pe_int pa_nil)) (pa_cons (pe_lst pa_nil) pa_nil))))))) pa_nil))))
      (pss_cons (ps_set (i := 7) sc_refusedR.nd rfl (Or.inl rfl) (pe_lst (pa_cons (My.pe_heard (k := 7) DH TH hgd (hr.mono (by decide)) TB rfl hmT hu (by rfl) (LamX.lamS_by (by show LamX.lamSB (defScope s_refusedR) _ = true; decide +kernel)) rfl (fun _ _ _ _ _ => rfl) (fun A outer s H E f c hrl => (My.pe_d D_lenof (hrl.mono (by decide)) (by rfl) (passes_call (takes_of rfl rfl rfl rfl) (fun _ _ _ _ h => h)) (pa_cons (pv 5) (pa_cons (pv 6) (pa_cons (pv 1) pa_nil)))))) pa_nil)))
      (pss_cons (ps_expr (pe_bm PySem.F.plainAttrs_list PySem.F.slot_list_append PySem.F.type_list_append mt_append (pv 7) (pa_cons (My.pe_heard (k := 7) DH TH hgd (hr.mono (by decide)) TB rfl hmT hu (by rfl) (LamX.lamS_by (by show LamX.lamSB (defScope s_refusedR) _ = true; decide +kernel)) rfl (fun _ _ _ _ _ => rfl) (fun A outer s H E f c hrl => (My.pe_d D_lenof (hrl.mono (by decide)) (by rfl) (passes_call (takes_of rfl rfl rfl rfl) (fun _ _ _ _ h => h)) (pa_cons pe_int (pa_cons (pv 6) (pa_cons (pv 1) pa_nil)))))) pa_nil)))
      (pss_cons (ps_expr (pe_bm PySem.F.plainAttrs_list PySem.F.slot_list_append PySem.F.type_list_append mt_append (pv 7) (pa_cons (My.pe_heard (k := 7) DH TH hgd (hr.mono (by decide)) TB rfl hmT hu (by rfl) (LamX.lamS_by (by show LamX.lamSB (defScope s_refusedR) _ = true; decide +kernel)) rfl (fun _ _ _ _ _ => rfl) (fun A outer s H E f c hrl => (My.pe_listD GE_finer (passes_call (takes_of rfl rfl rfl rfl) (fun _ _ _ _ h => h.2)) TH.sB TH.sR (hrl.mono (by decide)) (by rfl) (by rfl) T.z_list (pa_cons (pv 5) (pa_cons (pv 1) (pa_cons (pv 3) pa_nil)))))) pa_nil)))
      (pss_cons (ps_expr (pe_bm PySem.F.plainAttrs_list PySem.F.slot_list_append PySem.F.type_list_append mt_append (pv 7) (pa_cons (My.pe_heard (k := 7) DH TH hgd (hr.mono (by decide)) TB rfl hmT hu (by rfl) (LamX.lamS_by (by show LamX.lamSB (defScope s_refusedR) _ = true; decide +kernel)) rfl (fun _ _ _ _ _ => rfl) (fun A outer s H E f c hrl => (My.pe_listD GE_finer (passes_call (takes_of rfl rfl rfl rfl) (fun _ _ _ _ h => h.2)) TH.sB TH.sR (hrl.mono (by decide)) (by rfl) (by rfl) T.z_list (pa_cons pe_int (pa_cons (pv 1) (pa_cons (pv 3) pa_nil)))))) pa_nil)))
      (pss_one (ps_ret (pe_cmpR (My.op_eqP hr.units) (pv 7) (pe_lst (pa_cons (pe_tup (pa_cons pe_str (pa_cons (pe_callB (My.call_repr hgd hr) (by rfl) T.z_repr boot_repr (pa_cons (pv 5) pa_nil)) pa_nil))) (pa_cons (pe_tup (pa_cons pe_str (pa_cons pe_str pa_nil))) (pa_cons (pe_tup (pa_cons pe_str (pa_cons (pe_callB (My.call_repr hgd hr) (by rfl) T.z_repr boot_repr (pa_cons (pv 5) pa_nil)) pa_nil))) (pa_cons (pe_tup (pa_cons pe_str (pa_cons pe_str pa_nil))) pa_nil))))) (nomark _)))))))))))))))))), ?_⟩
    -- odd
    refine ⟨_, rfl, _, rfl, (by show 1 ≤ sizeLine; decide), fun t1 h1 => ⟨_, _, rfl, rfl, ⟨by decide, by decide, by decide⟩, _, _, rfl, rfl, (by show 0 ≤ sizeLine; decide), fun t2 h2 => ?_⟩⟩
    refine ⟨(by show 7 ≤ sizeLine; decide), fun l1 hl1 => ?_⟩
    have pA := pen_new (o := .lst []) (pen_new (o := .tup [.int 0]) hp h1) h2
    have w1 := same_new (o := .lst [.non, .bl true, .int (-1), .str "0", .ref t1, .int (10 ^ Int.toNat 40 + 1), .ref t2]) hl1 _ _ (same_new (o := .lst []) h2 _ _ (upd_same (H := H) (a := t1) (o := .tup [.int 0])))
    have w2 := same_new (o := .lst [.non, .bl true, .int (-1), .str "0", .ref t1, .int (10 ^ Int.toNat 40 + 1), .ref t2]) hl1 _ _ (upd_same (H := upd H t1 (.tup [.int 0])) (a := t2) (o := .lst []))
    refine ⟨pn, l1, n, _, rfl, upd_same, pen_ne pA hl1, (by show 0 < 7; decide), (by show 7 ≤ 1000; decide), pen_new pA hl1, by omega, fun v1 H1 hv1 p1 u1 => ?_⟩
    have n1 : t1 ≠ pn := pen_ne hp h1
    have n2 : t2 ≠ pn := pen_ne (pen_new (o := .tup [.int 0]) hp h1) h2
    have b1 : But pn H H1 := (((But.new h1).trans (But.new h2)).trans (But.new hl1)).trans u1
    have w1' := u1 _ _ w1 n1
    have w2' := u1 _ _ w2 n2
    -- wrong
    refine ⟨_, rfl, _, rfl, (by show 0 ≤ sizeLine; decide), fun t3 h3 => ⟨(by show 1 ≤ sizeLine; decide), fun t4 h4 => ?_⟩⟩
    refine ⟨(by show 7 ≤ sizeLine; decide), fun l2 hl2 => ?_⟩
    have pB := pen_new (o := .tup [.int 1]) (pen_new (o := .lst []) p1 h3) h4
    have w3 := same_new (o := .lst [.non, .bl false, .int 0, .int (-3), .str "2", .ref t3, .ref t4]) hl2 _ _ (same_new (o := .tup [.int 1]) h4 _ _ (upd_same (H := H1) (a := t3) (o := .lst [])))
    have w4 := same_new (o := .lst [.non, .bl false, .int 0, .int (-3), .str "2", .ref t3, .ref t4]) hl2 _ _ (upd_same (H := upd H1 t3 (.lst [])) (a := t4) (o := .tup [.int 1]))
    refine ⟨pn, l2, n + 1, _, rfl, upd_same, pen_ne pB hl2, (by show 0 < 7; decide), (by show 7 ≤ 1000; decide), pen_new pB hl2, by omega, fun v2 H2 hv2 p2 u2 => ?_⟩
    have n3 : t3 ≠ pn := pen_ne p1 h3
    have n4 : t4 ≠ pn := pen_ne (pen_new (o := .lst []) p1 h3) h4
    have b2 : But pn H1 H2 := (((But.new h3).trans (But.new h4)).trans (But.new hl2)).trans u2
    have w3' := u2 _ _ w3 n3
    have w4' := u2 _ _ w4 n4
    obtain ⟨dat, od2, ol⟩ : ∃ dat, VD K H2 v1 dat ∧ lenB v1 (10 ^ 40) = false := odd_of (b2 _ _ w1' n1) (b2 _ _ w2' n2) hv1
    obtain ⟨ty2, lo2⟩ := wrong_of w3' w4' hv2
    have kp2 : Kp pn TS H H2 := Kp.but ht hp (b1.trans b2)
    -- the first
    refine ⟨kp2.tabs, fun H4 x4 tb4 Q' => ?_⟩
    obtain ⟨to, tyo0⟩ := od2.ty
    have tyo := ty_ext tyo0 x4
    obtain ⟨tw, tyw⟩ := ty2
    refine ⟨_, rfl, _, rfl, v1, v2, _, _, rfl, tyo, ty_ext tyw x4, fun n' m' en h0 h1 em _ => ?_, fun _ => er_len (od2.ext x4) fun ta Ha na sa wa => ?_, fun ol' => absurd (ol.symm.trans ol') (by decide)⟩
    · subst en
      have ol : (decide (0 ≤ n') && decide (n' ≤ 10 ^ 40)) = false := ol
      rw [decide_eq_true h0, decide_eq_true h1] at ol
      cases ol
    refine ⟨(by show 1 ≤ sizeLine; decide), fun lh hlh => ?_⟩
    have xA : LamX.ExtN H2 Ha := x4.trans (ext_same sa)
    have oA := od2.ext xA
    have tA : LamX.Tabs TS Ha := tb4.ext sa
    have kA : Kp pn TS H Ha := kp2.trans (Kp.ext tA xA)
    have pA3 := pen_ext p2 xA
    have tywA := ty_ext tyw xA
    have X5 : LamX.ExtN Ha (upd Ha lh (.lst [.ref ta])) := ext_same (same_new hlh)
    have T5 : LamX.Tabs TS (upd Ha lh (.lst [.ref ta])) := tA.ext (same_new hlh)
    have L5 := RowL.one hlh wa
    generalize (upd Ha lh (.lst [.ref ta])) = H5 at X5 T5 L5
    -- the second
    -- the second
    obtain ⟨xs5, e5, r5⟩ := id L5.ex
    refine ⟨_, rfl, .inl ⟨rfl, _, SqL.of e5⟩, T5, fun H6 x6 tb6 Q6 => ?_⟩
    have y6 := X5.trans x6
    refine ⟨_, rfl, .int 3, v2, _, _, rfl, .int 3, ty_ext tywA y6, fun n' m' en h0 h1 em hm => ?_, no_len (by decide) (by decide), fun _ _ => er_part fun t6 K6 n6 s6 w6 => ?_⟩
    · cases em
      exact no_low hm lo2
    obtain ⟨xs6, e6, r6⟩ := (L5.ext (x6.trans (ext_same s6))).ex
    refine ⟨lh, _, _, rfl, rfl, e6, (by rw [r6.len]; show 1 < sizeLine; decide), ?_⟩
    have X7 : LamX.ExtN Ha (upd K6 lh (.lst (xs6 ++ [.ref t6]))) := ext_put hlh (y6.trans (ext_same s6))
    have T7 : LamX.Tabs TS (upd K6 lh (.lst (xs6 ++ [.ref t6]))) := tabs_put (tb6.ext s6) e6
    have L7 := RowL.add e6 r6 w6
    generalize (upd K6 lh (.lst (xs6 ++ [.ref t6]))) = H7 at X7 T7 L7
    -- the third
    obtain ⟨xs7, e7, r7⟩ := id L7.ex
    refine ⟨_, rfl, .inl ⟨rfl, _, SqL.of e7⟩, T7, fun H8 x8 tb8 Q8 => ?_⟩
    have y8 := X7.trans x8
    refine ⟨_, rfl, _, rfl, _, rfl, v2, v1, v2, _, to, _, rfl, ty_ext tywA y8, ty_ext (ty_ext tyo0 xA) y8, ty_ext tywA y8, fun r' n' m' er en em hm _ _ _ => ?_, fun _ => er_part fun t8 K8 n8 s8 w8 => ?_, fun m' em hm _ => ?_, fun r' m' em hm _ _ _ _ => ?_⟩
    · cases em
      exact no_low hm lo2
    rotate_left
    · cases em
      exact no_low hm lo2
    · cases em
      exact no_low hm lo2
    obtain ⟨xs8, e8, r8⟩ := (L7.ext (x8.trans (ext_same s8))).ex
    refine ⟨lh, _, _, rfl, rfl, e8, (by rw [r8.len]; show 2 < sizeLine; decide), ?_⟩
    have X9 : LamX.ExtN Ha (upd K8 lh (.lst (xs8 ++ [.ref t8]))) := ext_put hlh (y8.trans (ext_same s8))
    have T9 : LamX.Tabs TS (upd K8 lh (.lst (xs8 ++ [.ref t8]))) := tabs_put (tb8.ext s8) e8
    have L9 := RowL.add e8 r8 w8
    generalize (upd K8 lh (.lst (xs8 ++ [.ref t8]))) = H9 at X9 T9 L9
    -- the fourth
    obtain ⟨xs9, e9, r9⟩ := id L9.ex
    refine ⟨_, rfl, .inl ⟨rfl, _, SqL.of e9⟩, T9, fun H10 x10 tb10 Q10 => ?_⟩
    have y10 := X9.trans x10
    refine ⟨_, rfl, v2, _, rfl, ty_ext tywA y10, lo2, er_own (.inl rfl) (er_part fun t10 K10 n10 s10 w10 => ?_)⟩
    obtain ⟨xs10, e10, r10⟩ := (L9.ext (x10.trans (ext_same s10))).ex
    refine ⟨lh, _, _, rfl, rfl, e10, (by rw [r10.len]; show 3 < sizeLine; decide), ?_⟩
    have X11 : LamX.ExtN Ha (upd K10 lh (.lst (xs10 ++ [.ref t10]))) := ext_put hlh (y10.trans (ext_same s10))
    have T11 : LamX.Tabs TS (upd K10 lh (.lst (xs10 ++ [.ref t10]))) := tabs_put (tb10.ext s10) e10
    have L11 := RowL.add e10 r10 w10
    generalize (upd K10 lh (.lst (xs10 ++ [.ref t10]))) = H11 at X11 T11 L11
    -- the fifth
    obtain ⟨xs11, e11, r11⟩ := id L11.ex
    refine ⟨_, rfl, .inl ⟨rfl, _, SqL.of e11⟩, T11, fun H12 x12 tb12 Q12 => ?_⟩
    have y12 := X11.trans x12
    refine ⟨_, rfl, _, rfl, _, rfl, v2, v2, v2, _, _, _, rfl, ty_ext tywA y12, ty_ext tywA y12, ty_ext tywA y12, .inl ⟨lo2, er_own (.inl rfl) (er_part fun t12 K12 n12 s12 w12 => ?_)⟩⟩
    obtain ⟨xs12, e12, r12⟩ := (L11.ext (x12.trans (ext_same s12))).ex
    refine ⟨lh, _, _, rfl, rfl, e12, (by rw [r12.len]; show 4 < sizeLine; decide), ?_⟩
    have X13 : LamX.ExtN Ha (upd K12 lh (.lst (xs12 ++ [.ref t12]))) := ext_put hlh (y12.trans (ext_same s12))
    have T13 : LamX.Tabs TS (upd K12 lh (.lst (xs12 ++ [.ref t12]))) := tabs_put (tb12.ext s12) e12
    have L13 := RowL.add e12 r12 w12
    generalize (upd K12 lh (.lst (xs12 ++ [.ref t12]))) = H13 at X13 T13 L13
    have oA13 := oA.ext X13
    refine ⟨_, rfl, _, rfl, _, dat, rfl, .inl oA13.dr, oA13.sh, oA13.dp, Nat.le_trans oA13.ln (by decide), (by show 2 ≤ sizeLine; decide), fun u1 hu1 => ⟨(by show 1 ≤ sizeLine; decide), fun u2 hu2 => ?_⟩⟩
    generalize hg : upd (upd H13 u1 (HO.tup [V.str (Str.ofString "length"), V.str dat.shown])) u2 (HO.lst [V.ref u1]) = H14
    have S14 : Same H13 H14 := hg ▸ ((same_new hu1).trans (same_new hu2))
    have U1 : H14 u1 = some (.tup [.str "length", .str dat.shown]) := hg ▸ same_new hu2 _ _ upd_same
    have U2 : H14 u2 = some (.lst [.ref u1]) := hg ▸ upd_same
    clear hg
    refine ⟨(by show 2 ≤ sizeLine; decide), fun u3 hu3 => ⟨(by show 1 ≤ sizeLine; decide), fun u4 hu4 => ?_⟩⟩
    refine ⟨u4, 4, _, rfl, rfl, upd_same, by decide, by decide, (by show 1 * 4 ≤ sizeLine; decide), fun u5 hu5 => ?_⟩
    generalize hg : upd (upd (upd H14 u3 (HO.tup [V.str (Str.ofString "part"), V.str (Str.ofString "modulus")])) u4 (HO.lst [V.ref u3])) u5 (HO.lst (List.replicate (Int.toNat 4) [V.ref u3]).flatten) = H15
    have S15 : Same H14 H15 := hg ▸ ((same_new hu3).trans (same_new hu4)).trans (same_new hu5)
    have U3 : H15 u3 = some (.tup [.str "part", .str "modulus"]) := hg ▸ same_new hu5 _ _ (same_new hu4 _ _ upd_same)
    have U5 : H15 u5 = some (.lst [.ref u3, .ref u3, .ref u3, .ref u3]) := hg ▸ upd_same
    clear hg
    refine ⟨u2, u5, _, _, rfl, rfl, S15 _ _ U2, U5, (by show 1 + 4 ≤ sizeLine; decide), fun u6 hu6 => ?_⟩
    have s6 := same_new (o := .lst ([.ref u1] ++ [.ref u3, .ref u3, .ref u3, .ref u3])) hu6
    have S16 := (S14.trans S15).trans s6
    have W1 := s6 _ _ (S15 _ _ U1)
    have W3 := s6 _ _ U3
    have R5 : Rows2 (upd H15 u6 (.lst ([.ref u1] ++ [.ref u3, .ref u3, .ref u3, .ref u3]))) [.ref u1, .ref u3, .ref u3, .ref u3, .ref u3] [(("length" : Str), dat.shown), ("part", "modulus"), ("part", "modulus"), ("part", "modulus"), ("part", "modulus")] :=
      Rows2.snoc (xs := [.ref u1, .ref u3, .ref u3, .ref u3]) (ts := [(("length" : Str), dat.shown), ("part", "modulus"), ("part", "modulus"), ("part", "modulus")]) (Rows2.snoc (xs := [.ref u1, .ref u3, .ref u3]) (ts := [(("length" : Str), dat.shown), ("part", "modulus"), ("part", "modulus")]) (Rows2.snoc (xs := [.ref u1, .ref u3]) (ts := [(("length" : Str), dat.shown), ("part", "modulus")]) (Rows2.snoc (xs := [.ref u1]) (ts := [(("length" : Str), dat.shown)]) (Rows2.snoc (xs := []) (ts := []) .nil W1) W3) W3) W3) W3
    have D1 : Dp K (upd H15 u6 (.lst ([.ref u1] ++ [.ref u3, .ref u3, .ref u3, .ref u3]))) (.ref lh) (.list ([(("length" : Str), dat.shown), ("part", "modulus"), ("part", "modulus"), ("part", "modulus"), ("part", "modulus")].map rowD)) := (L13.ext (ext_same S16)).dp
    refine ⟨_, .list ([(("length" : Str), dat.shown), ("part", "modulus"), ("part", "modulus"), ("part", "modulus"), ("part", "modulus")].map rowD), D1, .lst (SqL.of upd_same) R5.dp, rows_plain _, rows_plain _, rows_min _ _, ?_⟩
    rw [rows_eq]
    refine ⟨_, rfl, iteF ?_⟩
    have X16 := X13.trans (ext_same S16)
    have T16 := T13.ext S16
    generalize (upd H15 u6 (.lst ([.ref u1] ++ [.ref u3, .ref u3, .ref u3, .ref u3]))) = H16 at X16 T16
    have p16 := pen_ext pA3 X16
    have X2 := xA.trans X16
    have w316 := X2 _ _ w3' (by intro ps z; cases z)
    have w416 := X2 _ _ w4' (by intro ps z; cases z)
    -- over
    refine ⟨_, rfl, _, rfl, _, rfl, _, rfl, _, _, rfl, rfl, ⟨by decide, by decide, by decide⟩, _, _, rfl, rfl, (by show 6 ≤ sizeLine; decide), fun l3 hl3 => ?_⟩
    refine ⟨pn, l3, n + 2, _, rfl, upd_same, pen_ne p16 hl3, (by show 0 < 6; decide), (by show 6 ≤ 1000; decide), pen_new p16 hl3, by omega, fun v3 H17 hv3 p17 u17 => ?_⟩
    have b17 : But pn H16 H17 := (But.new hl3).trans u17
    -- back
    refine ⟨_, rfl, _, rfl, (by show 1 ≤ sizeLine; decide), fun t5 h5 => ⟨(by show 0 ≤ sizeLine; decide), fun t6 h6 => ⟨(by show 6 ≤ sizeLine; decide), fun l4 hl4 => ?_⟩⟩⟩
    have pC := pen_new (o := .lst []) (pen_new (o := .tup [.int 0]) p17 h5) h6
    have w5 := same_new (o := .lst [.non, .bl true, .int (-1), .str "0", .ref t5, .ref t6]) hl4 _ _ (same_new (o := .lst []) h6 _ _ (upd_same (H := H17) (a := t5) (o := .tup [.int 0])))
    have w6 := same_new (o := .lst [.non, .bl true, .int (-1), .str "0", .ref t5, .ref t6]) hl4 _ _ (upd_same (H := upd H17 t5 (.tup [.int 0])) (a := t6) (o := .lst []))
    refine ⟨pn, l4, n + 3, _, rfl, upd_same, pen_ne pC hl4, (by show 0 < 6; decide), (by show 6 ≤ 1000; decide), pen_new pC hl4, by omega, fun v4 H18 hv4 p18 u18 => ?_⟩
    have n5 : t5 ≠ pn := pen_ne p17 h5
    have n6 : t6 ≠ pn := pen_ne (pen_new (o := .tup [.int 0]) p17 h5) h6
    have b18 : But pn H16 H18 := b17.trans ((((But.new h5).trans (But.new h6)).trans (But.new hl4)).trans u18)
    obtain ⟨dov, ov18, no18⟩ := over_of (K := K) (H := H18) m1 m40 hv3
    obtain ⟨⟨tb18, tyb⟩, lob⟩ := back_of (u18 _ _ w5 n5) (u18 _ _ w6 n6) hv4
    obtain ⟨⟨tw18, tyw18⟩, _⟩ := wrong_of (b18 _ _ w316 n3) (b18 _ _ w416 n4) hv2
    have kp18 : Kp pn TS H H18 := (kA.trans (Kp.ext T16 X16)).trans (Kp.but T16 p16 b18)
    -- the first of the others
    refine ⟨kp18.tabs, fun H20 x20 tb20 Q20 => ?_⟩
    obtain ⟨tov, tyov0⟩ := ov18.ty
    refine ⟨_, rfl, _, rfl, _, rfl, v3, v4, .int m, tov, tb18, _, rfl, ty_ext tyov0 x20, ty_ext tyb x20, .int m, fun r' n' m' er en em _ r0 r1 _ => ?_, no_low m1, fun m' em _ _ => ?_, fun r' m' em _ er r0 r1 _ => ?_⟩
    · cases em
      subst er
      exact no_rest r0 r1 no18
    rotate_left
    · cases em
      subst er
      exact no_rest r0 r1 no18
    refine er_rest (ov18.ext x20) fun ta2 Hb na2 sb wb => ?_
    refine ⟨(by show 1 ≤ sizeLine; decide), fun lg hlg => ?_⟩
    have xB : LamX.ExtN H18 Hb := x20.trans (ext_same sb)
    have oB := ov18.ext xB
    have tB : LamX.Tabs TS Hb := tb20.ext sb
    have kB : Kp pn TS H Hb := kp18.trans (Kp.ext tB xB)
    have pB3 := pen_ext p18 xB
    have tywB := ty_ext tyw18 xB
    have tyovB := ty_ext tyov0 xB
    have tybB := ty_ext tyb xB
    have X21 : LamX.ExtN Hb (upd Hb lg (.lst [.ref ta2])) := ext_same (same_new hlg)
    have T21 : LamX.Tabs TS (upd Hb lg (.lst [.ref ta2])) := tB.ext (same_new hlg)
    have L21 := RowL.one hlg wb
    generalize (upd Hb lg (.lst [.ref ta2])) = H21 at X21 T21 L21
    -- the second
    obtain ⟨xs21, e21, r21⟩ := id L21.ex
    refine ⟨_, rfl, .inl ⟨rfl, _, SqL.of e21⟩, T21, fun H22 x22 tb22 Q22 => ?_⟩
    have y22 := X21.trans x22
    refine ⟨_, rfl, _, rfl, .int 0, v4, .int m, _, tb18, _, rfl, .int 0, ty_ext tybB y22, .int m, fun r' n' m' _ en _ _ _ _ h0 => ?_, no_low m1, fun m' em _ => ?_, fun r' m' _ _ _ _ _ _ => er_part fun t22 K22 n22 s22 w22 => ?_⟩
    · subst en
      exact no_low h0 lob
    · cases em
      exact no_rest (by decide) (by omega)
    obtain ⟨xs22, e22, r22⟩ := (L21.ext (x22.trans (ext_same s22))).ex
    refine ⟨lg, _, _, rfl, rfl, e22, (by rw [r22.len]; show 1 < sizeLine; decide), ?_⟩
    have X23 : LamX.ExtN Hb (upd K22 lg (.lst (xs22 ++ [.ref t22]))) := ext_put hlg (y22.trans (ext_same s22))
    have T23 : LamX.Tabs TS (upd K22 lg (.lst (xs22 ++ [.ref t22]))) := tabs_put (tb22.ext s22) e22
    have L23 := RowL.add e22 r22 w22
    generalize (upd K22 lg (.lst (xs22 ++ [.ref t22]))) = H23 at X23 T23 L23
    -- the third
    obtain ⟨xs23, e23, r23⟩ := id L23.ex
    refine ⟨_, rfl, .inl ⟨rfl, _, SqL.of e23⟩, T23, fun H24 x24 tb24 Q24 => ?_⟩
    have y24 := X23.trans x24
    refine ⟨_, rfl, _, rfl, _, rfl, v3, .int m, v2, _, _, _, rfl, ty_ext tyovB y24, .int m, ty_ext tywB y24, .inr (.inl ⟨m, rfl, m1, no18, er_own (.inr rfl) (er_rest (oB.ext y24) fun t24 K24 n24 s24 w24 => ?_)⟩)⟩
    obtain ⟨xs24, e24, r24⟩ := (L23.ext (x24.trans (ext_same s24))).ex
    refine ⟨lg, _, _, rfl, rfl, e24, (by rw [r24.len]; show 2 < sizeLine; decide), ?_⟩
    have X25 : LamX.ExtN Hb (upd K24 lg (.lst (xs24 ++ [.ref t24]))) := ext_put hlg (y24.trans (ext_same s24))
    have T25 : LamX.Tabs TS (upd K24 lg (.lst (xs24 ++ [.ref t24]))) := tabs_put (tb24.ext s24) e24
    have L25 := RowL.add e24 r24 w24
    generalize (upd K24 lg (.lst (xs24 ++ [.ref t24]))) = H25 at X25 T25 L25
    -- the fourth
    obtain ⟨xs25, e25, r25⟩ := id L25.ex
    refine ⟨_, rfl, .inl ⟨rfl, _, SqL.of e25⟩, T25, fun H26 x26 tb26 Q26 => ?_⟩
    have y26 := X25.trans x26
    refine ⟨_, rfl, _, rfl, .int 0, .int m, v2, _, _, _, rfl, .int 0, .int m, ty_ext tywB y26, .inr (.inr ⟨0, m, rfl, m1, rfl, by decide, by omega, lo2, er_own (.inl rfl) (er_part fun t26 K26 n26 s26 w26 => ?_)⟩)⟩
    obtain ⟨xs26, e26, r26⟩ := (L25.ext (x26.trans (ext_same s26))).ex
    refine ⟨lg, _, _, rfl, rfl, e26, (by rw [r26.len]; show 3 < sizeLine; decide), ?_⟩
    have X27 : LamX.ExtN Hb (upd K26 lg (.lst (xs26 ++ [.ref t26]))) := ext_put hlg (y26.trans (ext_same s26))
    have T27 : LamX.Tabs TS (upd K26 lg (.lst (xs26 ++ [.ref t26]))) := tabs_put (tb26.ext s26) e26
    have L27 := RowL.add e26 r26 w26
    generalize (upd K26 lg (.lst (xs26 ++ [.ref t26]))) = H27 at X27 T27 L27
    have oB27 := oB.ext X27
    refine ⟨_, rfl, _, rfl, _, dov, rfl, .inl oB27.dr, oB27.sh, oB27.dp, Nat.le_trans oB27.ln (by decide), (by show 2 ≤ sizeLine; decide), fun g1 hg1 => ⟨(by show 2 ≤ sizeLine; decide), fun g2 hg2 => ?_⟩⟩
    generalize hg : upd (upd H27 g1 (HO.tup [V.str (Str.ofString "rest"), V.str dov.shown])) g2 (HO.tup [V.str (Str.ofString "part"), V.str (Str.ofString "m")]) = H28
    have S28 : Same H27 H28 := hg ▸ ((same_new hg1).trans (same_new hg2))
    have G1 : H28 g1 = some (.tup [.str "rest", .str dov.shown]) := hg ▸ same_new hg2 _ _ upd_same
    have G2 : H28 g2 = some (.tup [.str "part", .str "m"]) := hg ▸ upd_same
    clear hg
    have oB28 := oB27.ext (ext_same S28)
    refine ⟨_, rfl, _, dov, rfl, .inl oB28.dr, oB28.sh, oB28.dp, Nat.le_trans oB28.ln (by decide), (by show 2 ≤ sizeLine; decide), fun g3 hg3 => ⟨(by show 2 ≤ sizeLine; decide), fun g4 hg4 => ⟨(by show 4 ≤ sizeLine; decide), fun g5 hg5 => ?_⟩⟩⟩
    generalize hg : upd (upd (upd H28 g3 (HO.tup [V.str (Str.ofString "rest"), V.str dov.shown])) g4 (HO.tup [V.str (Str.ofString "part"), V.str (Str.ofString "times")])) g5 (HO.lst [V.ref g1, V.ref g2, V.ref g3, V.ref g4]) = H29
    have S29 : Same H28 H29 := hg ▸ ((same_new hg3).trans (same_new hg4)).trans (same_new hg5)
    have G3 : H29 g3 = some (.tup [.str "rest", .str dov.shown]) := hg ▸ same_new hg5 _ _ (same_new hg4 _ _ upd_same)
    have G4 : H29 g4 = some (.tup [.str "part", .str "times"]) := hg ▸ same_new hg5 _ _ upd_same
    have G5 : H29 g5 = some (.lst [.ref g1, .ref g2, .ref g3, .ref g4]) := hg ▸ upd_same
    clear hg
    have R4 : Rows2 H29 [.ref g1, .ref g2, .ref g3, .ref g4] [("rest", dov.shown), ("part", "m"), ("rest", dov.shown), ("part", "times")] :=
      Rows2.snoc (xs := [.ref g1, .ref g2, .ref g3]) (ts := [("rest", dov.shown), ("part", "m"), ("rest", dov.shown)]) (Rows2.snoc (xs := [.ref g1, .ref g2]) (ts := [("rest", dov.shown), ("part", "m")]) (Rows2.snoc (xs := [.ref g1]) (ts := [("rest", dov.shown)]) (Rows2.snoc (xs := []) (ts := []) .nil (S29 _ _ G1)) (S29 _ _ G2)) G3) G4
    have D2 : Dp K H29 (.ref lg) (.list ([(("rest" : Str), dov.shown), ("part", "m"), ("rest", dov.shown), ("part", "times")].map rowD)) := (L27.ext (ext_same (S28.trans S29))).dp
    refine ⟨_, .list ([(("rest" : Str), dov.shown), ("part", "m"), ("rest", dov.shown), ("part", "times")].map rowD), D2, .lst (SqL.of G5) R4.dp, rows_plain _, rows_plain _, rows_min _ _, ?_⟩
    rw [rows_eq]
    have X29 := X27.trans (ext_same (S28.trans S29))
    exact k _ (pen_ext pB3 X29) (kB.trans (Kp.ext (T27.ext (S28.trans S29)) X29))
end
end My
set_option pp.maxSteps 1500
set_option pp.deepTerms.threshold 8
/-! ### the law -/
namespace My
open PySem PySem.Spec PyProof.Rows L2 GenW
abbrev s_law : Stmt := topS 35
theorem sc_law : FnScope ["_law_script", "_law_pen_here", "_law_turn", "_law_many", "_law_one"] ["_law_script"] (defScope s_law) := ⟨rfl, rfl, rfl, by decide +kernel, rfl, by decide +kernel, by decide +kernel⟩
theorem rgV_flI (m : Int) : rgV 0 m = (flI m.toNat fun i => (i : Int)).map V.int := by
  unfold rgV flI
  rw [List.map_map, Int.sub_zero]
  refine List.map_congr_left fun i _ => ?_
  show V.int (0 + (i : Int)) = V.int i
  rw [Int.zero_add]
def spLaw (K : PySem.W.Frag) (TS : List (Addr × Str)) : Sp := fun vs H Q _ => ∃ (a : Addr) (ns : List Int), vs = [.ref a] ∧ SqL K H a (ns.map V.int) ∧ LamX.Tabs TS H ∧ ∀ (H' : Hp), Q (.bl true) H'
section
variable {P : Program} {w : World} {K : PySem.W.Frag} {mg : Str → Option Value} {base : Heap} {CE CLine CB fB CR fR CN fN : Addr} {tG : Tok}
theorem ok_law {f : Addr} {fd : FuncData} {TS : List (Addr × Str)} (F : Fun K "law" "law" s_law f fd) (T : MTx P K mg CLine CB fB CR fR CN fN tG)
    (D_pen : DefAt P w K mg base CX0 1 "_law_pen" ["_law_script"] (spPen K)) (D_draw : DefAt P w K mg base CX0 1 "_law_draw" ["_law_pen_here", "_law_many"] spDraw) (D_pick : DefAt P w K mg base CX0 2 "_law_pick" ["_law_pen_here", "_law_some"] spPick)
    (G_rests : GnAt P w K mg base 5 "rests" ["modulus"] spRests) (GK_rests : GnKw P w K mg base 5 "rests" ["modulus"] ["modulus"] spRests gRev) (D_classof : DefAt P w K mg base (L2.CX P w) 5 "class_of" ["n", "modulus"] (spClassof CB CN))
    (D_classesR : DefG P w K mg base CX0 8 "_law_classes_right" ["_law_pen_here", "_law_many"] spClassesR) (D_finerR : DefG P w K mg base CX0 8 "_law_finer_right" ["_law_pen_here", "_law_many"] spFinerR)
    (D_refusedR : DefG P w K mg base CX0 11 "_law_refused_right" ["_law_pen_here", "_law_many"] (spRefusedR TS)) (D_farR : DefAt P w K mg base CX0 8 "_law_far_right" [] spFarR) : FnG P w K mg base CX0 13 f fd ["_law_script"] (spLaw K TS) := by
  refine okG F sc_law (fun vs H Q E h => ?_) (fun cdv A outer s H vs Q E hf hgd hr h => ?_)
  · obtain ⟨a, ns, rfl, _⟩ := h
    rfl
  · obtain ⟨a, ns, rfl, hs, ht, k⟩ := h
    refine ⟨_, (pss_cons (ps_set (i := 1) sc_law.nd rfl (Or.inl rfl) (My.pe_d D_pen (hr.mono (by decide)) (by rfl) pass0 (pa_cons (pv 0) pa_nil)))
      (pss_cons (ps_for PassesOwn.never rfl (pi_range1 rfl T.z_range (pa_cons pe_int pa_nil)) (pg_name (i := 2) sc_law.nd rfl (Or.inl rfl)) (pss_cons (ps_set (i := 3) sc_law.nd rfl (Or.inl rfl) (pe_op op_add pe_int (My.pe_d D_pick (hr.mono (by decide)) (by rfl) pass0 (pa_cons (pv 1) (pa_cons (pe_lst (pa_cons pe_int (pa_cons pe_int (pa_cons pe_int (pa_cons pe_int (pa_cons pe_int (pa_cons (My.pe_d D_draw (hr.mono (by decide)) (by rfl) pass0 (pa_cons (pv 1) (pa_cons pe_int pa_nil))) pa_nil))))))) pa_nil)))))
      (pss_cons (ps_if (pt_cmpR op_ne (pe_callB (My.call_repr hgd hr) (by rfl) T.z_repr boot_repr (pa_cons (My.pe_lcG (own := [("_law_one", 4)]) rfl sc_law.nd (My.pig_d G_rests rfl (hr.mono (by decide)) (by rfl) (pa_cons (pv 3) pa_nil)) (blkOk_by (by show blkC ["_law_script", "_law_pen_here", "_law_turn", "_law_many", "_law_one"] (defScope s_law) _ _ = true; decide +kernel)) (by decide +kernel) (fun _ _ _ _ _ => (pg_name (i := 4) sc_law.nd rfl (Or.inl rfl))) (fun _ _ _ _ _ => pts_nil) (fun _ _ _ _ _ => (pv 4))) pa_nil)) (pe_callB (My.call_repr hgd hr) (by rfl) T.z_repr boot_repr (pa_cons (pe_listRg rfl (by rfl) T.z_list (prg_1 (by rfl) T.z_range (pv 3))) pa_nil)) (nomark _)) (pss_one (ps_ret pe_bl)) pss_nil)
      (pss_cons (ps_if (pt_cmpR (op_neD hr.units) (My.pe_lcG (own := [("_law_one", 4)]) rfl sc_law.nd (My.pig_dK GK_rests rfl (hr.mono (by decide)) (by rfl) (pk_cons (pv 3) pk_nil)) (blkOk_by (by show blkC ["_law_script", "_law_pen_here", "_law_turn", "_law_many", "_law_one"] (defScope s_law) _ _ = true; decide +kernel)) (by decide +kernel) (fun _ _ _ _ _ => (pg_name (i := 4) sc_law.nd rfl (Or.inl rfl))) (fun _ _ _ _ _ => pts_nil) (fun _ _ _ _ _ => (pv 4))) (pe_listRg rfl (by rfl) T.z_list (prg_1 (by rfl) T.z_range (pv 3))) (nomark _)) (pss_one (ps_ret pe_bl)) pss_nil)
      (pss_cons (ps_if (PW.pt (pw_or (pt_not (pt_val (My.pe_dG D_classesR hgd (hr.mono (by decide)) (by rfl) pass0 (pa_cons (pv 1) (pa_cons (pv 3) pa_nil))))) (pw_or1 (pt_not (pt_val (My.pe_dG D_finerR hgd (hr.mono (by decide)) (by rfl) pass0 (pa_cons (pv 1) (pa_cons (pv 3) pa_nil)))))))) (pss_one (ps_ret pe_bl)) pss_nil)
      (pss_one (ps_if (pt_not (pt_val (My.pe_dG D_refusedR hgd (hr.mono (by decide)) (by rfl) pass0 (pa_cons (pv 1) (pa_cons (pv 3) pa_nil))))) (pss_one (ps_ret pe_bl)) pss_nil)))))))
      (pss_cons (ps_if (pt_not (pt_val (My.pe_d0 D_farR (hr.mono (by decide)) (by rfl) pass0))) (pss_one (ps_ret pe_bl)) pss_nil)
      (pss_one (ps_ret (pe_cmpR op_eq (pe_callB (My.call_repr hgd hr) (by rfl) T.z_repr boot_repr (pa_cons (pe_lst (pa_cons (My.pe_d D_classof (hr.mono (by decide)) (by rfl) passNo (pa_cons (pe_op op_pow pe_int pe_int) (pa_cons (pe_op op_pow pe_int pe_int) pa_nil))) (pa_cons (My.pe_d D_classof (hr.mono (by decide)) (by rfl) passNo (pa_cons pe_int (pa_cons (pe_op op_pow pe_int pe_int) pa_nil))) pa_nil))) pa_nil)) (pe_callB (My.call_repr hgd hr) (by rfl) T.z_repr boot_repr (pa_cons (pe_lst (pa_cons (pe_tup (pa_cons (pe_op op_pow pe_int pe_int) (pa_cons pe_int pa_nil))) (pa_cons (pe_tup (pa_cons pe_int (pa_cons pe_int pa_nil))) pa_nil))) pa_nil)) (nomark _))))))), ?_⟩
    refine ⟨_, rfl, a, ns, rfl, hs, fun pn H1 h1 p1 s1 => ?_⟩
    refine ⟨6, rfl, by decide, by decide, for_range (fun i σ H' => ∃ v2 v3 v4, σ = [some (.ref a), some (.ref pn), v2, v3, v4] ∧ PenAt H' pn (20 * i) ∧ LamX.Tabs TS H') ⟨none, none, none, rfl, p1, ht.ext s1⟩ ?_ ?_⟩
    · rintro i σ H' hi ⟨v2, v3, v4, rfl, hp, htb⟩
      have hi6 : i < 6 := hi
      refine ⟨_, rfl, _, rfl, pn, 40, 20 * i, rfl, by decide, by decide, hp, by omega, fun d1 H2 a1 b1 p2 u2 => ?_⟩
      refine ⟨(by show 6 ≤ sizeLine; decide), fun l3 hl3 => ?_⟩
      refine ⟨pn, l3, 20 * i + 1, _, rfl, upd_same, pen_ne p2 hl3, (by show 0 < 6; decide), (by show 6 ≤ 1000; decide), pen_new p2 hl3, by omega, fun v H3 hv p3 u3 => ?_⟩
      obtain ⟨z, rfl, hz⟩ := mem_ints (zs := [0, 1, 3, 7, 15, d1]) hv
      have z0 : 0 ≤ z ∧ z < 40 := by
        simp only [List.mem_cons, List.mem_nil_iff, or_false] at hz
        rcases hz with e | e | e | e | e | e <;> omega
      have t3 := tabs_but htb hp ((u2.trans (But.new hl3)).trans u3)
      refine ⟨_, _, rfl, rfl, ?_⟩
      have m1 : 1 ≤ 1 + z := by omega
      have m40 : 1 + z ≤ 40 := by omega
      have zn : (1 + z).toNat ≤ 40 := by omega
      have fl : ∀ x ∈ flI (1 + z).toNat (fun i => (i : Int)), x.natAbs.log2 < 1920 := fun x hx => by
        obtain ⟨j, hj, rfl⟩ := flI_mem hx
        exact Sm.log (by show _ < _; omega)
      refine ⟨_, rfl, _, ⟨1 + z, rfl, m1, rfl⟩, fun D1 hD1 => ?_⟩
      refine lcG_ints hD1 (by rw [sizeLine_eq]; omega) (fun _ => rfl) (fun _ => rfl) fun H4 w4 s4 => ?_
      obtain ⟨a1, a2, a3, a4⟩ := ints_show (K := K) (flI (1 + z).toNat (fun i => (i : Int))) fl (by rw [flI_len]; omega) w4
      refine ⟨_, _, rfl, a1, a2, a3, a4, _, rfl, 1 + z, rfl, RgOk.of_le (by decide) (by omega) (by decide) (by omega), fun l5 hl5 => ?_⟩
      have s5 := same_new (o := .lst (rgV 0 (1 + z))) hl5
      have w5 : (upd H4 l5 (.lst (rgV 0 (1 + z)))) l5 = some (.lst ((flI (1 + z).toNat (fun i => (i : Int))).map V.int)) := by rw [upd_same, rgV_flI]
      obtain ⟨c1, c2, c3, c4⟩ := ints_show (K := K) (flI (1 + z).toNat (fun i => (i : Int))) fl (by rw [flI_len]; omega) w5
      refine ⟨_, _, rfl, c1, c2, c3, c4, rfl, _, rfl, iteNS rfl ?_⟩
      refine ⟨_, rfl, rfl, _, ⟨1 + z, rfl, m1, rfl⟩, fun D2 hD2 => ?_⟩
      refine lcG_ints hD2 (by rw [sizeLine_eq]; omega) (fun _ => rfl) (fun _ => rfl) fun H6 w6 s6 => ?_
      refine ⟨_, rfl, 1 + z, rfl, RgOk.of_le (by decide) (by omega) (by decide) (by omega), fun l7 hl7 => ?_⟩
      have s7 := same_new (o := .lst (rgV 0 (1 + z))) hl7
      have w7 : (upd H6 l7 (.lst (rgV 0 (1 + z)))) l7 = some (.lst ((flI (1 + z).toNat (fun i => (i : Int))).map V.int)) := by rw [upd_same, rgV_flI]
      refine ⟨.list ((flI (1 + z).toNat (fun i => (i : Int))).map .int), .list ((flI (1 + z).toNat (fun i => (i : Int))).map .int), .lst (SqL.of (s7 _ _ w6)) (dp_ints _), .lst (SqL.of w7) (dp_ints _), shaped_lstI _, shaped_lstI _, ?_⟩
      rw [eqv_lstI, decide_eq_true rfl]
      refine ⟨_, rfl, iteF ?_⟩
      have s37 := ((s4.trans s5).trans s6).trans s7
      have p7 := pen_same p3 s37
      have t7 := t3.ext s37
      refine ⟨_, rfl, _, rfl, pn, 1 + z, _, rfl, m1, m40, p7, by omega, fun H8 p8 u8 => ⟨_, rfl, iteF ?_⟩⟩
      refine ⟨_, rfl, _, rfl, pn, 1 + z, _, rfl, m1, m40, p8, by omega, fun H9 p9 u9 => ⟨_, rfl, iteF ?_⟩⟩
      have t9 := tabs_but (tabs_but t7 p7 u8) p8 u9
      refine ⟨_, rfl, _, rfl, pn, 1 + z, _, rfl, m1, m40, p9, by omega, t9, fun H10 p10 k10 => ⟨_, rfl, iteF ?_⟩⟩
      exact ⟨_, _, _, rfl, p10.le (by omega), k10.tabs⟩
    · rintro σ H' ⟨v2, v3, v4, rfl, hp, htb⟩
      refine ⟨rfl, fun H2 s2 => ⟨_, rfl, iteF ?_⟩⟩
      have e40 : (10 : Int) ^ Int.toNat 40 = 10 ^ 40 := rfl
      have e41 : (10 : Int) ^ Int.toNat 41 = 10 ^ 41 := rfl
      have e50 : (10 : Int) ^ Int.toNat 50 = 10 ^ 50 := rfl
      refine ⟨_, _, rfl, rfl, ⟨by decide, by decide, by decide⟩, _, _, rfl, rfl, ⟨by decide, by decide, by decide⟩, .int (10 ^ Int.toNat 40), .int (10 ^ Int.toNat 41), _, _, rfl, .int _, .int _, fun n' m' en _ _ em _ => ?_, no_len (by decide) (by decide +kernel), fun _ => no_low (by decide +kernel)⟩
      cases en
      cases em
      refine ⟨by decide +kernel, fun t1 h1 => ?_⟩
      have q1 : (10 : Int) ^ Int.toNat 40 % 10 ^ Int.toNat 41 = 10 ^ Int.toNat 40 := by decide +kernel
      have q2 : (10 : Int) ^ Int.toNat 40 / 10 ^ Int.toNat 41 = 0 := by decide +kernel
      rw [q1, q2]
      refine ⟨_, _, rfl, rfl, ⟨by decide, by decide, by decide⟩, .int 0, .int (10 ^ Int.toNat 50), _, _, rfl, .int _, .int _, fun n' m' en _ _ em _ => ?_, no_len (by decide) (by decide), fun _ => no_low (by decide +kernel)⟩
      cases en
      cases em
      refine ⟨by decide +kernel, fun t2 h2 => ?_⟩
      have q3 : (0 : Int) % 10 ^ Int.toNat 50 = 0 := by decide +kernel
      have q4 : (0 : Int) / 10 ^ Int.toNat 50 = 0 := by decide +kernel
      rw [q3, q4]
      refine ⟨(by show 2 ≤ sizeLine; decide), fun l3 h3 => ?_⟩
      have s2 := same_new (o := .tup [.int 0, .int 0]) h2
      have s3 := same_new (o := .lst [.ref t1, .ref t2]) h3
      have w1 := s3 _ _ (s2 _ _ (upd_same (H := H2) (a := t1) (o := .tup [.int (10 ^ Int.toNat 40), .int 0])))
      have w2 := s3 _ _ (upd_same (H := upd H2 t1 (.tup [.int (10 ^ Int.toNat 40), .int 0])) (a := t2) (o := .tup [.int 0, .int 0]))
      refine ⟨.ref l3, .list [.tuple [.int (10 ^ Int.toNat 40), .int 0], .tuple [.int 0, .int 0]], rfl, .inl (.lst (SqL.of upd_same) (.cons (.tup (SqT.of w1) (.cons (.int _) (.cons (.int _) .nil))) (.cons (.tup (SqT.of w2) (.cons (.int _) (.cons (.int _) .nil))) .nil))), by decide +kernel, by decide +kernel, by decide +kernel, ?_⟩
      refine ⟨_, _, rfl, rfl, ⟨by decide, by decide, by decide⟩, (by show 2 ≤ sizeLine; decide), fun t4 h4 => ⟨(by show 2 ≤ sizeLine; decide), fun t5 h5 => ⟨(by show 2 ≤ sizeLine; decide), fun l6 h6 => ?_⟩⟩⟩
      have s5 := same_new (o := .tup [.int 0, .int 0]) h5
      have s6 := same_new (o := .lst [.ref t4, .ref t5]) h6
      have w3 := s6 _ _ (s5 _ _ upd_same)
      have w4 := s6 _ _ (upd_same)
      refine ⟨.ref l6, .list [.tuple [.int (10 ^ Int.toNat 40), .int 0], .tuple [.int 0, .int 0]], rfl, .inl (.lst (SqL.of upd_same) (.cons (.tup (SqT.of w3) (.cons (.int _) (.cons (.int _) .nil))) (.cons (.tup (SqT.of w4) (.cons (.int _) (.cons (.int _) .nil))) .nil))), by decide +kernel, by decide +kernel, by decide +kernel, ?_⟩
      refine ⟨rfl, ?_⟩
      show Q (.bl (decide (V.str _ = V.str _))) _
      rw [decide_eq_true rfl]
      exact k _
end
end My
namespace My
open PySem PySem.Spec PyProof.Rows L2
abbrev s_eBadLine : Stmt := inClass (topS 3) 0
abbrev s_eBadRest : Stmt := inClass (topS 4) 0
abbrev s_eBadLength : Stmt := inClass (topS 5) 0
theorem all_mk {l : PySem.W.OpenLaw} {w : World} {K : PySem.W.Frag} {h : Heap} {mg : Str → Option Value} {fa CE CLine CB fB CR fR CN fN : Addr}  {c1 t1 : Addr} (hfa : mg "law" = some (.ref fa))
    (_gL : mg "Line" = some (.ref CLine))
    (_gE : mg "ClipError" = some (.ref CE))
    (_gBadLine : mg "BadLine" = some (.ref CB))
    (_iBadLine : PySem.W.findIn K (.ref CB) "__init__" = some (some (.ref fB)))
    (_gBadRest : mg "BadRest" = some (.ref CR))
    (_iBadRest : PySem.W.findIn K (.ref CR) "__init__" = some (some (.ref fR)))
    (_gBadLength : mg "BadLength" = some (.ref CN))
    (_iBadLength : PySem.W.findIn K (.ref CN) "__init__" = some (some (.ref fN)))
    (bi : BI mg)
    (e_BadLine : Sup.Err1 l.prog K mg "BadLine" "part" CB fB)
    (e_BadRest : Sup.Err1 l.prog K mg "BadRest" "value" CR fR)
    (e_BadLength : Sup.Err1 l.prog K mg "BadLength" "value" CN fN)
    (cl : Cls K CLine)
    (nS : NoAttr K CLine "slope")
    (nM : NoAttr K CLine "more")
    (ha : PySem.W.findIn K (.ref CLine) "__class__" = some (some (.builtin "object.__class__")))
    (hn : PySem.W.specialIn K (.builtin "object.__class__") "__get__" = some (some (.builtin "getset_descriptor.__get__")))
    (ht : PySem.W.takesIn K (.builtin "object.__class__") = some true)
    (hm : PySem.W.mroIn K CLine (.type "object") = some true)
    (me : PySem.W.kitOne K (.ref CLine) (.ref CLine) = some true)
    (mk : PySem.W.makesIn K CLine = true)
    (kp : PySem.W.keepIn K (.ref CLine) = true)
    (gGreat : ∃ t, mg "GREATEST_LENGTH" = some (.int 10000000000000000000000000000000000000000 t))
    (TH : HTx l.prog K mg CE CB fB CR fR CN fN)
    (A_init : HasD K CLine "__init__" "Line.__init__" s_init [.int 0] [])
    (A_call : HasM K CLine "__call__" "Line.__call__" s_call)
    (A_refined : HasM K CLine "refined" "Line.refined" s_refined)
    (A_isint : Has K mg "is_integer" s_isint)
    (A_needmod : Has K mg "need_modulus" s_needmod)
    (A_needrest : Has K mg "need_rest" s_needrest)
    (A_islen : Has K mg "is_length" s_islen)
    (A_classof : Has K mg "class_of" s_classof)
    (A_lenof : Has K mg "length_of" s_lenof)
    (A_rests : Has K mg "rests" s_rests)
    (A_finer : Has K mg "finer" s_finer)
    (A_pen : Has K mg "_law_pen" s_pen)
    (A_draw : Has K mg "_law_draw" s_draw)
    (A_pick : Has K mg "_law_pick" s_pick)
    (A_heard : Has K mg "_law_heard" s_heard)
    (A_classesR : Has K mg "_law_classes_right" s_classesR)
    (A_finerR : Has K mg "_law_finer_right" s_finerR)
    (A_farR : Has K mg "_law_far_right" s_farR)
    (A_law : Has K mg "law" s_law)
    (A_refusedR : HasC K mg "_law_refused_right" s_refusedR c1) (T1 : TabF K h (c1, t1))
    : LawG l w K 13 63 "_law_script" mg fa h := by
  obtain ⟨fl, fdl, hl, Fl⟩ := A_law.ex
  have e := hfa.symm.trans hl
  cases e
  obtain ⟨f_1, oc_1, od_1, kV_1, dc_1, pm_1, an_1, ct_1, sl_1, m_1, l_1, d_1, k_1⟩ := A_refusedR.ex
  obtain ⟨fh, fdh, hh, Fh⟩ := A_heard.ex
  refine ⟨fdl, [(c1, t1)], spLaw K [(t1, (("_law_refused_right" : Str) ++ ".<locals>.") ++ "<lambda>")], fun p hp => ?_, fun s u => ?_, fun H a ns hn hb ht hs => ?_, fun base hK hN hT => ?_⟩
  · simp only [List.mem_cons, List.mem_nil_iff, or_false] at hp
    rcases hp with rfl
    · exact T1
  · obtain ⟨oc, od, kV, doc, pm, an, cdv, ct, osl, rfl, _⟩ := Fl.ex
    exact .of_eq rfl
  · refine ⟨a, ns, rfl, hs, fun p hp => ?_, fun _ => rfl⟩
    simp only [List.mem_cons, List.mem_nil_iff, or_false] at hp
    rcases hp with rfl
    · exact LamX.TabS.nil (ht (c1, t1) (.head _))
  · have TB1 := hT (c1, t1) (.head _)
    obtain ⟨tG, gGreat⟩ := gGreat
    have gG : mg "GREATEST_LENGTH" = some (.int (10 ^ 40) tG) := by
      have e : (10 : Int) ^ 40 = 10000000000000000000000000000000000000000 := by decide +kernel
      rw [e]
      exact gGreat
    have TL : LTx l.prog K mg CLine CB fB CR fR := ⟨bi, cl, nS, nM, _gL, ha, hn, ht, hm, me, e_BadLine, e_BadRest⟩
    have T : MTx l.prog K mg CLine CB fB CR fR CN fN tG := ⟨TL, e_BadLength, gG⟩
    have DH : HeardAt K mg := ⟨⟨fh, fdh, Fh, hh, Fh.binds fun _ _ _ _ _ _ us hl => match us, hl with | [_], _ => rfl⟩⟩
    have D_isint : DefAt l.prog w K mg base CX0 1 "is_integer" ["thing"] spIsint := def_at A_isint (fun f fd F => ok_isint F bi) fun _ _ _ _ _ _ us hl => match us, hl with | [_], _ => rfl
    have D_pen : DefAt l.prog w K mg base CX0 1 "_law_pen" ["_law_script"] (spPen K) := def_at A_pen (fun f fd F => ok_pen F bi) fun _ _ _ _ _ _ us hl => match us, hl with | [_], _ => rfl
    have D_draw : DefAt l.prog w K mg base CX0 1 "_law_draw" ["_law_pen_here", "_law_many"] spDraw := def_at A_draw (fun f fd F => ok_draw F bi) fun _ _ _ _ _ _ us hl => match us, hl with | [_, _], _ => rfl
    have D_pick : DefAt l.prog w K mg base CX0 2 "_law_pick" ["_law_pen_here", "_law_some"] spPick := def_at A_pick (fun f fd F => ok_pick F bi D_draw) fun _ _ _ _ _ _ us hl => match us, hl with | [_, _], _ => rfl
    have M_Line : MakeAt l.prog w K mg base (L2.CX l.prog w) 3 "Line" CLine ["self", "slope", "more"] (spInit CLine CB) [] := make_all A_init _gL mk kp (fun f fd F => ok_init F TL D_isint) (by simp) fun _ _ _ _ _ _ _ us its hl hi => match us, hl, its, hi with | [_, _, _], _, [_], _ => ⟨_, rfl, rfl⟩
    have D_needmod : DefAt l.prog w K mg base (L2.CX l.prog w) 3 "need_modulus" ["modulus"] (spNeedM CB) := def_at A_needmod (fun f fd F => ok_needmod F TL D_isint) fun _ _ _ _ _ _ us hl => match us, hl with | [_], _ => rfl
    have D_needrest : DefAt l.prog w K mg base (L2.CX l.prog w) 3 "need_rest" ["rest", "modulus"] (spNeed CR) := def_at A_needrest (fun f fd F => ok_need F TL D_isint) fun _ _ _ _ _ _ us hl => match us, hl with | [_, _], _ => rfl
    have D_islen : DefAt l.prog w K mg base CX0 3 "is_length" ["thing", "most"] spIslen := def_at A_islen (fun f fd F => ok_islen F D_isint) fun _ _ _ _ _ _ us hl => match us, hl with | [_, _], _ => rfl
    have D_classof : DefAt l.prog w K mg base (L2.CX l.prog w) 5 "class_of" ["n", "modulus"] (spClassof CB CN) := def_at A_classof (fun f fd F => ok_classof F T D_islen D_needmod) fun _ _ _ _ _ _ us hl => match us, hl with | [_, _], _ => rfl
    have D_lenof : DefAt l.prog w K mg base (L2.CX l.prog w) 5 "length_of" ["rest", "m", "modulus"] (spLenof CB CR) := def_at A_lenof (fun f fd F => ok_lenof F T D_isint D_needmod D_needrest) fun _ _ _ _ _ _ us hl => match us, hl with | [_, _, _], _ => rfl
    have DK_classof : DefK l.prog w K mg base (L2.CX l.prog w) 5 "class_of" ["n", "modulus"] ["modulus", "n"] (spClassof CB CN) gRev := defK_at (g := fun us ws => us ++ ws.reverse) A_classof (fun f fd F => ok_classof F T D_islen D_needmod) (fun _ _ _ _ _ _ us ws h1 h2 => match us, h1, ws, h2 with | [], _, [_, _], _ => rfl) rev_rel
    have DK_lenof : DefK l.prog w K mg base (L2.CX l.prog w) 5 "length_of" ["rest", "m", "modulus"] ["m", "modulus", "rest"] (spLenof CB CR) gLen := defK_at (g := fun us ws => us ++ (ws.drop 2 ++ ws.take 2)) A_lenof (fun f fd F => ok_lenof F T D_isint D_needmod D_needrest) (fun _ _ _ _ _ _ us ws h1 h2 => match us, h1, ws, h2 with | [], _, [_, _, _], _ => rfl) (fun h1 h2 => h1.append ((h2.drop 2).append (h2.take 2)))
    have G_rests : GnAt l.prog w K mg base 5 "rests" ["modulus"] spRests := gn_at A_rests (fun _ _ _ _ _ _ _ _ _ _ lk hcd => ok_rests lk hcd bi.z_range D_needmod) fun _ _ _ _ _ _ us hl => match us, hl with | [_], _ => rfl
    have G_finer : GnAt l.prog w K mg base 5 "finer" ["rest", "modulus", "times"] spFiner := gn_at A_finer (fun _ _ _ _ _ _ _ _ _ _ lk hcd => ok_finer lk hcd bi.z_range D_isint D_needmod D_needrest) fun _ _ _ _ _ _ us hl => match us, hl with | [_, _, _], _ => rfl
    have GK_rests : GnKw l.prog w K mg base 5 "rests" ["modulus"] ["modulus"] spRests gRev := gnk_at (g := fun us ws => us ++ ws.reverse) A_rests (fun _ _ _ _ _ _ _ _ _ _ lk hcd => ok_rests lk hcd bi.z_range D_needmod) (fun _ _ _ _ _ _ us ws h1 h2 => match us, h1, ws, h2 with | [], _, [_], _ => rfl) rev_rel
    have GK_finer : GnKw l.prog w K mg base 5 "finer" ["rest", "modulus", "times"] ["times", "modulus", "rest"] spFiner gRev := gnk_at (g := fun us ws => us ++ ws.reverse) A_finer (fun _ _ _ _ _ _ _ _ _ _ lk hcd => ok_finer lk hcd bi.z_range D_isint D_needmod D_needrest) (fun _ _ _ _ _ _ us ws h1 h2 => match us, h1, ws, h2 with | [], _, [_, _, _], _ => rfl) rev_rel
    have GE_rests : GfAt l.prog w K mg base 4 "rests" ["modulus"] (spRestsE CB) := gf_at A_rests (fun _ _ _ _ _ _ _ _ _ _ lk hcd => ok_restsE lk hcd D_needmod) fun _ _ _ _ _ _ us hl => match us, hl with | [_], _ => rfl
    have GE_finer : GfAt l.prog w K mg base 4 "finer" ["rest", "modulus", "times"] (spFinerE CB CR) := gf_at A_finer (fun _ _ _ _ _ _ _ _ _ _ lk hcd => ok_finerE lk hcd TL D_isint D_needmod D_needrest) fun _ _ _ _ _ _ us hl => match us, hl with | [_, _, _], _ => rfl
    have X_refined : MethAt l.prog w K mg base (L2.CX l.prog w) 5 CLine "refined" ["self", "times", "rest"] (spRef CLine CB CR) := meth_at A_refined (fun f fd F => ok_refined F TL D_isint D_needrest M_Line) fun _ _ _ _ _ _ us hl => match us, hl with | [_, _, _], _ => rfl
    have C_Line : CallAt l.prog w K mg base (L2.CX l.prog w) 3 CLine ["self", "m"] (spCall CLine CB) := call_at A_call (fun f fd F => ok_call F TL D_isint) fun _ _ _ _ _ _ us hl => match us, hl with | [_, _], _ => rfl
    have D_classesR : DefG l.prog w K mg base CX0 8 "_law_classes_right" ["_law_pen_here", "_law_many"] spClassesR := def_atG A_classesR (fun f fd F => ok_classesR F T D_draw D_pick D_classof D_lenof DK_classof DK_lenof) fun _ _ _ _ _ _ us hl => match us, hl with | [_, _], _ => rfl
    have D_finerR : DefG l.prog w K mg base CX0 8 "_law_finer_right" ["_law_pen_here", "_law_many"] spFinerR := def_atG A_finerR (fun f fd F => ok_finerR F T D_draw D_pick D_classof D_lenof G_finer GK_finer M_Line X_refined C_Line) fun _ _ _ _ _ _ us hl => match us, hl with | [_, _], _ => rfl
    have un1 : ∀ p ∈ [(t1, (("_law_refused_right" : Str) ++ ".<locals>.") ++ "<lambda>")], p.1 = t1 → p.2 = (("_law_refused_right" : Str) ++ ".<locals>.") ++ "<lambda>" := by
      intro p hp e
      simp only [List.mem_cons, List.mem_nil_iff, or_false] at hp
      rcases hp with rfl
      · exact rfl
    have D_refusedR : DefG l.prog w K mg base CX0 11 "_law_refused_right" ["_law_pen_here", "_law_many"] (spRefusedR [(t1, (("_law_refused_right" : Str) ++ ".<locals>.") ++ "<lambda>")]) := ⟨f_1, _, ok_refusedR ⟨⟨oc_1, od_1, kV_1, dc_1, pm_1, an_1, ct_1, sl_1, rfl, l_1, d_1⟩, k_1⟩ T TH DH TB1 (.head _) un1 D_pick D_classof D_lenof GE_rests GE_finer, m_1, k_1, .all fun us hl => match us, hl with | [_, _], _ => rfl⟩
    have D_farR : DefAt l.prog w K mg base CX0 8 "_law_far_right" [] spFarR := def_at A_farR (fun f fd F => ok_farR F T G_rests G_finer) fun _ _ _ _ _ _ us hl => match us, hl with | [], _ => rfl
    exact ok_law Fl T D_pen D_draw D_pick G_rests GK_rests D_classof D_classesR D_finerR D_refusedR D_farR
end My
set_option maxHeartbeats 0
namespace HeadL
open PySem PySem.Spec PyProof.Rows L2 My
abbrev P0 : Program := (PySem.Challenge.rw_clipfades_k19_whole_classes_of_lengths).prog
def fs : List (PySem.W.Frag → Bool) := [fun K => (He.Fa.glo "Line").ok K,
  fun K => (He.Fa.glo "ClipError").ok K,
  fun K => (He.Fa.glo "BadLine").ok K,
  fun K => My.attB K (He.ga K "BadLine") "__init__",
  fun K => (He.Fa.glo "BadRest").ok K,
  fun K => My.attB K (He.ga K "BadRest") "__init__",
  fun K => (He.Fa.glo "BadLength").ok K,
  fun K => My.attB K (He.ga K "BadLength") "__init__",
  fun K => (He.Fa.free "len").ok K,
  fun K => (He.Fa.free "abs").ok K,
  fun K => (He.Fa.free "int").ok K,
  fun K => (He.Fa.free "bool").ok K,
  fun K => (He.Fa.free "list").ok K,
  fun K => (He.Fa.free "repr").ok K,
  fun K => (He.Fa.free "isinstance").ok K,
  fun K => (He.Fa.free "range").ok K,
  fun K => My.err1B P0 K "BadLine" "part" "BadLine.__init__",
  fun K => My.err1B P0 K "BadRest" "value" "BadRest.__init__",
  fun K => My.err1B P0 K "BadLength" "value" "BadLength.__init__",
  fun K => My.clsB K (He.ga K "Line"),
  fun K => He.eqO (PySem.W.findIn K (.ref (He.ga K "Line")) "slope") (some none),
  fun K => He.eqO (PySem.W.findIn K (.ref (He.ga K "Line")) "more") (some none),
  fun K => He.eqO (PySem.W.findIn K (.ref (He.ga K "Line")) "__class__") (some (some (.builtin "object.__class__"))),
  fun K => He.eqO (PySem.W.specialIn K (.builtin "object.__class__") "__get__") (some (some (.builtin "getset_descriptor.__get__"))),
  fun K => decide (PySem.W.takesIn K (.builtin "object.__class__") = some true),
  fun K => decide (PySem.W.mroIn K (He.ga K "Line") (.type "object") = some true),
  fun K => decide (PySem.W.kitOne K (.ref (He.ga K "Line")) (.ref (He.ga K "Line")) = some true),
  fun K => PySem.W.makesIn K (He.ga K "Line"),
  fun K => PySem.W.keepIn K (.ref (He.ga K "Line")),
  fun K => (He.Fa.int "GREATEST_LENGTH" 10000000000000000000000000000000000000000).ok K] ++ [fun K => decide (PySem.W.exmOne K (.ref (He.ga K "BadLength")) (.ref (He.ga K "ClipError")) = some true),
  fun K => My.excKB K (He.ga K "BadLength"),
  fun K => decide (PySem.W.kitOne K (.ref (He.ga K "BadLength")) (.ref (He.ga K "BadRest")) = some false),
  fun K => decide (PySem.W.kitOne K (.ref (He.ga K "BadLength")) (.ref (He.ga K "BadLength")) = some true),
  fun K => decide (PySem.W.kitOne K (.ref (He.ga K "BadLength")) (.ref (He.ga K "BadLine")) = some false),
  fun K => decide (PySem.W.kitOne K (.ref (He.ga K "BadLine")) (.ref (He.ga K "BadLength")) = some false),
  fun K => decide (PySem.W.kitOne K (.ref (He.ga K "BadRest")) (.ref (He.ga K "BadLength")) = some false),
  fun K => decide (PySem.W.kitOne K (.ref (He.ga K "BadRest")) (.ref (He.ga K "BadLine")) = some false),
  fun K => decide (PySem.W.exmOne K (.ref (He.ga K "BadLine")) (.ref (He.ga K "ClipError")) = some true),
  fun K => decide (PySem.W.exmOne K (.ref (He.ga K "BadRest")) (.ref (He.ga K "ClipError")) = some true),
  fun K => My.excKB K (He.ga K "BadLine"),
  fun K => My.excKB K (He.ga K "BadRest"),
  fun K => decide (PySem.W.kitOne K (.ref (He.ga K "BadLine")) (.ref (He.ga K "BadLine")) = some true),
  fun K => decide (PySem.W.kitOne K (.ref (He.ga K "BadRest")) (.ref (He.ga K "BadRest")) = some true),
  fun K => decide (PySem.W.kitOne K (.ref (He.ga K "BadLine")) (.ref (He.ga K "BadRest")) = some false),
  fun K => decide (PySem.W.subIn K (.ref (He.ga K "BadLine")) (.type "StopIteration") = some false),
  fun K => decide (PySem.W.subIn K (.ref (He.ga K "BadRest")) (.type "StopIteration") = some false),
  fun K => My.fnB K (He.ga K "Line") "__init__" && My.fdB K (He.ma K (He.ga K "Line") "__init__") "Line.__init__" [.int 0],
  fun K => My.fnB K (He.ga K "Line") "__call__" && My.fdB K (He.ma K (He.ga K "Line") "__call__") "Line.__call__" [],
  fun K => My.fnB K (He.ga K "Line") "refined" && My.fdB K (He.ma K (He.ga K "Line") "refined") "Line.refined" [],
  fun K => (He.Fa.glo "is_integer").ok K && My.fdB K (He.ga K "is_integer") "is_integer" [],
  fun K => (He.Fa.glo "need_modulus").ok K && My.fdB K (He.ga K "need_modulus") "need_modulus" [],
  fun K => (He.Fa.glo "need_rest").ok K && My.fdB K (He.ga K "need_rest") "need_rest" [],
  fun K => (He.Fa.glo "is_length").ok K && My.fdB K (He.ga K "is_length") "is_length" [],
  fun K => (He.Fa.glo "class_of").ok K && My.fdB K (He.ga K "class_of") "class_of" [],
  fun K => (He.Fa.glo "length_of").ok K && My.fdB K (He.ga K "length_of") "length_of" [],
  fun K => (He.Fa.glo "rests").ok K && My.fdB K (He.ga K "rests") "rests" [],
  fun K => (He.Fa.glo "finer").ok K && My.fdB K (He.ga K "finer") "finer" [],
  fun K => (He.Fa.glo "_law_pen").ok K && My.fdB K (He.ga K "_law_pen") "_law_pen" [],
  fun K => (He.Fa.glo "_law_draw").ok K && My.fdB K (He.ga K "_law_draw") "_law_draw" []] ++ [fun K => (He.Fa.glo "_law_pick").ok K && My.fdB K (He.ga K "_law_pick") "_law_pick" [],
  fun K => (He.Fa.glo "_law_heard").ok K && My.fdB K (He.ga K "_law_heard") "_law_heard" [],
  fun K => (He.Fa.glo "_law_classes_right").ok K && My.fdB K (He.ga K "_law_classes_right") "_law_classes_right" [],
  fun K => (He.Fa.glo "_law_finer_right").ok K && My.fdB K (He.ga K "_law_finer_right") "_law_finer_right" [],
  fun K => (He.Fa.glo "_law_far_right").ok K && My.fdB K (He.ga K "_law_far_right") "_law_far_right" [],
  fun K => (He.Fa.glo "law").ok K && My.fdB K (He.ga K "law") "law" [],
  fun K => (He.Fa.glo "_law_refused_right").ok K && My.fdB K (He.ga K "_law_refused_right") "_law_refused_right" []]
def fn : List My.FD := [⟨fun K => He.ma K (He.ga K "BadLine") "__init__", "__init__", "BadLine.__init__", My.s_eBadLine, []⟩,
  ⟨fun K => He.ma K (He.ga K "BadRest") "__init__", "__init__", "BadRest.__init__", My.s_eBadRest, []⟩,
  ⟨fun K => He.ma K (He.ga K "BadLength") "__init__", "__init__", "BadLength.__init__", My.s_eBadLength, []⟩,
  ⟨fun K => He.ma K (He.ga K "Line") "__init__", "__init__", "Line.__init__", My.s_init, []⟩,
  ⟨fun K => He.ma K (He.ga K "Line") "__call__", "__call__", "Line.__call__", My.s_call, []⟩,
  ⟨fun K => He.ma K (He.ga K "Line") "refined", "refined", "Line.refined", My.s_refined, []⟩,
  ⟨fun K => He.ga K "is_integer", "is_integer", "is_integer", My.s_isint, []⟩,
  ⟨fun K => He.ga K "need_modulus", "need_modulus", "need_modulus", My.s_needmod, []⟩,
  ⟨fun K => He.ga K "need_rest", "need_rest", "need_rest", My.s_needrest, []⟩,
  ⟨fun K => He.ga K "is_length", "is_length", "is_length", My.s_islen, []⟩,
  ⟨fun K => He.ga K "class_of", "class_of", "class_of", My.s_classof, []⟩,
  ⟨fun K => He.ga K "length_of", "length_of", "length_of", My.s_lenof, []⟩,
  ⟨fun K => He.ga K "rests", "rests", "rests", My.s_rests, []⟩,
  ⟨fun K => He.ga K "finer", "finer", "finer", My.s_finer, []⟩,
  ⟨fun K => He.ga K "_law_pen", "_law_pen", "_law_pen", My.s_pen, []⟩,
  ⟨fun K => He.ga K "_law_draw", "_law_draw", "_law_draw", My.s_draw, []⟩,
  ⟨fun K => He.ga K "_law_pick", "_law_pick", "_law_pick", My.s_pick, []⟩,
  ⟨fun K => He.ga K "_law_heard", "_law_heard", "_law_heard", My.s_heard, []⟩,
  ⟨fun K => He.ga K "_law_classes_right", "_law_classes_right", "_law_classes_right", My.s_classesR, []⟩,
  ⟨fun K => He.ga K "_law_finer_right", "_law_finer_right", "_law_finer_right", My.s_finerR, []⟩,
  ⟨fun K => He.ga K "_law_far_right", "_law_far_right", "_law_far_right", My.s_farR, []⟩,
  ⟨fun K => He.ga K "law", "law", "law", My.s_law, []⟩,
  ⟨fun K => He.ga K "_law_refused_right", "_law_refused_right", "_law_refused_right", My.s_refusedR, []⟩]
def tf : List (PySem.W.Frag → Addr) := [fun K => He.ga K "_law_refused_right"]
def sl : List My.Sel := [.cls "BadLine",
  .cls "BadRest",
  .cls "BadLength",
  .cls "Line",
  .cls "ClipError",
  .fn "is_integer",
  .fn "need_modulus",
  .fn "need_rest",
  .fn "is_length",
  .fn "class_of",
  .fn "length_of",
  .fn "rests",
  .fn "finer",
  .fn "_law_pen",
  .fn "_law_draw",
  .fn "_law_pick",
  .fn "_law_heard",
  .fn "_law_classes_right",
  .fn "_law_finer_right",
  .fn "_law_far_right",
  .fn "law",
  .fn "_law_refused_right",
  .meth "BadLine" "__init__",
  .meth "BadRest" "__init__",
  .meth "BadLength" "__init__",
  .meth "Line" "__init__",
  .meth "Line" "__call__",
  .meth "Line" "refined"]
abbrev hk : PySem.W.Hook := My.hookM sl fs fn tf
def ob (s : PySem.W.SharedT) : My.AM := My.obsM sl fs fn tf (HandSHeadRun.getT s)
theorem ob_eq (s : PySem.W.SharedT) : ob s = hk.obs s.abs := My.obsM_eq (HandSHeadRun.getT_eq s)
def names : List PySem.Str := (["_wall", "ClipError", "BadLine", "BadRest", "BadLength", "BadText", "GREATEST_LENGTH", "MOST_DIGITS", "DIGITS", "is_integer", "digits_in", "integer_in", "slope_in", "Line", "text_of", "more_in", "as_line", "need_modulus", "need_rest", "is_length", "class_of", "length_of", "rests", "finer", "_law_pen", "_law_draw", "_law_pick", "_law_heard", "_law_classes_right", "_law_finer_right"] : List PySem.Str) ++ (["_law_refused_right", "_law_far_right"] : List PySem.Str)
theorem run (w : World) : HandSHeadRun.RunEq (PySem.W.OpenLaw.row PySem.Challenge.rw_clipfades_k19_whole_classes_of_lengths) (PySem.W.view (PySem.W.OpenLaw.row PySem.Challenge.rw_clipfades_k19_whole_classes_of_lengths).prog [35]) hk ob 60000 names w := by
  intro os
  kernel_rfl
theorem law_of {w : World} {K : PySem.W.Frag} {h : Heap} {mg : Str → Option Value} {fa : Addr} (KX : K.In h) (G : h.Ns mainGlobals mg) (hmg : mg ("law" : Str) = some (.ref fa)) (c : My.SaysM fs fn tf h K) : My.LawG PySem.Challenge.rw_clipfades_k19_whole_classes_of_lengths w K 13 63 "_law_script" mg fa h := by
  have h_gL : mg "Line" = some (.ref (He.ga K "Line")) := (He.glo_ok KX G (c.facts 0 _ rfl))
  have h_gE : mg "ClipError" = some (.ref (He.ga K "ClipError")) := (He.glo_ok KX G (c.facts 1 _ rfl))
  have h_gBadLine : mg "BadLine" = some (.ref (He.ga K "BadLine")) := (He.glo_ok KX G (c.facts 2 _ rfl))
  have h_iBadLine : PySem.W.findIn K (.ref (He.ga K "BadLine")) "__init__" = some (some (.ref (He.ma K (He.ga K "BadLine") "__init__"))) := (He.eqO_ok (c.facts 3 _ rfl))
  have h_gBadRest : mg "BadRest" = some (.ref (He.ga K "BadRest")) := (He.glo_ok KX G (c.facts 4 _ rfl))
  have h_iBadRest : PySem.W.findIn K (.ref (He.ga K "BadRest")) "__init__" = some (some (.ref (He.ma K (He.ga K "BadRest") "__init__"))) := (He.eqO_ok (c.facts 5 _ rfl))
  have h_gBadLength : mg "BadLength" = some (.ref (He.ga K "BadLength")) := (He.glo_ok KX G (c.facts 6 _ rfl))
  have h_iBadLength : PySem.W.findIn K (.ref (He.ga K "BadLength")) "__init__" = some (some (.ref (He.ma K (He.ga K "BadLength") "__init__"))) := (He.eqO_ok (c.facts 7 _ rfl))
  have h_bi : BI mg := ⟨(He.free_ok KX G (c.facts 8 _ rfl)), (He.free_ok KX G (c.facts 9 _ rfl)), (He.free_ok KX G (c.facts 10 _ rfl)), (He.free_ok KX G (c.facts 11 _ rfl)), (He.free_ok KX G (c.facts 12 _ rfl)), (He.free_ok KX G (c.facts 13 _ rfl)), (He.free_ok KX G (c.facts 14 _ rfl)), (He.free_ok KX G (c.facts 15 _ rfl))⟩
  have h_e_BadLine : Sup.Err1 P0 K mg "BadLine" "part" (He.ga K "BadLine") (He.ma K (He.ga K "BadLine") "__init__") := (My.err1_ok KX G My.nm_part (c.facts 16 _ rfl) (c.defs 0 _ rfl) ⟨_, _, rfl⟩ ⟨_, _, _, _, _, _, _, _, _, _, rfl, rfl⟩ rfl (by decide +kernel))
  have h_e_BadRest : Sup.Err1 P0 K mg "BadRest" "value" (He.ga K "BadRest") (He.ma K (He.ga K "BadRest") "__init__") := (My.err1_ok KX G My.nm_value (c.facts 17 _ rfl) (c.defs 1 _ rfl) ⟨_, _, rfl⟩ ⟨_, _, _, _, _, _, _, _, _, _, rfl, rfl⟩ rfl (by decide +kernel))
  have h_e_BadLength : Sup.Err1 P0 K mg "BadLength" "value" (He.ga K "BadLength") (He.ma K (He.ga K "BadLength") "__init__") := (My.err1_ok KX G My.nm_value (c.facts 18 _ rfl) (c.defs 2 _ rfl) ⟨_, _, rfl⟩ ⟨_, _, _, _, _, _, _, _, _, _, rfl, rfl⟩ rfl (by decide +kernel))
  have h_cl : Cls K (He.ga K "Line") := (My.clsB_ok (c.facts 19 _ rfl))
  have h_nS : NoAttr K (He.ga K "Line") "slope" := (He.eqO_ok (c.facts 20 _ rfl))
  have h_nM : NoAttr K (He.ga K "Line") "more" := (He.eqO_ok (c.facts 21 _ rfl))
  have h_ha : PySem.W.findIn K (.ref (He.ga K "Line")) "__class__" = some (some (.builtin "object.__class__")) := (He.eqO_ok (c.facts 22 _ rfl))
  have h_hn : PySem.W.specialIn K (.builtin "object.__class__") "__get__" = some (some (.builtin "getset_descriptor.__get__")) := (He.eqO_ok (c.facts 23 _ rfl))
  have h_ht : PySem.W.takesIn K (.builtin "object.__class__") = some true := (of_decide_eq_true (c.facts 24 _ rfl))
  have h_hm : PySem.W.mroIn K (He.ga K "Line") (.type "object") = some true := (of_decide_eq_true (c.facts 25 _ rfl))
  have h_me : PySem.W.kitOne K (.ref (He.ga K "Line")) (.ref (He.ga K "Line")) = some true := (of_decide_eq_true (c.facts 26 _ rfl))
  have h_mk : PySem.W.makesIn K (He.ga K "Line") = true := (c.facts 27 _ rfl)
  have h_kp : PySem.W.keepIn K (.ref (He.ga K "Line")) = true := (c.facts 28 _ rfl)
  have h_gGreat : ∃ t, mg "GREATEST_LENGTH" = some (.int 10000000000000000000000000000000000000000 t) := (He.int_ok KX G (c.facts 29 _ rfl))
  have h_TH : HTx P0 K mg (He.ga K "ClipError") (He.ga K "BadLine") (He.ma K (He.ga K "BadLine") "__init__") (He.ga K "BadRest") (He.ma K (He.ga K "BadRest") "__init__") (He.ga K "BadLength") (He.ma K (He.ga K "BadLength") "__init__") := ⟨h_bi, h_gE, h_e_BadLine, h_e_BadRest, h_e_BadLength, (of_decide_eq_true (c.facts 30 _ rfl)), (My.excKB_ok (c.facts 31 _ rfl)), (of_decide_eq_true (c.facts 32 _ rfl)), (of_decide_eq_true (c.facts 33 _ rfl)), (of_decide_eq_true (c.facts 34 _ rfl)), (of_decide_eq_true (c.facts 35 _ rfl)), (of_decide_eq_true (c.facts 36 _ rfl)), (of_decide_eq_true (c.facts 37 _ rfl)), (of_decide_eq_true (c.facts 38 _ rfl)), (of_decide_eq_true (c.facts 39 _ rfl)), (My.excKB_ok (c.facts 40 _ rfl)), (My.excKB_ok (c.facts 41 _ rfl)), (of_decide_eq_true (c.facts 42 _ rfl)), (of_decide_eq_true (c.facts 43 _ rfl)), (of_decide_eq_true (c.facts 44 _ rfl)), (of_decide_eq_true (c.facts 45 _ rfl)), (of_decide_eq_true (c.facts 46 _ rfl))⟩
  have h_A_init : HasD K (He.ga K "Line") "__init__" "Line.__init__" s_init [.int 0] [] := (My.hasDM (c.defs 3 _ rfl) (c.facts 47 _ rfl))
  have h_A_call : HasM K (He.ga K "Line") "__call__" "Line.__call__" s_call := (My.hasMM (c.defs 4 _ rfl) (c.facts 48 _ rfl))
  have h_A_refined : HasM K (He.ga K "Line") "refined" "Line.refined" s_refined := (My.hasMM (c.defs 5 _ rfl) (c.facts 49 _ rfl))
  have h_A_isint : Has K mg "is_integer" s_isint := (My.hasM0 KX G (c.defs 6 _ rfl) (c.facts 50 _ rfl))
  have h_A_needmod : Has K mg "need_modulus" s_needmod := (My.hasM0 KX G (c.defs 7 _ rfl) (c.facts 51 _ rfl))
  have h_A_needrest : Has K mg "need_rest" s_needrest := (My.hasM0 KX G (c.defs 8 _ rfl) (c.facts 52 _ rfl))
  have h_A_islen : Has K mg "is_length" s_islen := (My.hasM0 KX G (c.defs 9 _ rfl) (c.facts 53 _ rfl))
  have h_A_classof : Has K mg "class_of" s_classof := (My.hasM0 KX G (c.defs 10 _ rfl) (c.facts 54 _ rfl))
  have h_A_lenof : Has K mg "length_of" s_lenof := (My.hasM0 KX G (c.defs 11 _ rfl) (c.facts 55 _ rfl))
  have h_A_rests : Has K mg "rests" s_rests := (My.hasM0 KX G (c.defs 12 _ rfl) (c.facts 56 _ rfl))
  have h_A_finer : Has K mg "finer" s_finer := (My.hasM0 KX G (c.defs 13 _ rfl) (c.facts 57 _ rfl))
  have h_A_pen : Has K mg "_law_pen" s_pen := (My.hasM0 KX G (c.defs 14 _ rfl) (c.facts 58 _ rfl))
  have h_A_draw : Has K mg "_law_draw" s_draw := (My.hasM0 KX G (c.defs 15 _ rfl) (c.facts 59 _ rfl))
  have h_A_pick : Has K mg "_law_pick" s_pick := (My.hasM0 KX G (c.defs 16 _ rfl) (c.facts 60 _ rfl))
  have h_A_heard : Has K mg "_law_heard" s_heard := (My.hasM0 KX G (c.defs 17 _ rfl) (c.facts 61 _ rfl))
  have h_A_classesR : Has K mg "_law_classes_right" s_classesR := (My.hasM0 KX G (c.defs 18 _ rfl) (c.facts 62 _ rfl))
  have h_A_finerR : Has K mg "_law_finer_right" s_finerR := (My.hasM0 KX G (c.defs 19 _ rfl) (c.facts 63 _ rfl))
  have h_A_farR : Has K mg "_law_far_right" s_farR := (My.hasM0 KX G (c.defs 20 _ rfl) (c.facts 64 _ rfl))
  have h_A_law : Has K mg "law" s_law := (My.hasM0 KX G (c.defs 21 _ rfl) (c.facts 65 _ rfl))
  have h_A_refusedR : HasC K mg "_law_refused_right" s_refusedR (My.cAt K (He.ga K "_law_refused_right")) := (My.hasCM KX G (c.defs 22 _ rfl) (c.facts 66 _ rfl))
  have h_T1 : TabF K h ((My.cAt K (He.ga K "_law_refused_right")), (He.tabOf K (My.cAt K (He.ga K "_law_refused_right")))) := (My.tabFM KX c 0 rfl)
  exact My.all_mk (l := PySem.Challenge.rw_clipfades_k19_whole_classes_of_lengths) (K := K) (CE := He.ga K "ClipError") (CLine := He.ga K "Line") (CB := He.ga K "BadLine") (fB := He.ma K (He.ga K "BadLine") "__init__") (CR := He.ga K "BadRest") (fR := He.ma K (He.ga K "BadRest") "__init__") (CN := He.ga K "BadLength") (fN := He.ma K (He.ga K "BadLength") "__init__") (c1 := My.cAt K (He.ga K "_law_refused_right")) (t1 := He.tabOf K (My.cAt K (He.ga K "_law_refused_right"))) hmg h_gL h_gE h_gBadLine h_iBadLine h_gBadRest h_iBadRest h_gBadLength h_iBadLength h_bi h_e_BadLine h_e_BadRest h_e_BadLength h_cl h_nS h_nM h_ha h_hn h_ht h_hm h_me h_mk h_kp h_gGreat h_TH h_A_init h_A_call h_A_refined h_A_isint h_A_needmod h_A_needrest h_A_islen h_A_classof h_A_lenof h_A_rests h_A_finer h_A_pen h_A_draw h_A_pick h_A_heard h_A_classesR h_A_finerR h_A_farR h_A_law h_A_refusedR h_T1
end HeadL
open PySem PySem.W PySem.Calls PyProof.Rows
theorem PySem.Challenge.cw_clipfades_k19_whole_classes_of_lengths_holds : PySem.Challenge.rw_clipfades_k19_whole_classes_of_lengths.Holds := by
  w_on; o_law
  refine HandSHeadRun.head_any (r := OpenLaw.row PySem.Challenge.rw_clipfades_k19_whole_classes_of_lengths) (q := view (OpenLaw.row PySem.Challenge.rw_clipfades_k19_whole_classes_of_lengths).prog [35]) (H := HeadL.hk) (ob := HeadL.ob) (M := 60000) (loose := HeadL.names) (d := HandSHeadRun.topDef (OpenLaw.row PySem.Challenge.rw_clipfades_k19_whole_classes_of_lengths).prog 35) (kwd := []) HeadL.ob_eq
    (by kernel_rfl) (fun s => by kernel_rfl) HeadL.run (by kernel_rfl) (by kernel_rfl) (by kernel_rfl) (by rfl) (by first | assumption | decide +kernel) (by decide +kernel) ⟨rfl, rfl, rfl, rfl, rfl, by decide +kernel⟩ ?hw ?hc
  case hw => w_witness2
  case hc =>
    refine My.walk_GE (l := PySem.Challenge.rw_clipfades_k19_whole_classes_of_lengths) (n := 63) (k := 13) (x := "_law_script") rfl (by decide) (by kernel_rfl) ⟨rfl, by decide, by decide⟩ ?F
    intro w mg fa h Y G hmg0
    obtain ⟨K, KX, c⟩ := Y
    have hmg : mg ("law" : PySem.Str) = some (.ref fa) := by
      have e : (HandSHeadRun.topDef (OpenLaw.row PySem.Challenge.rw_clipfades_k19_whole_classes_of_lengths).prog 35).name = ("law" : PySem.Str) := by kernel_rfl
      rw [← e]
      exact hmg0
    exact ⟨K, KX, HeadL.law_of KX G hmg c⟩
