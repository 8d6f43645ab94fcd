import PyProof.Rows.All
import Wide.All
import OpenK.AllK
import Wide.FinOn
import HandS.ForMost
import HandS.ForExc
import HandS.ExcInit
import HandS.ExcField
import HandS.Lambda
import HandS.IsInst
import KE.KExcIs
import PyProof.Rows.NestShow
import KE.KExcSuper
import HandS.Wide
import HandS.Star
import HandS.Defaults
import HandS.EndTab
import PyProof.ListMulRight
import KE.KOpsOwn
import KE.KCallOwn
import KE.KFmtOwn
import PyProof.InstNe
import HandS.ClsMeth
import HandS.TupLe
import HandS.MakeKwOnly
import HandS.MakeKw
import HandS.Small
import HandS.Style
import HandS.TupAny
import KE.GoesEnum
import KE.GoesMore
import KE.KTupTruth
import KE.KStateDown
import KE.KNestM
import HandS.Head0
import HandS.Head1
import HandS.Head2
import HandS.HeadHook1
import HandS.HeadHook2
import HandS.HeadHook4
import HandS.Property
import HandS.GenList
import HandS.Walk
import HandS.Codes
import HandS.FStr
import HandS.RaiseMore
import HandS.Dict
import HandS.Comp
import PyProof.ReprLen
import KE.KSuper
import KE.KSuperObj
import HandS.Nested
import HandS.OwnEq
import KE.DataEq
import PySem.Challenge.RW_clipfades_k30_echoes_with_and_without_ta
set_option Elab.async false
set_option linter.all false
set_option maxRecDepth 100000
set_option maxHeartbeats 4000000
/-! Rules of our own over the hand layer: defs whose guards are told (for repr), repr of data, an error kept behind its except suite. -/
namespace My
open PySem PySem.Spec PyProof.Rows L2
/-! ### a def that is run where no repr is under way -/
structure FnG (P : Program) (w : World) (K : PySem.W.Frag) (mg : Str → Option Value) (base : Heap) (CX : CXT) (k : Nat) (f : Addr) (fd : FuncData) (ps : List Str) (sp : Sp) : Prop where
  len : ∀ vs H Q E, sp vs H Q E → vs.length = ps.length
  run : ∀ (A : Around) (outer : List Env) (s : Shared) (H : Hp) (args : Args) (us : List Value) (vs : List V) (Q : VK) (E : XK), A.guards = some [] → Room k A → Env0 P w K mg base A outer s H → BindsTo s fd args (ps.zip us) → Vals vs us → sp vs H Q E →
    codeAny (model P w) A (.call (.ref f) args) (CR CX outer P w H s Q E) s
section
variable {P : Program} {w : World} {K : PySem.W.Frag} {mg : Str → Option Value} {base : Heap}
theorem okG {x qual : Str} {st : Stmt} {f : Addr} {fd : FuncData} {N ps : List Str} {k : Nat} {sp : Sp} (F : Fun K x qual st f fd) (S : FnScope N ps (defScope st)) (len : ∀ vs H Q E, sp vs H Q E → vs.length = ps.length)
    (hbody : ∀ (cdv : Value) (A : Around) (outer : List Env) (s : Shared) (H : Hp) (vs : List V) (Q : VK) (E : XK), K.lookup f ≠ none → A.guards = some [] → Room k (A.deeper (envOfC qual (defScope st) s.heap.objs.size f cdv)) → sp vs H Q E →
      ∃ t, PSs (cxOf CX0 P w K mg base N qual (defScope st) f cdv A outer s H E).nox (defBody st) t ∧ t { nx := fun _ H' => Q .non H', rt := Q } (start N vs) H) : FnG P w K mg base CX0 (k + 1) f fd ps sp := by
  obtain ⟨oc, od, kV, doc, pm, an, cdv, ct, osl, rfl, lk, hcd⟩ := F.ex
  refine ⟨len, fun A outer s H args us vs Q E hg hr e0 hb r hsp => LamX.run_ofS lk hcd S hr e0 hb r (len _ _ _ _ hsp) fun hr' => ?_⟩
  obtain ⟨t, h, q⟩ := hbody cdv A outer s H vs Q E (by rw [lk]; exact fun z => nomatch z) hg hr' hsp
  exact ⟨t, h.nox, q⟩
end
section
variable {X : Cx} {CX : CXT} {k : Nat} {f : Addr} {fd : FuncData} {ps : List Str} {sp : Sp} {E : XK} {x : Str} {e : Expr} {es : List Expr} {t : TA} {p pos : Pos} {ds : List Value} {dvs : List V}
/-- x(e, ..) -/
theorem pe_callG (F : FnG X.prog X.w X.K X.mg X.base CX k f fd ps sp) (hgd : X.A.guards = some []) (hr : Room k X.A) (hg : Gl X x) (hm : X.mg x = some (.ref f)) (hk : PySem.W.keepIn X.K (.ref f) = true) (hb : Binds X.K fd ps []) (hx : Passes CX X E)
    (ha : PA X (e :: es) t) (hdb : (x == ("__debug__" : Str)) = false := by decide) (hs : starEach (e :: es) X.env = (false, eval e X.env) :: starEach es X.env := by rfl) (hpl : (backTo pos (starEach es X.env)).any (·.1) = false := by rfl) :
    PE X (.Call (.Name x p) (e :: es) [] pos) (tCall sp [] E t) := by
  refine ⟨fun pins s σ H Q I h => ?_⟩
  refine wpAny_Call_Name_kw (ld_glob I hg hm ?_ hdb)
  refine PySem.W.callWith_K (h₀ := X.base) I.ok.mod.kin hk (thn (ha.run pos pins s σ H _ I h) fun us s1 ⟨vs, H1, I1, r, q⟩ => ⟨I1.kIn, ?_⟩) hs hpl
  have q' : sp vs H1 Q E := by
    have z : sp (vs ++ []) H1 Q E := q
    rw [List.append_nil] at z
    exact z
  have hl : us.length = ps.length := by rw [← r.length]; exact F.len _ _ _ _ q'
  have hb' : BindsTo s1 fd ⟨us, []⟩ (ps.zip us) := by
    have z := hb s1 us I1.kIn (by rw [List.append_nil]; exact hl)
    rw [List.append_nil] at z
    exact z
  refine wpAny_call (codeAny_mono (F.run X.A X.stack s1 H1 ⟨us, []⟩ us vs Q E hgd hr I1.env0 hb' r q') fun res s2 hq => ?_)
  cases res with
  | error er => exact hx pins σ H1 s1 er s2 I1 hq
  | ok fl =>
    cases fl with
    | ret u => exact I1.after hq
    | next => exact False.elim hq
    | brk => exact False.elim hq
    | cont => exact False.elim hq
end
/-! ### repr of data -/
theorem sqt_same {K : PySem.W.Frag} {H H' : Hp} {a : Addr} {xs : List V} (e : Same H H') (h : SqT K H a xs) : SqT K H' a xs := by
  rcases h with (h | ⟨o, h⟩) | h
  · exact .inl (.inl (e _ _ h))
  · exact .inl (.inr ⟨o, e _ _ h⟩)
  · exact .inr h
/-- data that repr shows: as for ==, and the empty dict -/
def Dr (K : PySem.W.Frag) (H : Hp) (v : V) (d : PyData) : Prop := Dp K H v d ∨ (∃ a, v = .ref a ∧ d = .dict [] ∧ H a = some (.dK []))
mutual
theorem dp_same {K : PySem.W.Frag} {H H' : Hp} (k : Same H H') : ∀ (d : PyData) (v : V), Dp K H v d → Dp K H' v d
  | _, _, .non => .non
  | _, _, .bl b => .bl b
  | _, _, .int i => .int i
  | _, _, .str x => .str x
  | .list ds, _, .lst h ha => .lst (k.seq h) (dp_sameAll k ds _ ha)
  | .tuple ds, _, .tup h ha => .tup (sqt_same k h) (dp_sameAll k ds _ ha)
theorem dp_sameAll {K : PySem.W.Frag} {H H' : Hp} (k : Same H H') : ∀ (ds : List PyData) (vs : List V), DpAll K H vs ds → DpAll K H' vs ds
  | [], _, .nil => .nil
  | d :: ds, _, .cons h1 h2 => .cons (dp_same k d _ h1) (dp_sameAll k ds _ h2)
end
theorem dr_same {K : PySem.W.Frag} {H H' : Hp} {v : V} {d : PyData} (k : Same H H') (h : Dr K H v d) : Dr K H' v d := by
  rcases h with h | ⟨a, e1, e2, e3⟩
  · exact .inl (dp_same k d v h)
  · exact .inr ⟨a, e1, e2, k _ _ e3⟩
def rRepr (K : PySem.W.Frag) : List V → Hp → VK → Prop := fun xs H Q => ∃ (v : V) (d : PyData), xs = [v] ∧ Dr K H v d ∧ d.showable = true ∧ d.depth ≤ 60 ∧ d.shown.length ≤ sizeLine ∧ Q (.str d.shown) H
mutual
theorem noDict {K : PySem.W.Frag} {H : Hp} : ∀ (d : PyData) (v : V), Dp K H v d → d.hasDict = false
  | .none, _, _ => rfl
  | .bool _, _, _ => rfl
  | .int _, _, _ => rfl
  | .str _, _, _ => rfl
  | .list ds, _, h => by
    cases h with
    | lst _ ha => exact noDictAll ds _ ha
  | .tuple ds, _, h => by
    cases h with
    | tup _ ha => exact noDictAll ds _ ha
  | .dict _, _, h => by cases h
theorem noDictAll {K : PySem.W.Frag} {H : Hp} : ∀ (ds : List PyData) (vs : List V), DpAll K H vs ds → PyData.hasDictAll ds = false
  | [], _, _ => rfl
  | d :: ds, _, h => by
    cases h with
    | cons h1 h2 =>
      show (d.hasDict || PyData.hasDictAll ds) = false
      rw [noDict d _ h1, noDictAll ds _ h2]
      rfl
end
section
variable {X : Cx} {k : Nat}
theorem call_repr (hgd : X.A.guards = some []) (hr : Room k X.A) : CallR X (.builtin "repr") (rRepr X.K) := by
  intro pins s σ H xs us Q I r h
  obtain ⟨v, d, rfl, hd, hs, hdp, hz, q⟩ := h
  obtain ⟨u, rfl, r1⟩ := vals1 r
  have hu : X.A.units + (d.depth + 1) < cLine := by
    have := hr.units
    omega
  have fin : ∀ (h' : Heap) (t : Tok) (tk : Nat), (∀ b o, s.heap.get? b = some o → h'.get? b = some o) → EP X pins σ Q (.str d.shown t) { s with heap := h', toks := tk } :=
    fun h' t tk hk => ⟨.str d.shown, H, I.kept (t' := tk) hk, ⟨t, rfl⟩, q⟩
  rcases hd with hd | ⟨a, rfl, rfl, ha⟩
  · have hn := noDict d v hd
    obtain ⟨as, rd⟩ := Dp.reads I d v u hd r1
    cases hd with
    | non => cases (show u = Value.none from r1); exact PySem.P.repr_of_none (fin s.heap _ _ fun _ _ e => e)
    | bl b => cases (show u = Value.bool b from r1); exact PySem.P.repr_of_bool (fin s.heap _ _ fun _ _ e => e)
    | int i =>
      obtain ⟨t, e⟩ := (show ∃ t, u = Value.int i t from r1)
      cases e
      exact PySem.P.repr_of_int (of_decide_eq_true hs) (fin s.heap _ _ fun _ _ e => e)
    | str z =>
      obtain ⟨t, e⟩ := (show ∃ t, u = Value.str z t from r1)
      cases e
      exact PySem.P.repr_of_str (fin s.heap _ _ fun _ _ e => e) hz
    | @lst a xs ds _ _ =>
      cases (show u = Value.ref a from r1)
      exact repr_of_reads' rd hs (PyData.noDict_hsm hn) hgd hu (fun _ _ e => e) (fun h' t tk hk => fin h' t tk hk) hz
    | @tup a xs ds _ _ =>
      cases (show u = Value.ref a from r1)
      exact repr_of_reads' rd hs (PyData.noDict_hsm hn) hgd hu (fun _ _ e => e) (fun h' t tk hk => fin h' t tk hk) hz
  · cases (show u = Value.ref a from r1)
    obtain ⟨_, hne, vs, kv, o, es, ep, e1, e2, e3, e4⟩ := (show ObjOk X.prog X.w H s.heap a (.dK []) from I.hok a _ ha)
    cases kv
    have hes : es.toList = [] := by
      obtain ⟨_, pr, _⟩ := e4
      revert pr
      generalize es.toList = l
      intro pr
      cases pr
      rfl
    have rd : Reads s.heap (.ref a) (.dict []) (a :: [] ++ []) := .dict e1 e2.1 e3 (by rw [hes]; exact .nil) (by rw [hes]; exact .nil)
    exact repr_of_reads' rd hs (fun _ hm => by simp at hm; simp [hm] at hne) hgd hu (fun _ _ e => e) (fun h' t tk hk => fin h' t tk hk) hz
end
/-! ### an error that stands behind its except suite -/
/-- at a: an error of the class cls, its own dict at d -/
def ExA (cls : Value) (d : Option Addr) (a : Addr) : HO := .ext fun h => ∃ (oe : Obj) (vs : Array Value), h.get? a = some oe ∧ Zc cls d oe ∧ oe.data = .fields vs
theorem exA_ok {P : Program} {w : World} {H : Hp} {h : Heap} {a : Addr} {cls : Value} {d : Option Addr} {oe : Obj} {vs : Array Value} (e : h.get? a = some oe) (z : Zc cls d oe) (hd : oe.data = .fields vs) : ObjOk P w H h a (ExA cls d a) :=
  ⟨⟨oe, vs, e, z, hd⟩, ⟨oe, e⟩, fun _ _ ⟨o, v, q, r⟩ k => ⟨o, v, k o q, r⟩⟩
section
variable {X : Cx} {pins : List (Addr × Obj)} {σ : L2.St} {H : Hp} {s : Shared}
/-- an object of the heap that was not there at the entry, tracked from now on -/
theorem track {a : Addr} {o : HO} (I : Inv X pins σ H s) (h0 : X.s_0.heap.get? a = none) (na : H a = none) (nL : a ≠ X.env.locals) (nC : ∀ x c, X.env.cells.lookup x = some c → c ≠ a) (nP : ∀ p ∈ X.pn ++ pins, p.1 ≠ a)
    (new : ObjOk X.prog X.w (upd H a o) s.heap a o) : Inv X pins σ (upd H a o) s := by
  have ne0 : ∀ b ob, X.s_0.heap.get? b = some ob → b ≠ a := fun b ob e z => by rw [z, h0] at e; cases e
  refine ⟨I.ok, I.os, I.bare, ⟨I.base.keep, I.base.slot, fun b ob e n hx => ?_, I.base.there, fun b xs e => ?_, fun b ob u e => ?_, fun b ps e => ?_⟩, I.loc, I.cell, ?_, fun x c e => ?_, fun p hp => ?_, fun b u e => ?_, I.len⟩
  · rw [upd_ne (ne0 b ob e)]
    exact I.base.free b ob e n hx
  · have z := I.base.tups b xs e
    rw [upd_ne (ne_of_none z na)]
    exact z
  · have z := I.base.frzs b ob u e
    rw [upd_ne (ne_of_none z na)]
    exact z
  · obtain ⟨m, z⟩ := I.base.tbls b ps e
    exact ⟨m, by rw [upd_ne (ne_of_none z na)]; exact z⟩
  · rw [upd_ne (Ne.symm nL)]
    exact I.free
  · rw [upd_ne (nC x c e)]
    exact I.freeC x c e
  · obtain ⟨e, n, r⟩ := I.pin p hp
    exact ⟨e, by rw [upd_ne (nP p hp)]; exact n, r⟩
  · by_cases hb : b = a
    · subst hb
      rw [upd_same] at e
      cases e
      exact new
    · rw [upd_ne hb] at e
      exact (I.hok b u e).stay (fun _ _ _ q => q) (fun c q => by rw [upd_ne (ne_of_none q na)]; exact q) fun c xs q => by rw [upd_ne (ne_of_none q na)]; exact q
end
/-- the wish of «except c as n: y = n»: slot i is n's, slot j is y's -/
def wKeep (K : PySem.W.Frag) (c : Value) (i j n : Nat) (Wout : WX) (D : Ends) : WX := fun cls d σ H =>
  ∃ b, PySem.W.exmOne K cls c = some b ∧ (b = true → ∀ a, H a = none → σ.length = n → D.nx (((σ.set i (some (.ref a))).set j (some (.ref a))).set i none) (upd H a (ExA cls d a))) ∧ (b = false → Wout cls d σ H)
section
variable {X : Cx} {x n y : Str} {c : Value} {i j : Nat} {body : List Stmt} {np p1 p2 p3 pos pos' : Pos} {tb : WX → TS} {Wout : WX}
theorem ps_try_keep (hs : X.stack = X.env :: X.outer) (hf : X.env.frame = some X.env.locals) (hN : X.N.Nodup) (hi : X.N[i]? = some n) (hln : X.env.kindOf n = some .local) (hj : X.N[j]? = some y) (hly : X.env.kindOf y = some .local) (hex : X.ex = []) (hc : Names X x c) (tk : Takes X Wout)
    (hb : ∀ (W : WX) (pn : List (Addr × Obj)) (xe : Value → Shared → Prop), Takes (X.tr pn xe) W → PassesOwn (model X.prog X.w) X.A X.env xe → PSs (X.tr pn xe) body (tb W)) (hd1 : (n == ("__debug__" : Str)) = false := by decide) (hd2 : (n == ("__classdict__" : Str)) = false := by decide) :
    PS X (.Try body [.ExceptHandler (some (.Name x np)) (some n) [.Assign [.Name y p1] (.Name n p2) p3] pos'] [] [] pos) (fun D σ H => tb (wKeep X.K c i j X.N.length Wout D) D σ H) := by
  refine ⟨fun pins s σ H D I h => ?_⟩
  have ok := I.ok
  have hfr : X.A.frames = some (X.env :: X.outer) := by rw [ok.frames, hs]
  refine wpAny_Try_except ?_
  refine wpAny_mono ((hb (wKeep X.K c i j X.N.length Wout D) (X.pn ++ pins) (fun e t1 => wpAny (model X.prog X.w) X.A (noteFrame e X.env) (fun _ t2 => wpAny (model X.prog X.w) X.A (setFlight e none) (fun _ t3 =>
    wpAny (model X.prog X.w) X.A (handleBy e X.env [.ExceptHandler (some (.Name x np)) (some n) [.Assign [.Name y p1] (.Name n p2) p3] pos']) (SP X pins D) X.xe t3) X.xe t2) X.xe t1) (fun u s' xx => ?_) PassesOwn.looking).run [] s σ H D (I.toTry _) h) (fun fl t1 hsp => ?_) (fun _ _ he => he)
  · obtain ⟨a, B, sI, pins', σ1, H1, cls, d, rfl, J0, nb, up, sky, na, os, ag, b, hb1, hyes, hno⟩ := xx
    have J : Inv X pins σ1 H1 sI := J0.ofTry ok
    have sky' : Sky B (X.env :: X.outer) a (Zc cls d) X.env.locals s'.heap := by rw [← hs]; exact sky
    show wpAny (model X.prog X.w) X.A (noteFrame (.ref a) X.env) _ _ _
    refine Sky.land Zc.steady hfr hf sky' fun h3 fl3 up3 => ?_
    have J3 : Inv X pins σ1 H1 { s' with heap := h3 } := J.landed nb fl3.1 (up.trans up3) os ag
    obtain ⟨oe3, vs3, he3, hz3, hd3⟩ := fl3.there
    have nfr : a ∉ frs (X.env :: X.outer) := fun hm => by
      obtain ⟨_, o', e', hnf⟩ := fl3.2.2.1.mem hm
      rw [he3] at e'
      cases e'
      exact hnf _ hd3
    have nL : a ≠ X.env.locals := fun z => nfr (List.mem_filterMap.mpr ⟨X.env, List.mem_cons_self, by rw [hf, z]⟩)
    have nF : a ∉ X.fs := fun hm => by
      obtain ⟨e1, he1, q1⟩ := List.mem_filterMap.mp hm
      exact nfr (List.mem_filterMap.mpr ⟨e1, List.mem_cons_of_mem _ he1, q1⟩)
    -- the error was not there at the entry, and is no pin
    have Ba : B.get? a = none := fl3.2.1
    have sIa : sI.heap.get? a = none := by
      cases z : sI.heap.get? a with
      | none => rfl
      | some o =>
        have y := nb a o z (by rw [hs]; exact nfr)
        rw [Ba] at y
        cases y
    have s0a : X.s_0.heap.get? a = none := by
      cases z : X.s_0.heap.get? a with
      | none => rfl
      | some o =>
        obtain ⟨o', y⟩ := J.base.there a o z (by rw [hex]; exact fun w => nomatch w)
        rw [sIa] at y
        cases y
    have nPin : ∀ p ∈ X.pn ++ pins, p.1 ≠ a := fun p hp z => by
      have y := (J.pin p hp).1
      rw [z, sIa] at y
      cases y
    have S3 := J3.suite he3 hd3 na nL nF
    refine wpAny_handleBy_cons (codeAny_handlers_test ?_) (by intro q; cases q)
    have LT : PySem.W.Looks (model X.prog X.w) h3 (typeOf (.ref a)) cls := fun A Q E s k q => wpAny_typeOf_ref (k _ _ he3) (by rw [hz3.1]; exact q)
    have LM := PySem.W.exm_one (M := model X.prog X.w) (J3.kIn) LT hb1
    have test : ∀ {Q : Value → Shared → Prop} {E : Value → Shared → Prop}, Q c { s' with heap := h3 } → wpAny (model X.prog X.w) (X.A.mark (some (.ref a))) (eval (.Name x np) X.env) Q E { s' with heap := h3 } := fun {Q E} q => by
      obtain ⟨hg, hdbg, hm | ⟨hm, hv, hnn⟩⟩ := hc
      · exact ld_glob (X := X.suite a ((a, oe3) :: (X.pn ++ pins))) S3 hg hm q hdbg
      · exact ld_blt (X := X.suite a ((a, oe3) :: (X.pn ++ pins))) S3 hg hm hv q hnn hdbg
    refine test (LM.here ?_)
    cases b with
    | true =>
      refine codeAny_handlers_suite_as ?_
      refine HandSPX.lands_againZ fl3 fun h4 fl4 up4 => ?_
      have J4 : Inv X pins σ1 H1 { s' with heap := h4 } := J.landed nb fl4.1 ((up.trans up3).trans up4) os ag
      obtain ⟨oe4, vs4, he4, hz4, hd4⟩ := fl4.there
      have S4 := J4.suite he4 hd4 na nL nF
      refine store_ok (X := X.suite a ((a, oe4) :: (X.pn ++ pins))) (v := .ref a) S4 hN hi (.inl hln) rfl (fun s5 S5 => ?_) (.inr hln)
      have suite : PSs (X.suite a ((a, oe4) :: (X.pn ++ pins))) [.Assign [.Name y p1] (.Name n p2) p3] (tAsg (tVar i) (gName j)) :=
        pss_one (ps_asg (pe_var (i := i) hi (.inl hln) hd1 hd2) (pg_name (i := j) hN hj (.inl hly) (hf := .inr hly)))
      have hlen : i < σ1.length := by
        rw [J.len]
        exact (List.getElem?_eq_some_iff.mp hi).1
      refine wpAny_mono (suite.run [] s5 _ H1 { nx := fun σ' H' => σ' = (σ1.set i (some (.ref a))).set j (some (.ref a)) ∧ H' = H1, rt := fun _ _ => False } S5 ⟨.ref a, by rw [List.getElem?_set_self hlen], rfl, rfl⟩) (fun fl s6 hsp => ?_) (fun _ _ z => False.elim z)
      cases fl with
      | next =>
        obtain ⟨σ6, H6, S6, eσ, eH⟩ := hsp
        subst eσ
        subst eH
        refine gone_ok (X := X.suite a ((a, oe4) :: (X.pn ++ pins))) S6 hN hi hln fun s7 S7 => ?_
        have ha7 : s7.heap.get? a = some oe4 := (S7.pin (a, oe4) (List.mem_append_left _ List.mem_cons_self)).1
        have J7 := S7.unsuite ok
        have nC : ∀ (x : Str) (c : Addr), X.env.cells.lookup x = some c → c ≠ a := fun x c e z => by
          obtain ⟨v, o, ho, hdc⟩ := J7.cell x c e
          rw [z, ha7] at ho
          cases ho
          rw [hd4] at hdc
          cases hdc
        exact ⟨_, _, track J7 s0a na nL nC nPin (exA_ok ha7 hz4 hd4), hyes rfl a na J.len⟩
      | brk => obtain ⟨_, _, _, z⟩ := hsp; exact z.elim
      | cont => obtain ⟨_, _, _, z⟩ := hsp; exact z.elim
      | ret u => obtain ⟨_, _, _, _, _, z⟩ := hsp; exact z.elim
    | false =>
      show wpAny _ X.A (handleBy (.ref a) X.env []) _ _ _
      refine wpAny_handleBy_nil ?_
      obtain ⟨w1, w2, w3, oe, vs, T, oT, ts', he, hz, hdd, h1, hr⟩ := id fl3
      unfold PySem.passOn
      refine wpAny_bind (wpAny_field he hdd h1 ?_)
      rw [if_neg (show ¬ ((Value.ref T == Value.none) = true) from by simp)]
      have fin : wpAny (model X.prog X.w) X.A (setFlight (.ref a) X.env.frame) (fun _ s4 => wpAny (model X.prog X.w) X.A (throw (.ref a) : Sem Flow) (SP X pins D) X.xe s4) X.xe { s' with heap := h3 } := by
        rw [hf]
        refine HandSPX.setFlight_upZ fl3 fun h4 hh4 up4 => wpAny_throw (tk _ _ ?_)
        exact ⟨a, B, sI, pins, σ1, H1, cls, d, rfl, J, nb, (up.trans up3).trans up4, .inr (.inr (by rw [hs]; exact hh4)), na, os, ag, hno rfl⟩
      first
        | exact wpAny_bind (wpAny_pure (wpAny_bind fin))
        | exact wpAny_bind fin
  · cases fl with
    | next =>
      obtain ⟨σ', H', J', q⟩ := hsp
      exact wpAny_execs_nil ⟨σ', H', J'.ofTry ok, q⟩
    | brk =>
      obtain ⟨σ', H', J', q⟩ := hsp
      exact ⟨σ', H', J'.ofTry ok, q⟩
    | cont =>
      obtain ⟨σ', H', J', q⟩ := hsp
      exact ⟨σ', H', J'.ofTry ok, q⟩
    | ret u =>
      obtain ⟨v, σ', H', J', r, q⟩ := hsp
      exact ⟨v, σ', H', J'.ofTry ok, r, q⟩
end
/-! ### isinstance and fields of such an error -/
structure ExcK (K : PySem.W.Frag) (C : Addr) : Prop where
  cl : (PySem.W.clsIn K C).isSome = true
  ga : PySem.W.findIn K (.ref C) "__getattribute__" = some (some (.builtin "BaseException.__getattribute__"))
  gg : PySem.W.findIn K (.ref C) "__getattr__" = some none
  sb : PySem.W.subIn K (.ref C) (.type "BaseException") = some true
  ha : PySem.W.findIn K (.ref C) "__class__" = some (some (.builtin "object.__class__"))
  hn : PySem.W.specialIn K (.builtin "object.__class__") "__get__" = some (some (.builtin "getset_descriptor.__get__"))
  ht : PySem.W.takesIn K (.builtin "object.__class__") = some true
  hm : PySem.W.mroIn K C (.type "object") = some true
/-- isinstance(e, D) -/
def rIsA (K : PySem.W.Frag) : List V → Hp → VK → Prop := fun xs H Q => ∃ (a C d : Addr) (fs : List (Str × V)) (c : V) (cv : Value) (b : Bool), xs = [.ref a, c] ∧ ClsV c cv ∧ ExcK K C ∧ H a = some (ExA (.ref C) (some d) a) ∧ H d = some (.xd fs) ∧ PySem.W.kitOne K (.ref C) cv = some b ∧ Q (.bl b) H
section
variable {X : Cx} {pins : List (Addr × Obj)} {σ : L2.St} {H : Hp} {s : Shared}
theorem exA_at {a C d : Addr} {fs : List (Str × V)} (I : Inv X pins σ H s) (ha : H a = some (ExA (.ref C) (some d) a)) (hd : H d = some (.xd fs)) :
    ∃ (oe od : Obj) (mA : Str → Option Value), PySem.W.InstAt s.heap a oe C (some od) ∧ (∀ name, PySem.W.lookIn name od = some (mA name)) ∧ ∀ f, RelO (fs.lookup f) (mA f) := by
  obtain ⟨⟨oe, vs, ho, hz, hdat⟩, _, _⟩ := I.hok a _ ha
  obtain ⟨mA, hns, hr⟩ := (show ObjOk X.prog X.w H s.heap d (.xd fs) from I.hok d _ hd)
  obtain ⟨od, hod, hl⟩ := lookIn_ns hns
  exact ⟨oe, od, mA, ⟨ho, hz.1, by unfold PySem.W.notCls; rw [hdat] <;> rfl, by rw [hz.2]; exact hod⟩, hl, hr⟩
theorem call_isA : CallR X (.builtin "isinstance") (rIsA X.K) := by
  intro pins s σ H xs us Q I r h
  obtain ⟨a, C, d, fs, c, cv, b, rfl, k, T, ha, hd, e, q⟩ := h
  obtain ⟨u1, u2, rfl, r1, r2⟩ := vals2 r
  cases (show u1 = Value.ref a from r1)
  have e2 := k.eq r2
  subst e2
  obtain ⟨oe, od, mA, J, _, _⟩ := exA_at I ha hd
  exact PySem.W.kia_one (PySem.W.kitx_exc T.cl T.ga T.gg T.sb T.ha T.hn T.ht T.hm) I.kIn J e (fun z => nomatch z) fun t => ⟨.bl b, H, I.tok t, rfl, q⟩
/-- e.f -/
def tXa (K : PySem.W.Frag) (f : Str) (te : TE) : TE := fun σ H Q => te σ H fun x H1 => ∃ (a C d : Addr) (fs : List (Str × V)) (v : V), x = .ref a ∧ H1 a = some (ExA (.ref C) (some d) a) ∧ H1 d = some (.xd fs) ∧ XfC K C ∧ PySem.W.findIn K (.ref C) f = some none ∧ fs.lookup f = some v ∧ Q v H1
theorem pe_xa {e : Expr} {te : TE} {n : Str} {pos : Pos} (he : PE X e te) (hb : attributeBase e n X.env (eval e X.env) = eval e X.env := by rfl) : PE X (.Attribute e n pos) (tXa X.K n te) := by
  refine ⟨fun pins s σ H Q I h => ?_⟩
  refine attr_of hb (thn (he.run pins s σ H _ I h) fun u s1 hh => ?_)
  obtain ⟨x, H1, I1, rx, a, C, d, fs, v, ex, ha, hd, T, hno, l, q⟩ := hh
  subst ex
  obtain rfl : u = Value.ref a := rx
  obtain ⟨oe, od, mA, J, hl, hr⟩ := exA_at I1 ha hd
  obtain ⟨u, hu, ru⟩ := RelO.some_of (v := v) (o := mA n) (by rw [← l]; exact hr n)
  exact HandSPX.exc_get I1.kIn J T.ga T.gg T.exC (PySem.W.findObj_own T.hdC hno rfl (by rw [hl, hu])) (handed_of ru) ⟨v, H1, I1.tok _, ru, q⟩
end
end My
/-! An own error class E(Base(ValueError)) whose __init__ says super().__init__(f) and self.f = f. -/
namespace Sup
open PySem PySem.W PySem.Calls PyProof.Rows PySem.HandSPX
def a1 (f : Str) (p1 p2 : Pos) : Arguments :=
  { posonlyargs := [], args := [{ arg := "self", annotation := none, pos := p1 }, { arg := f, annotation := none, pos := p2 }], vararg := none, kwonlyargs := [], kw_defaults := [], kwarg := none, defaults := [] }
def b1 (f : Str) (q1 q2 q3 q4 q5 q6 r1 r2 r3 r4 : Pos) : List Stmt :=
  [.Expr (.Call (.Attribute (.Call (.Name "super" q1) [] [] q2) "__init__" q3) [.Name f q4] [] q5) q6, .Assign [.Attribute (.Name "self" r1) f r2] (.Name f r3) r4]
def s1 (f : Str) : Scope :=
  { kind := .function, names := [(PySem.Str.ofString "self", .local), (f, .local), (PySem.Str.ofString "__class__", .free), (PySem.Str.ofString "super", .globalImplicit)], isGenerator := false, isCoroutine := false, more := [] }
/-- the field's name is no other name of the text -/
structure Nm (f : Str) : Prop where
  n1 : (f == ("self" : Str)) = false
  n2 : (("__class__" : Str) == f) = false
  n3 : (("super" : Str) == f) = false
  n4 : (f == ("__debug__" : Str)) = false
  bd : ∀ (qual : Str) (body : List Stmt) (doc pm : Value) (an : Option Addr) (cdv ct : Value) (cc : Addr) (p1 p2 : Pos) (a b : Value),
    bindArgs (ksFn "__init__" qual (a1 f p1 p2) body (s1 f) .none .none doc pm an cdv ct cc) ⟨[a, b], []⟩ = pure [(("self" : Str), a), (f, b)]
/-- what the top has written of the class x, at C, and of its __init__, at fI -/
structure Err1 (prog : Program) (K : Frag) (mg : Str → Option Value) (x f : Str) (C fI : Addr) : Prop where
  gC : mg x = some (.ref C)
  ox : L2.OexC K C
  rd : L2.XfC K C
  nf : findIn K (.ref C) f = some none
  nm : Nm f
  iC : findIn K (.ref C) "__init__" = some (some (.ref fI))
  tI : typeIn K (.ref fI) = some (.type "function")
  fn : ∃ (qual : Str) (oc : Value) (od : Option Addr) (doc pm : Value) (an : Option Addr) (cda : Addr) (ct : Value) (cc : Addr) (osl : Array (Option Value)) (p1 p2 q1 q2 q3 q4 q5 q6 r1 r2 r3 r4 : Pos),
    K.lookup fI = some ⟨oc, od, .func (ksFn "__init__" qual (a1 f p1 p2) (b1 f q1 q2 q3 q4 q5 q6 r1 r2 r3 r4) (s1 f) .none .none doc pm an (.ref cda) ct cc), osl⟩ ∧ codeIn K (.ref cda) qual = true ∧
    (∃ cl cld csl, K.lookup cc = some ⟨cl, cld, .cell (some (.ref C)), csl⟩) ∧ ∃ ccl cdd vs ccs file tf, K.lookup cda = some ⟨ccl, cdd, .fields vs, ccs⟩ ∧ vs[2]? = some (.str file tf) ∧ ((prog.main.file : Str) == file) = true ∧ (q3.endLine == q5.line) = true
  su : ks_superIn K C C "__init__" = some (some (.builtin "ValueError.__init__"))
  sV : subIn K (.ref C) (.type "ValueError") = some true
  sC : mroIn K C (.ref C) = some true
  gS : mg "super" = none
  oq : nsIn K cStatics "thirdparty.any" = some none
  top : (prog.main.scope.names.lookup ("super" : Str)).isSome = false
/-- what __init__ leaves of a fresh exception at x -/
structure End1 (h h' : Heap) (f : Str) (x C dx t1 : Addr) (v : Value) : Prop where
  keep : ∀ b o, b ≠ x → h.get? b = some o → h'.get? b = some o
  obj : h'.get? x = some { cls := .ref C, dict := some dx, data := .fields #[.ref t1, .none, .none, .none, .bool false, .none] }
  dbig : h.objs.size ≤ dx
  dne : dx ≠ x
  ns : h'.Ns1 dx (fun y => if y = f then some v else none)
theorem lk2 {f : Str} (N : Nm f) : (s1 f).names.lookup f = some .local := by
  simp only [s1, List.lookup, N.n1, beq_self_eq_true]
theorem lk3 {f : Str} (N : Nm f) : (s1 f).names.lookup ("__class__" : Str) = some .free := by
  have e : (("__class__" : Str) == ("self" : Str)) = false := by decide +kernel
  have e2 : (("__class__" : Str) == ("__class__" : Str)) = true := by decide +kernel
  simp only [s1, List.lookup, N.n2, e, e2]
theorem lk4 {f : Str} (N : Nm f) : (s1 f).names.lookup ("super" : Str) = some .globalImplicit := by
  have e : (("super" : Str) == ("self" : Str)) = false := by decide +kernel
  have e2 : (("super" : Str) == ("__class__" : Str)) = false := by decide +kernel
  have e3 : (("super" : Str) == ("super" : Str)) = true := by decide +kernel
  simp only [s1, List.lookup, N.n3, e, e2, e3]
theorem meth_eq {o : Expr} {name f : Str} {q3 q4 q5 : Pos} {env : Env} (hp : (q3.endLine == q5.line) = true) :
    eval (.Call (.Attribute o name q3) [.Name f q4] [] q5) env = (do
      let ov ← attributeBase o name env (eval o env)
      standAt q3.atName
      let (g, first) ← holding [ov] (getMethod ov name (do return (← importBound o env).getD true))
      callWith q5 g first (backTo q5 (starEach [.Name f q4] env)) []) := by
  rw [arm_eval_Call]
  have hf : methodCallForm ([Expr.Name f q4].length + ([] : List Keyword).length) (backTo q5 (starEach [.Name f q4] env)) (backToKw q5 (keywordEach [] env)) = true := rfl
  have e : ∀ ov, methodCall o name q3 q5 env ov ([Expr.Name f q4].length + ([] : List Keyword).length) (backTo q5 (starEach [.Name f q4] env)) (backToKw q5 (keywordEach [] env)) = (do
      let (g, first) ← holding [ov] (getMethod ov name (do return (← importBound o env).getD true))
      callWith q5 g first (backTo q5 (starEach [.Name f q4] env)) []) := fun ov => by
    unfold methodCall
    rw [hf]
    unfold calleeOf methodCallPos
    simp only [hp, Bool.not_true, Bool.false_or, if_true]
    rfl
  simp only [e]
section
variable {prog : Program} {w : World} {A : Around} {E : Value → Shared → Prop} {R : Result → Shared → Prop} {s : Shared} {K : Frag} {mg : Str → Option Value} {x f : Str} {C fI : Addr}
/-- the bound ValueError.__init__ called -/
theorem call_mw {h : Heap} {g : Array GenState} {d : Drawn} {t : Nat} {os : OsState} {u e t0 : Addr} {rest : List Value} {Q : Value → Shared → Prop} {nm q : Str} {N : Addr} {bs bm : List Value} {hdct : Bool} {sn : List Str} {sub : List Value} {ab : Bool} {col : Option Bool} {dd : Option Addr} {k0 k1 k2 k3 k5 : Option Value}
    (hC : h.get? C = some (excClassObj nm q C N bs bm hdct sn sub ab col dd k0 k1 k2 k3 k5 "ValueError.__new__")) (he : h.get? e = some (excO C t0)) (hu : h.get? u = some (kxs_mw "ValueError.__init__" e)) (hz : rest.length ≤ sizeLine)
    (hq : ∀ h' t1, (∀ b o, b ≠ e → h.get? b = some o → h'.get? b = some o) → h'.get? e = some (excO C t1) → Q .none ⟨h', g, d, t, os⟩) :
    wpAny (model prog w) A (call (.ref u) rest) Q E ⟨h, g, d, t, os⟩ := by
  refine wpAny_call (codeAny_of_tree ?_)
  show wpAny _ A.in1 (callAny (.ref u) ⟨rest, []⟩) _ _ _
  simp only [callAny]
  refine wpAny_bind (wpAny_load hu ?_)
  simp only [kxs_mw, show (Value.type "method-wrapper" == Value.type "method" || Value.type "method-wrapper" == Value.type "builtin_function_or_method" || Value.type "method-wrapper" == Value.type "method-wrapper") = true by decide, if_true]
  refine KFB.if_so (by decide) ?_
  refine wpAny_bind (check_bound_init F.excBase_ValueError.toExcCallFacts hC he rfl ?_)
  refine wpAny_bind (wpAny_pure (wpAny_pure ?_))
  refine ⟨plainId_quiet F.excBase_ValueError.init.plain _, codeAny_builtin F.excBase_ValueError.initEntry ?_⟩
  exact exc_init_tree (cls := .ref C) (t0 := t0) (dv := none) (c2 := .none) (c3 := .none) (b4 := .bool false) he hz fun h' k e' _ => hq h' _ k e'
theorem init1 (T : Err1 prog K mg x f C fI) {e t0 : Addr} {v : Value} (X : K.In s.heap) (hlim : s.heap.NoLimit) (hg : s.heap.Ns mainGlobals mg) (hb : ∃ mb, s.heap.Ns builtinsNs mb ∧ ∀ x : Str, x ≠ "__name__" → mb x = bootBuiltins x)
    (he : s.heap.get? e = some (excO C t0)) (hnx : K.lookup e = none) (hroom : A.depth < recursionLimit)
    (hq : ∀ h' tk dx t1, End1 s.heap h' f e C dx t1 v → R (.ok (.ret .none)) { s with heap := h', toks := tk }) :
    codeAny (model prog w) A (.call (.ref fI) ⟨[.ref e, v], []⟩) R s := by
  obtain ⟨qual, oc, od, doc, pm, an, cda, ct, cc, osl, p1, p2, q1, q2, q3, q4, q5, q6, r1, r2, r3, r4, ho, hcd, ⟨cl, cld, csl, hcell⟩, ccl, cdd, vs, ccs, file, tf, hcode, hvs, hfile, hqq⟩ := T.fn
  obtain ⟨nm, q, N, bs, bm, sn, sub, ab, col, dd, k0, k1, k2, k3, k5, hC, hbm⟩ := T.ox.cls
  obtain ⟨mb, hb1, hb2⟩ := hb
  have hcl : clsIn K C = some { name := nm, bases := bs, mro := .ref C :: bm, ns := N, qualname := q, hasDict := true, slotNames := sn, subclasses := sub, abstract := ab, collection := col, hasDel := false } := by unfold clsIn; rw [hC] <;> rfl
  have hloc : ∀ y ∈ [(("self" : Str), Value.ref e), (f, v)], (s1 f).names.lookup y.1 = some .local := fun y hy => by
    rcases List.mem_cons.mp hy with z | z
    · rw [z]; rfl
    · rw [List.mem_singleton.mp z]; exact lk2 T.nm
  have hsu : alongIn K "__init__" ((((Value.ref C :: bm) : List Value).dropWhile (· != .ref C)).drop 1) = some (some (.builtin "ValueError.__init__")) := by
    have z := T.su
    unfold ks_superIn at z
    rw [hcl] at z
    exact z
  refine ks_codeAny_call_defAt (fd := ksFn "__init__" qual (a1 f p1 p2) (b1 f q1 q2 q3 q4 q5 q6 r1 r2 r3 r4) (s1 f) .none .none doc pm an (.ref cda) ct cc) (binds := [("self", .ref e), (f, v)]) hroom (X _ _ ho) rfl hlim (codeRec_of X hcd) rfl (BindsTo.of_eq (T.nm.bd _ _ _ _ _ _ _ _ _ _ _ _))
    (by intro y hy; simp only [s1, List.mem_cons, List.mem_nil_iff, or_false] at hy; rcases hy with z | z | z | z <;> rw [z] <;> exact (fun w => nomatch w)) hloc (fun h1 hns kp => ?_)
  have X1 : K.In h1 := X.keeps kp
  have he1 := kp _ _ he
  have hC1 := X1 _ _ hC
  have hx0 : e ≠ C := fun z => by
    have y := X _ _ hC
    rw [← z, he] at y
    cases y
  have mself : ([(("self" : Str), Value.ref e), (f, v)].reverse.lookup ("self" : Str)) = some (.ref e) := by
    have e1 : (("self" : Str) == f) = false := by
      have z := T.nm.n1
      rw [Bool.eq_false_iff] at z ⊢
      intro y
      exact z (by rw [beq_iff_eq] at y ⊢; exact y.symm)
    simp only [List.reverse_cons, List.reverse_nil, List.nil_append, List.cons_append, List.lookup, e1, beq_self_eq_true]
  have mf : ([(("self" : Str), Value.ref e), (f, v)].reverse.lookup f) = some v := by
    simp only [List.reverse_cons, List.reverse_nil, List.nil_append, List.cons_append, List.lookup, beq_self_eq_true]
  show _root_.PySem.wpAt _ _ _ (execs (b1 f q1 q2 q3 q4 q5 q6 r1 r2 r3 r4) _) _ _ _
  unfold b1
  refine ks_wpAt_execs_cons (ks_wpAt_Expr_any (ks_wpAt_MethodCall (ks_wpAt_super_base (lk4 T.nm) (lk3 T.nm) (by decide +kernel) rfl (X1 _ _ ho) rfl rfl rfl (X1 _ _ hcode) rfl hvs hfile T.top ?_) (meth_eq hqq)))
  refine ks_loadName_global rfl (lk4 T.nm) (loadGlobal_builtin (hg.keeps kp) T.gS (hb1.keeps kp) ((hb2 _ (by decide +kernel)).trans (by decide +kernel : bootBuiltins "super" = some (.type "super"))) ⟨rfl, ?_⟩)
  refine wpAny_loadName_free rfl (lk3 T.nm) rfl ⟨_, X1 _ _ hcell, rfl⟩ ?_
  refine wpAny_loadName_local rfl rfl hns mself ?_
  refine ks_wpAny_isType_cls hC1 rfl ⟨rfl, ?_⟩
  refine ks_wpAny_call_super hC1 rfl he1 rfl (fun c z => nomatch z) (looks_mroIn X1 T.sC) (fun h2 hso k2 => ?_)
  have X2 : K.In h2 := X1.keeps k2
  have he2 := k2 _ _ he1
  have I2 : InstAt h2 e (excO C t0) C none := ⟨he2, rfl, rfl, trivial⟩
  refine kxs_getMethod kxs_ValueError hso (looks_opaque X2 T.oq) (l₀ := .ref C :: bm) (fun A Q E s k q => wpAny_bind ((looks_clsIn X2 hcl) A _ E s k (wpAny_pure q))) rfl X2 hsu (I2.type.andThen (looks_subIn X2 T.sV)) hx0 (by decide +kernel) ?_
  refine kxs_callWith (i := "ValueError.__init__") (x := e) rfl ?_
  have hns2 := hns.keeps k2
  refine evalArgs_plain (Calls.spliced_cons (ldc rfl (lk2 T.nm) (hns2.keeps fun b o z => Heap.get?_push_of_some _ z) mf (Calls.spliced_nil ⟨Heap.get?_push_size _ rfl, ?_⟩) T.nm.n4))
  have k3 : ∀ b o, h2.get? b = some o → (h2.push (kxs_mw "ValueError.__init__" e)).get? b = some o := fun b o z => Heap.get?_push_of_some _ z
  show wpAny _ _ (call (.ref h2.objs.size) [v]) _ _ _
  refine call_mw (X2.keeps k3 _ _ hC) (k3 _ _ he2) (Heap.get?_push_size _ rfl) (by rw [sizeLine_eq]; exact (by decide : 1 ≤ 16777216)) fun h4 t1 k4 he4 => ?_
  have kall : ∀ b o, b ≠ e → s.heap.get? b = some o → h4.get? b = some o := fun b o hb z => k4 b o hb (k3 b o (k2 b o (kp b o z)))
  have X4 : K.In h4 := fun a o z => kall a o (fun y => by rw [y, hnx] at z; cases z) (X a o z)
  have hL : s.heap.objs.size ≠ e := Nat.ne_of_gt (Heap.lt_size he)
  have hns4 : h4.Ns s.heap.objs.size (fun y => [(("self" : Str), Value.ref e), (f, v)].reverse.lookup y) := by
    obtain ⟨oL, es, ep, hoL, r⟩ := hns2
    exact ⟨oL, es, ep, k4 _ _ hL (k3 _ _ hoL), r⟩
  show _root_.PySem.wpAt _ _ _ (execs [.Assign [.Attribute (.Name "self" r1) f r2] (.Name f r3) r4] _) _ _ _
  refine wpAt_of_wpAny (wpAny_execs_cons (plainObj_wpAny_Assign_Attribute (ldc rfl (lk2 T.nm) hns4 mf (ldc rfl rfl hns4 mself ?_) T.nm.n4)))
  refine set_plain X4 (ox := excO C t1) (od := none) ⟨he4, rfl, rfl, trivial⟩ T.ox.sa ?_
  refine exc_osa X4 he4 hcl (show refsVE (.ref C :: bm) = true from hbm) rfl T.nf (fun h5 tk5 dx k5 dn dne hx5 hn5 => ?_)
  have z1 : s.heap.objs.size ≤ h1.objs.size := Nat.le_of_lt hns.lt
  refine wpAny_execs_nil (hq h5 tk5 dx t1 ⟨fun b o hb z => k5 b o hb (kall b o hb z), hx5, ?_, dne, hn5⟩)
  have z2 := hns4.lt
  exact Nat.le_trans (Nat.le_of_lt z2) dn
/-- a made error -/
structure Made1 (h h' : Heap) (f : Str) (e C d : Addr) (v : Value) : Prop where
  keep : ∀ b o, h.get? b = some o → h'.get? b = some o
  new : h.objs.size ≤ e
  obj : ∃ oe vs, h'.get? e = some oe ∧ oe.cls = .ref C ∧ oe.dict = some d ∧ oe.data = .fields vs ∧ vs[1]? = some .none
  dbig : h.objs.size ≤ d
  dne : d ≠ e
  ns : h'.Ns1 d (fun y => if y = f then some v else none)
theorem made1 (T : Err1 prog K mg x f C fI) {v : Value} (X : K.In s.heap) (hlim : s.heap.NoLimit) (hg : s.heap.Ns mainGlobals mg) (hb : ∃ mb, s.heap.Ns builtinsNs mb ∧ ∀ x : Str, x ≠ "__name__" → mb x = bootBuiltins x) (hroom : A.depth + 1 < recursionLimit)
    (hq : ∀ h' tk e d, Made1 s.heap h' f e C d v → R (.ok (.ret (.ref e))) { s with heap := h', toks := tk }) :
    codeAny (model prog w) A (.call (.ref C) ⟨[v], []⟩) R s := by
  obtain ⟨nm, q, N, bs, bm, sn, sub, ab, col, dd, k0, k1, k2, k3, k5, hC, hbm⟩ := T.ox.cls
  obtain ⟨hp, g, dr, tk, os⟩ := s
  have kp : ∀ b o, hp.get? b = some o → ((hp.push (kdv_tup [v])).push (excO C hp.objs.size)).get? b = some o := fun b o z => Heap.get?_push_of_some _ (Heap.get?_push_of_some _ z)
  have hget : ((hp.push (kdv_tup [v])).push (excO C hp.objs.size)).get? (hp.objs.size + 1) = some (excO C hp.objs.size) := by heap_get
  have hnx : K.lookup (hp.objs.size + 1) = none := by
    cases z : K.lookup (hp.objs.size + 1) with
    | none => rfl
    | some o => exact absurd (Nat.lt_of_succ_lt (Heap.lt_size (X _ _ z))) (Nat.lt_irrefl _)
  refine call_own F.excBase_ValueError (fun Y => refsVE_contains Y bm hbm) (X _ _ hC) (looks_findIn X T.iC) (fun self => bind_fn X self T.tI) (by rw [sizeLine_eq]; exact (by decide : 1 ≤ 16777216)) ?_
  obtain ⟨mb, hb1, hb2⟩ := hb
  refine init1 (s := ⟨(hp.push (kdv_tup [v])).push (excO C hp.objs.size), g, dr, tk, os⟩) T (X.keeps kp) (hlim.keeps kp) (hg.keeps kp) ⟨mb, hb1.keeps kp, hb2⟩ hget hnx ?_ fun h' tk' dx t1 ⟨k', hx, dn, dne, hns⟩ => ?_
  · show A.depth + 1 < recursionLimit
    exact hroom
  · have old : ∀ b o, hp.get? b = some o → h'.get? b = some o := fun b o z => k' b o (Nat.ne_of_lt (Nat.lt_succ_of_lt (Heap.lt_size z))) (kp b o z)
    have z : hp.objs.size + 1 + 1 ≤ dx := by
      have y := dn
      first
        | (rw [Heap.size_push, Heap.size_push] at y; exact y)
        | exact y
    exact ⟨rfl, hq h' tk' (hp.objs.size + 1) dx ⟨old, Nat.le_succ _, ⟨_, _, hx, rfl, rfl, rfl, rfl⟩, Nat.le_trans (Nat.le_trans (Nat.le_succ _) (Nat.le_succ _)) z, dne, hns⟩⟩
end
end Sup
namespace L2
open PySem PySem.Spec PyProof.Rows
theorem relO_one {v : V} {v' : Value} {f : Str} (r : RelV v v') (g : Str) : RelO (List.lookup g [(f, v)]) (if g = f then some v' else none) := by
  by_cases hw : g = f
  · rw [if_pos hw, hw]
    have z : List.lookup f [(f, v)] = some v := by simp [List.lookup]
    rw [z]
    exact r
  · rw [if_neg hw]
    have y : (g == f) = false := by simpa using hw
    have z : List.lookup g [(f, v)] = none := by simp [List.lookup, y]
    rw [z]
    trivial
section
variable {X : Cx} {C fI : Addr} {x f : Str}
/-- E(e) -/
def tMk1 (C : Addr) (f : Str) (ta : TA) : St → Hp → XK → Prop := fun σ H Q => ta σ H fun vs H1 => ∃ v, vs = [v] ∧ ∀ d, H1 d = none → Q (.ref C) (some d) (upd H1 d (.xd [(f, v)]))
theorem pmk_1 {a : Expr} {ta : TA} {p pos : Pos} {k : Nat} (T : Sup.Err1 X.prog X.K X.mg x f C fI) (hr : Room k X.A) (ha : PA X [a] ta) (hg : Gl X x := by rfl) (hdb : (x == ("__debug__" : Str)) = false := by decide)
    (hs : starEach (a :: []) X.env = (false, eval a X.env) :: starEach [] X.env := by rfl) (hpl : (backTo pos (starEach [] X.env)).any (·.1) = false := by rfl) :
    PMk X (.Call (.Name x p) [a] [] pos) (tMk1 C f ta) := by
  intro pins s σ H Q I h
  refine wpAny_Call_Name_kw (ld_glob I hg T.gC ?_ hdb)
  refine PySem.W.callWith_K (h₀ := X.base) I.ok.mod.kin T.ox.kC (thn (ha.run pos pins s σ H _ I h) fun us s1 hh => ?_) hs hpl
  obtain ⟨vs, H1, I1, r1, v, ev, q1⟩ := hh
  subst ev
  refine ⟨I1.kIn, ?_⟩
  cases r1 with
  | cons rv rn =>
    rename_i v' us'
    cases rn
    show wpAny _ _ (call (.ref C) [v']) _ _ _
    have hlim := I1.nolimit
    obtain ⟨mb, hb1, hb2⟩ := I1.mod.blt
    have bk1 := I1.bk
    have gl1 := I1.mod.glob
    obtain ⟨hp, g, dr, tk, os⟩ := s1
    refine wpAny_call (Sup.made1 T I1.kIn hlim (gl1.keeps bk1) ⟨mb, hb1.keeps bk1, hb2⟩ (by have := hr.dp; omega) fun h' tk' e d M => ?_)
    show MkP X pins σ Q (.ref e) ⟨h', g, dr, tk', os⟩
    obtain ⟨oe, fv, hoe, hc, hd, hdat, h1⟩ := M.obj
    have hns := M.ns
    obtain ⟨G', g1, g2⟩ := restrict h' fun b => decide (b ≠ e)
    have gk : ∀ b, b ≠ e → G'.get? b = h'.get? b := fun b hb => g1 b (decide_eq_true hb)
    have ge : G'.get? e = none := g2 e (by simp)
    have old : ∀ b o, hp.get? b = some o → G'.get? b = some o := fun b o z => (gk b (Nat.ne_of_lt (Nat.lt_of_lt_of_le (Heap.lt_size z) M.new))).trans (M.keep b o z)
    have ob : ObjOk X.prog X.w (upd H1 d (.xd [(f, v)])) G' d (.xd [(f, v)]) :=
      ⟨_, hns.at (fun o z => (gk d M.dne).trans z), fun y => relO_one rv y⟩
    have J : Inv X pins σ (upd H1 d (.xd [(f, v)])) ⟨G', g, dr, tk', os⟩ := I1.laid (t' := tk') old M.dbig ob
    refine ⟨e, oe, fv, ⟨G', g, dr, tk', os⟩, _, .ref C, some d, rfl, J, fun b o z => ?_, ge, hoe, ⟨hc, hd⟩, hdat, h1, ?_, rfl, I1.bare, raises_own T.ox.exC T.ox.tyC, q1 d (I1.hok.fresh M.dbig)⟩
    · by_cases hb : b = e
      · have z' : G'.get? b = some o := z
        rw [hb, ge] at z'; cases z'
      · exact (gk b hb).symm.trans z
    · rw [upd_ne (Ne.symm M.dne)]
      exact I1.hok.fresh M.new
/-- raise E(e) -/
def tRaise1 (C : Addr) (f : Str) (W : WX) (ta : TA) : TS := fun _ σ H => tMk1 C f ta σ H fun cls d H' => W cls d σ H'
theorem ps_raise1 {a : Expr} {ta : TA} {W : WX} {p pos pos2 : Pos} {k : Nat} (hc : X.calm = true) (T : Sup.Err1 X.prog X.K X.mg x f C fI) (hr : Room k X.A) (tk : Takes X W) (ha : PA X [a] ta) (hg : Gl X x := by rfl) (hdb : (x == ("__debug__" : Str)) = false := by decide)
    (hs : starEach (a :: []) X.env = (false, eval a X.env) :: starEach [] X.env := by rfl) (hpl : (backTo pos (starEach [] X.env)).any (·.1) = false := by rfl) :
    PS X (.Raise (some (.Call (.Name x p) [a] [] pos)) none pos2) (tRaise1 C f W ta) := ps_raise hc tk (pmk_1 T hr ha hg hdb hs hpl)
end
end L2
/-! Defs by name, the pen. -/
namespace My
open PySem PySem.Spec PyProof.Rows L2
/-- a def of the module that keeps its promise -/
structure DefAt (P : Program) (w : World) (K : PySem.W.Frag) (mg : Str → Option Value) (base : Heap) (CX : CXT) (k : Nat) (x : Str) (ps : List Str) (sp : Sp) : Prop where
  ex : ∃ f fd, FnOk P w K mg base CX k f fd ps sp ∧ mg x = some (.ref f) ∧ PySem.W.keepIn K (.ref f) = true ∧ L2.Binds K fd ps []
structure DefG (P : Program) (w : World) (K : PySem.W.Frag) (mg : Str → Option Value) (base : Heap) (CX : CXT) (k : Nat) (x : Str) (ps : List Str) (sp : Sp) : Prop where
  ex : ∃ f fd, FnG P w K mg base CX k f fd ps sp ∧ mg x = some (.ref f) ∧ PySem.W.keepIn K (.ref f) = true ∧ L2.Binds K fd ps []
section
variable {X : Cx} {CX : CXT} {k : Nat} {ps : List Str} {sp : Sp} {E : XK} {x : Str} {e : Expr} {es : List Expr} {t : TA} {p pos : Pos}
theorem pe_d (D : DefAt X.prog X.w X.K X.mg X.base CX k x ps sp) (hr : Room k X.A) (hg : Gl X x) (hx : Passes CX X E) (ha : PA X (e :: es) t) (hdb : (x == ("__debug__" : Str)) = false := by decide)
    (hs : starEach (e :: es) X.env = (false, eval e X.env) :: starEach es X.env := by rfl) (hpl : (backTo pos (starEach es X.env)).any (·.1) = false := by rfl) : PE X (.Call (.Name x p) (e :: es) [] pos) (tCall sp [] E t) := by
  obtain ⟨f, fd, F, m, hk, b⟩ := D.ex
  exact pe_call F hr hg m hk b .nil hx ha hdb hs hpl
theorem pe_dG (D : DefG X.prog X.w X.K X.mg X.base CX k x ps sp) (hgd : X.A.guards = some []) (hr : Room k X.A) (hg : Gl X x) (hx : Passes CX X E) (ha : PA X (e :: es) t) (hdb : (x == ("__debug__" : Str)) = false := by decide)
    (hs : starEach (e :: es) X.env = (false, eval e X.env) :: starEach es X.env := by rfl) (hpl : (backTo pos (starEach es X.env)).any (·.1) = false := by rfl) : PE X (.Call (.Name x p) (e :: es) [] pos) (tCall sp [] E t) := by
  obtain ⟨f, fd, F, m, hk, b⟩ := D.ex
  exact pe_callG F hgd hr hg m hk b hx ha hdb hs hpl
end
/-- a class of the module that is made by its __init__, some defaults filled up -/
structure MakeAt (P : Program) (w : World) (K : PySem.W.Frag) (mg : Str → Option Value) (base : Heap) (CX : CXT) (k : Nat) (x : Str) (C : Addr) (ps : List Str) (sp : Sp) (dvs : List V) : Prop where
  ex : ∃ f fd ds, Mk K C f ∧ FnOk P w K mg base CX k f fd ps sp ∧ mg x = some (.ref C) ∧ L2.Binds K fd ps ds ∧ Vals dvs ds
structure MethAt (P : Program) (w : World) (K : PySem.W.Frag) (mg : Str → Option Value) (base : Heap) (CX : CXT) (k : Nat) (C : Addr) (m : Str) (ps : List Str) (sp : Sp) : Prop where
  ex : ∃ f fd, Meth K C m f ∧ FnOk P w K mg base CX k f fd ps sp ∧ L2.Binds K fd ps []
/-- .. called with keywords alone: their names ks, gV puts them in the parameters' order -/
structure MethK (P : Program) (w : World) (K : PySem.W.Frag) (mg : Str → Option Value) (base : Heap) (CX : CXT) (k : Nat) (C : Addr) (m : Str) (ps ks : List Str) (sp : Sp) (gV : List V → List V → List V) : Prop where
  ex : ∃ f fd g, Meth K C m f ∧ FnOk P w K mg base CX k f fd ps sp ∧ KBn K fd ps 1 ks g gV
structure CallAt (P : Program) (w : World) (K : PySem.W.Frag) (mg : Str → Option Value) (base : Heap) (CX : CXT) (k : Nat) (C : Addr) (ps : List Str) (sp : Sp) : Prop where
  ex : ∃ f fd, StX.CallO K C f ∧ FnOk P w K mg base CX k f fd ps sp ∧ L2.Binds K fd ps []
section
variable {X : Cx} {CX : CXT} {k : Nat} {C : Addr} {ps ks : List Str} {sp : Sp} {E : XK} {x m : Str} {e o fe : Expr} {es : List Expr} {kws : List Keyword} {t tk : TA} {ta tf : TE} {p pos apos : Pos} {dvs : List V} {gV : List V → List V → List V}
theorem pe_mk (M : MakeAt X.prog X.w X.K X.mg X.base CX k x C ps sp dvs) (hr : Room (k + 1) X.A) (hg : Gl X x) (hx : Passes CX X E) (ha : PA X (e :: es) t) (hdb : (x == ("__debug__" : Str)) = false := by decide)
    (hs : starEach (e :: es) X.env = (false, eval e X.env) :: starEach es X.env := by rfl) (hpl : (backTo pos (starEach es X.env)).any (·.1) = false := by rfl) : PE X (.Call (.Name x p) (e :: es) [] pos) (tMake C sp dvs E t) := by
  obtain ⟨f, fd, ds, mk, F, hm, b, d⟩ := M.ex
  exact pe_make mk F hr hg hm b d hx ha hdb hs hpl
theorem pe_mt {pl : Sem Bool} (c : Cls X.K C) (M : MethAt X.prog X.w X.K X.mg X.base CX k C m ps sp) (hr : Room k X.A) (hx : Passes CX X E) (he : PE X o ta) (ha : PA X (e :: es) t)
    (hst : starEach (e :: es) X.env = (false, eval e X.env) :: starEach es X.env := by rfl) (hpl : (backTo pos (starEach es X.env)).any (·.1) = false := by rfl)
    (ht : eval (.Call (.Attribute o m apos) (e :: es) [] pos) X.env = (do
      let ov ← eval o X.env
      standAt apos.atName
      let (f, first) ← holding [ov] (getMethod ov m pl)
      callWith pos f first (backTo pos (starEach (e :: es) X.env)) (backToKw pos (keywordEach [] X.env))) := by rfl) :
    PE X (.Call (.Attribute o m apos) (e :: es) [] pos) (tMeth C m sp [] E ta t) := by
  obtain ⟨f, fd, hm, F, b⟩ := M.ex
  exact pe_meth he c hm F hr b .nil hx ha hst hpl ht
theorem pe_mt0 {pl : Sem Bool} (c : Cls X.K C) (M : MethAt X.prog X.w X.K X.mg X.base CX k C m ps sp) (hr : Room k X.A) (hx : Passes CX X E) (he : PE X o ta)
    (ht : eval (.Call (.Attribute o m apos) [] [] pos) X.env = (do
      let ov ← eval o X.env
      standAt apos.atName
      let (f, first) ← holding [ov] (getMethod ov m pl)
      callWith pos f first (backTo pos (starEach [] X.env)) (backToKw pos (keywordEach [] X.env))) := by rfl) :
    PE X (.Call (.Attribute o m apos) [] [] pos) (tMeth C m sp [] E ta tNil) := by
  obtain ⟨f, fd, hm, F, b⟩ := M.ex
  exact pe_meth0 he c hm F hr b .nil hx ht
/-- o.m(k = v, ..) -/
def tMethK (C : Addr) (m : Str) (j : Nat) (sp : Sp) (gV : List V → List V → List V) (E : XK) (ta : TE) (tk : TA) : TE := fun σ H Q => ta σ H fun x H1 => ∃ a dx fs, x = .ref a ∧ H1 a = some (.ins C dx fs) ∧ fs.lookup m = none ∧
  tk σ H1 fun zs H2 => zs.length = j ∧ sp (gV [.ref a] zs) H2 Q E
theorem pe_mtK {pl : Sem Bool} (c : Cls X.K C) (M : MethK X.prog X.w X.K X.mg X.base CX k C m ps ks sp gV) (hr : Room k X.A) (hx : Passes CX X E) (he : PE X o ta) (hkw : PK X kws tk)
    (hall : (backToKw pos (keywordEach kws X.env)).all (·.1.isSome) = true := by rfl) (hks : (backToKw pos (keywordEach kws X.env)).filterMap (·.1) = ks := by rfl)
    (hpl : ((backTo pos (starEach [] X.env)).any (·.1) || (backToKw pos (keywordEach kws X.env)).any (·.1.isNone)) = false := by rfl)
    (ht : eval (.Call (.Attribute o m apos) [] kws pos) X.env = (do
      let ov ← eval o X.env
      standAt apos.atName
      let (f, first) ← holding [ov] (getMethod ov m pl)
      callWith pos f first (backTo pos (starEach [] X.env)) (backToKw pos (keywordEach kws X.env))) := by rfl) :
    PE X (.Call (.Attribute o m apos) [] kws pos) (tMethK C m ks.length sp gV E ta tk) := by
  obtain ⟨f, fd, g, hm, F, b⟩ := M.ex
  refine ⟨fun pins s σ H Q I h => ?_⟩
  refine PySem.W.methodCall_KW (pl := pl) (thn (he.run pins s σ H _ I h) fun u s1 ⟨x, H1, I1, rx, a, dx, fs, ex, ea, l, q⟩ => ?_) ht
  subst ex
  obtain rfl : u = Value.ref a := rx
  refine getmeth_ok I1 ea c hm l ?_
  refine PySem.W.callWith_KW0 (first := [.ref a]) (h₀ := X.base) I.ok.mod.kin hm.kp hall (thn (hkw.run pos pins s1 σ H1 _ I1 q) fun ws s2 ⟨zs, H2, I2, rz, l2, q2⟩ => ⟨I2.kIn, ?_⟩) hpl
  rw [hks]
  exact run_fnN (us := [.ref a]) (vs := [.ref a]) F hr b hx I2 (.cons rfl .nil) rz rfl l2 q2
theorem pe_cl (M : CallAt X.prog X.w X.K X.mg X.base CX k C ps sp) (hr : Room k X.A) (hx : Passes CX X E) (hf : PE X fe tf) (ha : PA X (e :: es) t)
    (ht : eval (.Call fe (e :: es) [] pos) X.env = (do callWith pos (← eval fe X.env) [] (backTo pos (starEach (e :: es) X.env)) (backToKw pos (keywordEach [] X.env))) := by rfl)
    (hs : starEach (e :: es) X.env = (false, eval e X.env) :: starEach es X.env := by rfl) (hpl : (backTo pos (starEach es X.env)).any (·.1) = false := by rfl) : PE X (.Call fe (e :: es) [] pos) (StX.tCallO X C sp E tf t) := by
  obtain ⟨f, fd, c, F, b⟩ := M.ex
  refine StX.pe_callO hf c (fun A outer s H us vs Q E hr e0 r hsp => ?_) hr hx ha ht hs hpl
  have hl : (us ++ []).length = ps.length := by rw [List.append_nil, ← r.length]; exact F.len _ _ _ _ hsp
  have hb := b s us (e0.mod.kin.keeps fun b o e => (e0.bs b o e).1) hl
  rw [List.append_nil] at hb
  exact F.run A outer s H ⟨us, []⟩ us vs Q E hr e0 hb r hsp
end
/-- an own comparison -/
structure CmpAt (P : Program) (w : World) (K : PySem.W.Frag) (mg : Str → Option Value) (base : Heap) (CX : CXT) (k : Nat) (C : Addr) (m : Str) (ps : List Str) (sp : Sp) : Prop where
  ex : ∃ f fd, PySem.W.findIn K (.ref C) m = some (some (.ref f)) ∧ PySem.W.isFn K (.ref f) = true ∧ FnOk P w K mg base CX k f fd ps sp ∧ L2.Binds K fd ps []
def rCmpO (K : PySem.W.Frag) (C : Addr) (sp : Sp) (E : XK) : R2 := fun x y H Q => ∃ a dx fs t, x = .ref a ∧ H a = some (.ins C dx fs) ∧ TyX K H y t ∧ PySem.W.notFirst K C t = true ∧ sp [.ref a, y] H Q E
theorem op_cmpO {X : Cx} {CX : CXT} {k : Nat} {C : Addr} {m : Str} {ps : List Str} {sp : Sp} {E : XK} {op : CmpOp} (M : CmpAt X.prog X.w X.K X.mg X.base CX k C m ps sp) (hr : Room k X.A) (hx : Passes CX X E) (hop : (cmpInfo op).2.1 = m := by rfl)
    (hco : ∀ v u, compareOp op v u = richCompare op v u := by intro _ _; rfl) : OpR X (compareOp op) (rCmpO X.K C sp E) := by
  intro pins s σ H x y v u Q I rx ry h
  obtain ⟨f, fd, hs, hf, F, hb⟩ := M.ex
  obtain ⟨a, dx, fs, t, rfl, ha, ty, hn, hsp⟩ := h
  obtain rfl : v = Value.ref a := rx
  obtain ⟨mA, J, _⟩ := ins_get I.hok ha
  obtain ⟨od, J, _⟩ := J.look
  obtain ⟨m', hF⟩ := I.fr
  obtain ⟨Pz, Z, pz, _⟩ := kit_of I ry ty
  rw [hco]
  refine PySem.W.cmp_K (op := op) (tb := t) hr.units0 hF I.ok.mod.kin J (Z.ty _ _ I.kIn pz) hn (by rw [hop]; exact hs) hf ?_
  have hl := F.len _ _ _ _ hsp
  have r2 : Vals [V.ref a, y] [Value.ref a, u] := .cons rfl (.cons ry .nil)
  refine wpAny_call (codeAny_mono (F.run X.A X.stack s H ⟨[.ref a, u], []⟩ [.ref a, u] [.ref a, y] _ E hr I.env0 (by
    have := hb s [.ref a, u] I.kIn (by simpa using hl)
    simpa using this) r2 hsp) fun r s' hq => ?_)
  cases r with
  | error e => exact hx pins σ H s e s' I hq
  | ok fl =>
    cases fl with
    | ret z =>
      have q := I.after hq
      obtain ⟨zv, H', I', rz, q'⟩ := id q
      cases z with
      | notImplemented => cases zv <;> first | (cases rz; done) | (obtain ⟨_, rz⟩ := rz; cases rz)
      | _ => exact q
    | next => exact False.elim hq
    | brk => exact False.elim hq
    | cont => exact False.elim hq
/-! ### the pen: a list of the cells, an index, what is left of a great cell -/
def PenAt (H : Hp) (pn : Addr) (n : Nat) : Prop := ∃ (cl : Addr) (ns : List Int) (at_ rest : Int), H pn = some (.lst [.ref cl, .int at_, .int rest]) ∧ H cl = some (.lst (ns.map V.int)) ∧ ns.length ≤ 63 ∧ 0 ≤ at_ ∧ at_ ≤ n
/-- all but pn stays -/
def But (pn : Addr) (H H' : Hp) : Prop := ∀ b o, H b = some o → b ≠ pn → H' b = some o
theorem But.refl (pn : Addr) (H : Hp) : But pn H H := fun _ _ h _ => h
theorem But.trans {pn : Addr} {H H1 H2 : Hp} (a : But pn H H1) (b : But pn H1 H2) : But pn H H2 := fun c o h n => b c o (a c o h n) n
theorem But.new {pn p : Addr} {H : Hp} {o : HO} (h : H p = none) : But pn H (upd H p o) := fun b u e _ => by rw [upd_ne (ne_of_none e h)]; exact e
theorem But.put {pn : Addr} {H : Hp} {o : HO} : But pn H (upd H pn o) := fun b u e n => by rw [upd_ne n]; exact e
theorem pen_new {H : Hp} {pn p : Addr} {n : Nat} {o : HO} (h : PenAt H pn n) (hp : H p = none) : PenAt (upd H p o) pn n := by
  obtain ⟨cl, ns, a, r, h1, h2, h3⟩ := h
  exact ⟨cl, ns, a, r, by rw [upd_ne (ne_of_none h1 hp)]; exact h1, by rw [upd_ne (ne_of_none h2 hp)]; exact h2, h3⟩
theorem PenAt.le {H : Hp} {pn : Addr} {n m : Nat} (h : PenAt H pn n) (le : n ≤ m) : PenAt H pn m := by
  obtain ⟨cl, ns, a, r, h1, h2, h3, h4, h5⟩ := h
  exact ⟨cl, ns, a, r, h1, h2, h3, h4, by omega⟩
def spDraw : Sp := fun vs H Q _ => ∃ (pn : Addr) (m : Int) (n : Nat), vs = [.ref pn, .int m] ∧ 0 < m ∧ m.natAbs.log2 < 9000 ∧ PenAt H pn n ∧ n < 100000 ∧
  ∀ (d : Int) (H' : Hp), 0 ≤ d → d < m → PenAt H' pn (n + 1) → But pn H H' → Q (.int d) H'
/-- pick(pen, some): one of some -/
def spPick : Sp := fun vs H Q _ => ∃ (pn l : Addr) (n : Nat) (xs : List V), vs = [.ref pn, .ref l] ∧ H l = some (.lst xs) ∧ l ≠ pn ∧ 0 < xs.length ∧ xs.length ≤ 1000 ∧ PenAt H pn n ∧ n < 100000 ∧
  ∀ (v : V) (H' : Hp), v ∈ xs → PenAt H' pn (n + 1) → But pn H H' → Q v H'
def spPen (K : PySem.W.Frag) : Sp := fun vs H Q _ => ∃ (a : Addr) (ns : List Int), vs = [.ref a] ∧ SqL K H a (ns.map V.int) ∧
  ∀ (pn : Addr) (H' : Hp), H pn = none → PenAt H' pn 0 → Same H H' → Q (.ref pn) H'
/-! ### lists of ints as data -/
theorem dp_ints {K : PySem.W.Frag} {H : Hp} : ∀ ns : List Int, DpAll K H (ns.map V.int) (ns.map PyData.int)
  | [] => .nil
  | n :: ns => .cons (.int n) (dp_ints ns)
theorem lay_ints : ∀ ns : List Int, PyData.canLayAll0 (ns.map PyData.int) = true
  | [] => rfl
  | n :: ns => by
    show (true && PyData.canLayAll0 (ns.map PyData.int)) = true
    rw [lay_ints ns]
    rfl
theorem dep_ints : ∀ ns : List Int, PyData.depthAll (ns.map PyData.int) = 0
  | [] => rfl
  | n :: ns => by
    show max 0 (PyData.depthAll (ns.map PyData.int)) = 0
    rw [dep_ints ns]
    rfl
theorem shaped_ints (ns : List Int) : SeqAt.shaped (.list (ns.map PyData.int)) = true := by
  show (PyData.canLayAll0 (ns.map PyData.int) && decide (PyData.depthAll (ns.map PyData.int) + 1 ≤ 64)) = true
  rw [lay_ints, dep_ints]
  rfl
theorem pow_lt {i : Int} {b : Nat} (h0 : 0 ≤ i) (h : i < 2 ^ b) : i.natAbs < 2 ^ b := by
  have e : ((2 ^ b : Nat) : Int) = (2 : Int) ^ b := by simp
  omega
theorem mix_lt {x a c d e : Int} (x0 : 0 ≤ x) (x1 : x < 2147483648) (a0 : 0 ≤ a) (a1 : a < 100000) (c0 : 0 ≤ c) (c1 : c ≤ 1000) (d0 : 0 ≤ d) (d1 : d ≤ 100000) (e0 : 0 ≤ e) (e1 : e ≤ 100000) : (x * (2 * a + c) + d * a * a + e).natAbs < 2 ^ 64 := by
  have h1 : x * (2 * a + c) ≤ 2147483648 * 201000 := Int.mul_le_mul (by omega) (by omega) (by omega) (by decide)
  have h2 : 0 ≤ x * (2 * a + c) := Int.mul_nonneg x0 (by omega)
  have h3 : d * a ≤ 100000 * 100000 := Int.mul_le_mul d1 (by omega) a0 (by decide)
  have h4 : 0 ≤ d * a := Int.mul_nonneg d0 a0
  have h5 : d * a * a ≤ (100000 * 100000) * 100000 := Int.mul_le_mul h3 (by omega) a0 (by decide)
  have h6 : 0 ≤ d * a * a := Int.mul_nonneg h4 a0
  generalize x * (2 * a + c) = y at *
  generalize d * a * a = z at *
  refine pow_lt (by omega) (by omega)
theorem cut_ints (ns : List Int) (k : Nat) : cutV (ns.map V.int) none (some (k : Int)) = (ns.take k).map V.int := by
  unfold cutV
  rw [HT.sIx_none, HT.sIx_nat, List.drop_zero, Nat.sub_zero, List.map_take, List.length_map]
  by_cases h : k ≤ ns.length
  · rw [Nat.min_eq_left h]
  · rw [Nat.min_eq_right (by omega), List.take_of_length_le (by rw [List.length_map]; exact Nat.le_refl _), List.take_of_length_le (by rw [List.length_map]; omega)]
/-- names that are still the built-in ones -/
structure BI (mg : Str → Option Value) : Prop where
  z_len : mg "len" = none
  z_abs : mg "abs" = none
  z_int : mg "int" = none
  z_bool : mg "bool" = none
  z_list : mg "list" = none
  z_repr : mg "repr" = none
  z_isinstance : mg "isinstance" = none
  z_range : mg "range" = none
end My
/-! The end of a law whose def shows containers: a def that keeps its promise where nothing is being shown. -/
namespace My
open PySem PySem.Spec PyProof.Rows L2
/-- the heap h at the law's start as the walk sees it: the script's list at a, the tables of code objects -/
structure Begin (P : Program) (w : World) (K : PySem.W.Frag) (cs : List (Addr × Addr)) (a : Addr) (ns : List Int) (H : Hp) (h : Heap) : Prop where
  tbl : ∀ p ∈ cs, H p.2 = some (.tbl #[])
  kind : ∀ b, H b = none ∨ b ∈ cs.map (·.2) ∨ ∃ o xs, H b = some (.frz o (.lst xs))
  seq : SqL K H a (ns.map V.int)
  ok : HOk P w H h
  only : ∀ b, H b ≠ none → b = a ∨ b ∈ cs.map (·.2)
  out : H a ≠ none → K.lookup a = none
/-- what is known of a table and its code object -/
structure TabF (K : PySem.W.Frag) (h : Heap) (p : Addr × Addr) : Prop where
  get : h.get? p.2 = some { cls := .none, data := .fields #[] }
  out : K.lookup p.2 = none
  hd : PySem.W.CodeHd h p.1 p.2
def Goal (l : Program) (w : World) (fa a : Addr) (s₁ : Shared) : Prop := codeAny (model l w) callerA (.call (.ref fa) ⟨[.ref a], []⟩) (fun r s' => r = .ok (.ret (.bool true)) ∧ OldK s₁.heap s'.heap ∧ s'.os = s₁.os ∧ AllBare s'.gens) s₁
theorem tab_get {K : PySem.W.Frag} {h : Heap} {cs : List (Addr × Addr)} (t : ∀ p ∈ cs, TabF K h p) {b : Addr} (hb : b ∈ cs.map (·.2)) : h.get? b = some { cls := .none, data := .fields #[] } := by
  obtain ⟨p, hp, rfl⟩ := List.mem_map.mp hb
  exact (t p hp).get
section
variable {P : Program} {w : World} {K : PySem.W.Frag} {mg mb : Str → Option Value} {k : Nat} {fa a : Addr} {cs : List (Addr × Addr)} {fd : FuncData} {x : Str} {sp : Sp} {s₁ : Shared} {vs : List Value} {ns : List Int}
theorem from_begin {H : Hp} (B : Begin P w K cs a ns H s₁.heap) (hK : K.In s₁.heap) (gN : s₁.heap.Ns mainGlobals mg) (bN : s₁.heap.Ns builtinsNs mb) (bB : ∀ x : Str, x ≠ "__name__" → mb x = bootBuiltins x) (lim : s₁.heap.NoLimit) (gens : s₁.gens = #[])
    (ts : ∀ p ∈ cs, TabF K s₁.heap p) (mB : ∃ (bm : Addr) (ob : Obj), mg "__builtins__" = some (.ref bm) ∧ bm ≠ builtinsNs ∧ s₁.heap.get? bm = some ob ∧ ob.cls = .type "module" ∧ ob.dict = some builtinsNs ∧ ob.data = .plain)
    (la : s₁.heap.get? a = some { cls := .type "list", data := .seq vs.toArray }) (hr : Room k callerA)
    (F : ∀ base : Heap, K.In base → base.Ns mainGlobals mg → (∀ p ∈ cs, LamX.TabB base mg p.1 p.2) → FnG P w K mg base CX0 k fa fd [x] sp) (bd : ∀ (s : Shared) (u : Value), BindsTo s fd ⟨[u], []⟩ [(x, u)])
    (go : sp [.ref a] H (fun v _ => v = .bl true) fun _ _ _ => False) : Goal P w fa a s₁ := by
  have away : ∀ {b : Addr} {o : Obj}, s₁.heap.get? b = some o → (∀ ys n, o.data ≠ .seq ys n) → o.data ≠ .fields #[] → H b = none := fun {b o} e n1 n2 => by
    by_cases q : H b = none
    · exact q
    · exfalso
      rcases B.only b q with rfl | hb
      · rw [la] at e
        injection e with e
        subst e
        exact n1 _ _ rfl
      · rw [tab_get ts hb] at e
        injection e with e
        subst e
        exact n2 rfl
  have seen : ∀ {b : Addr} {o : Obj}, s₁.heap.get? b = some o → H b = none → (hidT s₁.heap H).get? b = some o := fun e n => hidT_get e n
  have nsOf : ∀ {b : Addr} {m : Str → Option Value}, s₁.heap.Ns b m → (hidT s₁.heap H).Ns b m := fun {b m} ⟨o, es, ep, e, d, r⟩ =>
    ⟨o, es, ep, seen e (away e (fun ys n z => by rw [d] at z; cases z) (fun z => by rw [d] at z; cases z)), d, r⟩
  have inK : K.In (hidT s₁.heap H) := fun b o e => by
    refine seen (hK b o e) ?_
    by_cases q : H b = none
    · exact q
    · exfalso
      rcases B.only b q with rfl | hb
      · rw [B.out q] at e
        cases e
      · obtain ⟨p, hp, rfl⟩ := List.mem_map.mp hb
        rw [(ts p hp).out] at e
        cases e
  have modK : L2.Mod K mg (hidT s₁.heap H) := ⟨inK, nsOf gN, ⟨mb, nsOf bN, bB⟩, let ⟨mc, h1, h2⟩ := lim; ⟨mc, nsOf h1, h2⟩⟩
  have tabs : ∀ p ∈ cs, LamX.TabB (hidT s₁.heap H) mg p.1 p.2 := fun p hp => by
    have tp := ts p hp
    refine ⟨?_, ?_, fun z => ?_⟩
    · obtain ⟨o, us, file, tf, flags, tg, inF, text, tt, e1, r1, r2, r3, rs⟩ := tp.hd
      exact ⟨o, us, file, tf, flags, tg, inF, text, tt, seen e1 (away e1 (fun ys n z => by rw [r2] at z; cases z) (fun z => by rw [r2] at z; cases z; simp at r3)), r1, r2, r3, rs⟩
    · obtain ⟨bm, ob, m1, m2, m3, m4, m5, m6⟩ := mB
      refine ⟨bm, ob, m1, m2, fun z => ?_, fun z => ?_, seen m3 (away m3 (fun ys n z => by rw [m6] at z; cases z) (fun z => by rw [m6] at z; cases z)), m4, m5, m6⟩
      · obtain ⟨o, es, ep, e, hd, _⟩ := gN
        rw [z, e] at m3
        cases m3
        rw [hd] at m6
        cases m6
      · rw [z, tp.get] at m3
        cases m3
        cases m6
    · obtain ⟨o, es, ep, e, hd, _⟩ := gN
      rw [z, tp.get] at e
      cases e
      cases hd
  have env0 : Env0 P w K mg (hidT s₁.heap H) callerA [] s₁ H := ⟨rfl, modK, fun b o e => of_hidT e, Nat.le_of_eq (hidT_size _ _), trivial, fun b hb => absurd (show b ∈ ([] : List Addr) from hb) (by simp), B.ok, .of_eq gens⟩
  unfold Goal
  refine codeAny_mono ((F _ inK (nsOf gN) tabs).run callerA [] s₁ H ⟨[.ref a], []⟩ [.ref a] [.ref a] _ _ rfl hr env0 (bd s₁ (.ref a)) (.cons rfl .nil) go) fun r s' done => ?_
  match r, done with
  | .error e, z => exact False.elim z
  | .ok .next, z => exact False.elim z
  | .ok .brk, z => exact False.elim z
  | .ok .cont, z => exact False.elim z
  | .ok (.ret u), ⟨v, H', os, bare, un, ok', r', q⟩ =>
    have q2 : v = .bl true := q
    subst q2
    have q3 : u = Value.bool true := r'
    subst q3
    have stays : ∀ b o, b ∉ cs.map (·.2) → s₁.heap.get? b = some o → s'.heap.get? b = some o := fun b o nb e => by
      rcases B.kind b with z | z | ⟨ob, xs, z⟩
      · exact un.keep b o e z (by intro z; exact absurd (show b ∈ ([] : List Addr) from z) (by simp)) (by simp)
      · exact absurd z nb
      · obtain ⟨e1, _⟩ := B.ok b _ z
        obtain ⟨e2, _⟩ := ok' b _ (un.frzs b ob _ z)
        rw [e] at e1
        cases e1
        exact e2
    have more : ∀ p ∈ cs, ∃ ys : Array Value, s'.heap.get? p.2 = some { cls := .none, data := .fields ys } := fun p hp => by
      obtain ⟨ys, z⟩ := un.tbls p.2 #[] (B.tbl p hp)
      exact ⟨_, ok' p.2 _ z⟩
    refine ⟨rfl, ⟨fun b o e => ?_, fun b o e => ?_⟩, os, bare⟩
    · by_cases hb : b ∈ cs.map (·.2)
      · obtain ⟨p, hp, rfl⟩ := List.mem_map.mp hb
        obtain ⟨ys, hm⟩ := more p hp
        rw [(ts p hp).get] at e
        cases e
        exact .inr (.inl ⟨((ts p hp).hd.tab (ts p hp).get).isCodeTable, rfl, #[], ys, rfl, by rw [Array.empty_append]; exact hm⟩)
      · exact .inl (stays b o hb e)
    · by_cases hb : b ∈ cs.map (·.2)
      · obtain ⟨p, hp, rfl⟩ := List.mem_map.mp hb
        obtain ⟨ys, hm⟩ := more p hp
        exact ⟨_, hm⟩
      · exact ⟨o, stays b o hb e⟩
/-- such a beginning is to be had -/
theorem begins (hK : K.In s₁.heap) (ts : ∀ p ∈ cs, TabF K s₁.heap p) (la : s₁.heap.get? a = some { cls := .type "list", data := .seq vs.toArray }) (hi : IntsAre vs ns) (hl : ns.length ≤ sizeLine) : ∃ H, Begin P w K cs a ns H s₁.heap := by
  have nt : a ∉ cs.map (·.2) := fun z => by
    have q := tab_get ts z
    rw [la] at q
    injection q with q
    injection q with _ _ q _
    cases q
  have rv := vals_ints hi
  let O : Option HO := if (K.lookup a).isSome = true then none else some (.frz { cls := .type "list", data := .seq vs.toArray } (.lst (ns.map V.int)))
  have atT : ∀ b, b ∈ cs.map (·.2) → (if b ∈ cs.map (·.2) then some (HO.tbl #[]) else if b = a then O else none) = some (HO.tbl #[]) := fun b h => if_pos h
  have atA : (if a ∈ cs.map (·.2) then some (HO.tbl #[]) else if a = a then O else none) = O := (if_neg nt).trans (if_pos rfl)
  have atN : ∀ b, b ∉ cs.map (·.2) → b ≠ a → (if b ∈ cs.map (·.2) then some (HO.tbl #[]) else if b = a then O else none) = none := fun b h1 h2 => (if_neg h1).trans (if_neg h2)
  refine ⟨fun b => if b ∈ cs.map (·.2) then some (.tbl #[]) else if b = a then O else none, fun p hp => atT _ (List.mem_map.mpr ⟨p, hp, rfl⟩), fun b => ?_, ?_, fun b u z => ?_, fun b z => ?_, fun z => ?_⟩
  · by_cases h1 : b ∈ cs.map (·.2)
    · exact .inr (.inl h1)
    · by_cases h2 : b = a
      · subst h2
        by_cases h3 : (K.lookup b).isSome = true
        · exact .inl (atA.trans (if_pos h3))
        · exact .inr (.inr ⟨_, _, atA.trans (if_neg h3)⟩)
      · exact .inl (atN b h1 h2)
  · cases h3 : K.lookup a with
    | none =>
      refine .inl (.inr ⟨_, atA.trans (if_neg ?_)⟩)
      rw [h3]
      exact Bool.noConfusion
    | some o =>
      have e := hK a o h3
      rw [la] at e
      cases e
      exact .inr ⟨_, vs.toArray, _, h3, rfl, rfl, rfl, by rw [List.size_toArray, hi.length]; exact hl, by simpa using rv⟩
  · by_cases h1 : b ∈ cs.map (·.2)
    · have z' := (atT b h1).symm.trans z
      cases z'
      exact tab_get ts h1
    · by_cases h2 : b = a
      · subst h2
        have z' := atA.symm.trans z
        by_cases h3 : (K.lookup b).isSome = true
        · have z2 := (if_pos h3).symm.trans z'
          cases z2
        · have z2 := (if_neg h3).symm.trans z'
          cases z2
          exact ⟨la, by rw [List.length_map]; exact hl, vs, _, rv, la⟩
      · have z' := (atN b h1 h2).symm.trans z
        cases z'
  · by_cases h1 : b ∈ cs.map (·.2)
    · exact .inr h1
    · by_cases h2 : b = a
      · exact .inl h2
      · exact absurd (atN b h1 h2) z
  · cases h3 : K.lookup a with
    | none => rfl
    | some o => exact absurd (atA.trans (if_pos (by rw [h3]; rfl))) z
end
/-- what is known of the law's promise at the head's heap h; TF: what the top says of the tables -/
def LawG (l : PySem.W.OpenLaw) (w : World) (K : PySem.W.Frag) (k n : Nat) (x : Str) (mg : Str → Option Value) (fa : Addr) (h : Heap) : Prop :=
  ∃ (fd : FuncData) (cs : List (Addr × Addr)) (sp : Sp), (∀ p ∈ cs, TabF K h p) ∧ (∀ (s : Shared) (u : Value), BindsTo s fd ⟨[u], []⟩ [(x, u)]) ∧
    (∀ (H : Hp) (a : Addr) (ns : List Int), ns.length ≤ n → (∀ z ∈ ns, Builtin.Int.intBits z ≤ 1048576) → (∀ p ∈ cs, H p.2 = some (.tbl #[])) → SqL K H a (ns.map V.int) → sp [.ref a] H (fun v _ => v = .bl true) fun _ _ _ => False) ∧
    ∀ base : Heap, K.In base → base.Ns mainGlobals mg → (∀ p ∈ cs, LamX.TabB base mg p.1 p.2) → FnG l.prog w K mg base CX0 k fa fd [x] sp
theorem walk_G {l : PySem.W.OpenLaw} {n k : Nat} {q : Program} {loose : List Str} {XP : (Str → Option Value) → Heap → Prop} {YP : World → Heap → Prop} {d : DefRec} {K : Params → PySem.W.Frag} {x : Str}
    (hn : l.most = some n) (hn2 : n ≤ sizeLine) (hdf : d.params.defaults = []) (hr : Room k callerA) (hY : ∀ (w : World) (h : Heap), YP w h → (K w.params).In h)
    (F : ∀ (w : World) (mg : Str → Option Value) (fa : Addr) (h : Heap), YP w h → (K w.params).In h → h.Ns mainGlobals mg → mg d.name = some (.ref fa) →
      (∀ (y : Str) (c T : Addr), ((recsOf q).any fun e => e.name == y) = true → PySem.W.tabIn (K w.params) y = some (c, T) → (K w.params).lookup T = none → TabF (K w.params) h (c, T)) → LawG l w (K w.params) k n x mg fa h) :
    PySem.W.WalkO q loose XP YP l.row.toRowW d [] (fun f vs => PySem.call f vs) := by
  refine Att.attach_callB hn hdf fun w s₀ s₁ mg mb fa o pm cd doc a vs ns G Y ho hd hcd hmg hobj hints hlen hbits hg => ?_
  have KX := hY w _ Y
  obtain ⟨fd, cs, sp, ts, hb, hsp, hF⟩ := F w mg fa _ Y KX G.T.g hmg fun y c T hrec hT hN => by
    obtain ⟨e, he⟩ := Option.isSome_iff_exists.mp (show ((recsOf q).find? fun e => e.name == y).isSome = true by rw [List.find?_isSome]; obtain ⟨e, h1, h2⟩ := List.any_eq_true.mp hrec; exact ⟨e, h1, h2⟩)
    obtain ⟨h1, h2⟩ := PySem.W.tab_of G.T KX he hT
    exact ⟨h2, hN, h1⟩
  obtain ⟨H, B⟩ := begins (P := l.prog) (w := w) KX ts hobj hints (Nat.le_trans hlen hn2)
  exact from_begin B KX G.T.g G.T.b G.T.builtins G.T.nolimit hg ts G.T.bmain hobj hr hF hb (hsp H a ns hlen hbits B.tbl B.seq)
end My
/-! What the top has written, by name. -/
namespace My
open PySem PySem.Spec PyProof.Rows L2
/-- the module has the def -/
structure Has (K : PySem.W.Frag) (mg : Str → Option Value) (x : Str) (st : Stmt) : Prop where
  ex : ∃ f fd, mg x = some (.ref f) ∧ Fun K x x st f fd
/-- a def that makes functions, its code object at c -/
structure HasC (K : PySem.W.Frag) (mg : Str → Option Value) (x : Str) (st : Stmt) (c : Addr) : Prop where
  ex : ∃ (f : Addr) (oc : Value) (od : Option Addr) (kV doc pm : Value) (an : Option Addr) (ct : Value) (osl : Array (Option Value)), mg x = some (.ref f) ∧
    K.lookup f = some ⟨oc, od, .func (PySem.W.fnOf x x (defArgs st) (defBody st) (defScope st) .none kV doc pm an (.ref c) ct), osl⟩ ∧ PySem.W.codeIn K (.ref c) x = true ∧ PySem.W.keepIn K (.ref f) = true
/-- the class has the method -/
structure HasM (K : PySem.W.Frag) (C : Addr) (m qual : Str) (st : Stmt) : Prop where
  ex : ∃ f fd, PySem.W.findIn K (.ref C) m = some (some (.ref f)) ∧ PySem.W.isFn K (.ref f) = true ∧ Fun K m qual st f fd
/-- the class has the method, with defaults -/
structure HasD (K : PySem.W.Frag) (C : Addr) (m qual : Str) (st : Stmt) (dvs : List V) (kws : List (Str × V)) : Prop where
  ex : ∃ f fd, PySem.W.findIn K (.ref C) m = some (some (.ref f)) ∧ PySem.W.isFn K (.ref f) = true ∧ FunD K m qual (defArgs st) (defBody st) (defScope st) dvs kws f fd
section
variable {P : Program} {w : World} {K : PySem.W.Frag} {mg : Str → Option Value} {base : Heap} {CX : CXT} {k : Nat} {x m qual : Str} {st : Stmt} {ps ks : List Str} {sp : Sp} {C c : Addr}
def BindW (x qual : Str) (st : Stmt) (ps : List Str) : Prop := ∀ (kV doc pm : Value) (an : Option Addr) (cdv ct : Value) (us : List Value), us.length = ps.length → bindArgs (PySem.W.fnOf x qual (defArgs st) (defBody st) (defScope st) .none kV doc pm an cdv ct) ⟨us, []⟩ = pure (ps.zip us)
theorem def_at (A : Has K mg x st) (ok : ∀ f fd, Fun K x x st f fd → FnOk P w K mg base CX k f fd ps sp) (b : BindW x x st ps) : DefAt P w K mg base CX k x ps sp := by
  obtain ⟨f, fd, h1, F⟩ := A.ex
  exact ⟨f, fd, ok f fd F, h1, F.kp, F.binds b⟩
theorem def_atG (A : Has K mg x st) (ok : ∀ f fd, Fun K x x st f fd → FnG P w K mg base CX k f fd ps sp) (b : BindW x x st ps) : DefG P w K mg base CX k x ps sp := by
  obtain ⟨f, fd, h1, F⟩ := A.ex
  exact ⟨f, fd, ok f fd F, h1, F.kp, F.binds b⟩
theorem meth_at (A : HasM K C m qual st) (ok : ∀ f fd, Fun K m qual st f fd → FnOk P w K mg base CX k f fd ps sp) (b : BindW m qual st ps) : MethAt P w K mg base CX k C m ps sp := by
  obtain ⟨f, fd, h1, h2, F⟩ := A.ex
  exact ⟨f, fd, ⟨h1, h2, F.kp⟩, ok f fd F, F.binds b⟩
theorem call_at (A : HasM K C "__call__" qual st) (ok : ∀ f fd, Fun K "__call__" qual st f fd → FnOk P w K mg base CX k f fd ps sp) (b : BindW "__call__" qual st ps) : CallAt P w K mg base CX k C ps sp := by
  obtain ⟨f, fd, h1, h2, F⟩ := A.ex
  obtain ⟨oc, od, kV, doc, pm, an, cdv, ct, osl, e, lk, _⟩ := F.ex
  refine ⟨f, fd, ⟨h1, h2, ?_⟩, ok f fd F, F.binds b⟩
  unfold PySem.W.fnIn
  rw [lk]
theorem cmp_at (A : HasM K C m qual st) (ok : ∀ f fd, Fun K m qual st f fd → FnOk P w K mg base CX k f fd ps sp) (b : BindW m qual st ps) : CmpAt P w K mg base CX k C m ps sp := by
  obtain ⟨f, fd, h1, h2, F⟩ := A.ex
  exact ⟨f, fd, h1, h2, ok f fd F, F.binds b⟩
/-- called with keywords alone -/
theorem methK_at {gV : List V → List V → List V} {g : List Value → List Value → List Value} (A : HasM K C m qual st) (ok : ∀ f fd, Fun K m qual st f fd → FnOk P w K mg base CX k f fd ps sp)
    (b : ∀ (kV doc pm : Value) (an : Option Addr) (cdv ct : Value) (us ws : List Value), us.length = 1 → ws.length = ks.length → bindArgs (PySem.W.fnOf m qual (defArgs st) (defBody st) (defScope st) .none kV doc pm an cdv ct) ⟨us, ks.zip ws⟩ = pure (ps.zip (g us ws)))
    (r : ∀ {vs : List V} {us : List Value} {zs : List V} {ws : List Value}, Vals vs us → Vals zs ws → Vals (gV vs zs) (g us ws)) : MethK P w K mg base CX k C m ps ks sp gV := by
  obtain ⟨f, fd, h1, h2, F⟩ := A.ex
  obtain ⟨oc, od, kV, doc, pm, an, cdv, ct, osl, rfl, lk, hcd⟩ := id F.ex
  exact ⟨f, _, g, ⟨h1, h2, F.kp⟩, ok f _ F, ⟨fun s us ws _ l1 l2 => .of_eq (b kV doc pm an cdv ct us ws l1 l2), r⟩⟩
/-- the class is made with all its arguments -/
theorem make_all {dvs : List V} (A : HasD K C "__init__" qual st dvs []) (hx : mg x = some (.ref C)) (mk : PySem.W.makesIn K C = true) (kp : PySem.W.keepIn K (.ref C) = true) (ok : ∀ f fd, FunD K "__init__" qual (defArgs st) (defBody st) (defScope st) dvs [] f fd → FnOk P w K mg base CX k f fd ps sp) (hd : dvs ≠ [])
    (b : ∀ (T : Addr) (kV doc pm : Value) (an : Option Addr) (cdv ct : Value) (us its : List Value), us.length = ps.length → its.length = dvs.length →
      ∃ k, bindArgs (PySem.W.fnOf "__init__" qual (defArgs st) (defBody st) (defScope st) (.ref T) kV doc pm an cdv ct) ⟨us, []⟩ = seqItems? (.ref T) >>= k ∧ k (some its.toArray) = pure (ps.zip (us ++ its.drop dvs.length))) : MakeAt P w K mg base CX k x C ps sp [] := by
  obtain ⟨f, fd, h1, h2, F⟩ := A.ex
  obtain ⟨ds, r, bs⟩ := F.binds1 ps.length dvs.length hd (by omega) b
  rw [List.drop_length] at r
  exact ⟨f, fd, ds, ⟨mk, h1, h2, kp⟩, ok f fd F, hx, bs, r⟩
end
end My
/-! Ints beside instances: the int's own slots decline. -/
namespace My
open PySem PySem.Spec PyProof.Rows
def Plain (h : Heap) (l : Addr) : Prop := ∃ (c : Value) (d : Option Addr) (sl : Array (Option Value)), h.get? l = some { cls := c, dict := d, data := .plain, slots := sl }
def Declines (B : Builtin) (a : Int) (t : Tok) (l : Addr) : Prop := Meets (B ⟨[.int a t, .ref l], []⟩) fun _ R s => Plain s.heap l ∧ R (.ok (.ret Value.notImplemented)) s
theorem dec_add (a : Int) (t : Tok) (l : Addr) : Declines Builtin.«int.__add__» a t l :=
  .of_wp fun prog w A R s h => by obtain ⟨hp, g, d, tk, os⟩ := s; obtain ⟨⟨c, dd, sl, hl⟩, h⟩ := h; wp_walk; exact ⟨_, rfl, h⟩
theorem dec_sub (a : Int) (t : Tok) (l : Addr) : Declines Builtin.«int.__sub__» a t l :=
  .of_wp fun prog w A R s h => by obtain ⟨hp, g, d, tk, os⟩ := s; obtain ⟨⟨c, dd, sl, hl⟩, h⟩ := h; wp_walk; exact ⟨_, rfl, h⟩
theorem dec_mul (a : Int) (t : Tok) (l : Addr) : Declines Builtin.«int.__mul__» a t l :=
  .of_wp fun prog w A R s h => by obtain ⟨hp, g, d, tk, os⟩ := s; obtain ⟨⟨c, dd, sl, hl⟩, h⟩ := h; wp_walk; exact ⟨_, rfl, h⟩
theorem dec_floordiv (a : Int) (t : Tok) (l : Addr) : Declines Builtin.«int.__floordiv__» a t l :=
  .of_wp fun prog w A R s h => by obtain ⟨hp, g, d, tk, os⟩ := s; obtain ⟨⟨c, dd, sl, hl⟩, h⟩ := h; wp_walk; exact ⟨_, rfl, h⟩
theorem dec_mod (a : Int) (t : Tok) (l : Addr) : Declines Builtin.«int.__mod__» a t l :=
  .of_wp fun prog w A R s h => by obtain ⟨hp, g, d, tk, os⟩ := s; obtain ⟨⟨c, dd, sl, hl⟩, h⟩ := h; wp_walk; exact ⟨_, rfl, h⟩
theorem dec_lt (a : Int) (t : Tok) (l : Addr) : Declines Builtin.«int.__lt__» a t l :=
  .of_wp fun prog w A R s h => by obtain ⟨hp, g, d, tk, os⟩ := s; obtain ⟨⟨c, dd, sl, hl⟩, h⟩ := h; wp_walk; exact ⟨_, rfl, h⟩
theorem dec_le (a : Int) (t : Tok) (l : Addr) : Declines Builtin.«int.__le__» a t l :=
  .of_wp fun prog w A R s h => by obtain ⟨hp, g, d, tk, os⟩ := s; obtain ⟨⟨c, dd, sl, hl⟩, h⟩ := h; wp_walk; exact ⟨_, rfl, h⟩
theorem dec_gt (a : Int) (t : Tok) (l : Addr) : Declines Builtin.«int.__gt__» a t l :=
  .of_wp fun prog w A R s h => by obtain ⟨hp, g, d, tk, os⟩ := s; obtain ⟨⟨c, dd, sl, hl⟩, h⟩ := h; wp_walk; exact ⟨_, rfl, h⟩
theorem dec_ge (a : Int) (t : Tok) (l : Addr) : Declines Builtin.«int.__ge__» a t l :=
  .of_wp fun prog w A R s h => by obtain ⟨hp, g, d, tk, os⟩ := s; obtain ⟨⟨c, dd, sl, hl⟩, h⟩ := h; wp_walk; exact ⟨_, rfl, h⟩
theorem dec_eq (a : Int) (t : Tok) (l : Addr) : Declines Builtin.«int.__eq__» a t l :=
  .of_wp fun prog w A R s h => by obtain ⟨hp, g, d, tk, os⟩ := s; obtain ⟨⟨c, dd, sl, hl⟩, h⟩ := h; wp_walk; exact ⟨_, rfl, h⟩
end My
/-! Own operators: an instance beside an instance, beside an int, an int beside it, in place, the sign. -/
namespace My
open PySem PySem.Spec PySem.Calls PyProof.Rows L2
section
open PySem.W
variable {prog : Program} {w : World} {A : Around} {E : Value → Shared → Prop} {s : Shared} {K : Frag} {x C L f f0 : Addr} {h₀ : Heap} {m : Str → Option Value} {ox : Obj} {od : Option Obj}
/-- what is known of the int's slot -/
structure IntSlot (K : Frag) (nm : String) (id : String) (B : Builtin) : Prop where
  slot : Slot "int" (PySem.dunder nm) id
  entry : entryFor table id = some B
  args : ∀ a b : Value, argsOk id ⟨[a, b], []⟩
  dec : ∀ a t l, Declines B a t l
theorem int_plain (i : Int) (t : Tok) (s : Shared) : s.TypeIs (.int i t) "int" := by
  first | exact .int | exact trivial | rfl | exact ⟨_, rfl⟩
theorem int_call {i : Int} {t : Tok} {nm id : String} {B : Builtin} {Q : Value → Shared → Prop} (S : IntSlot K nm id B) (hp : Plain s.heap x) (h : Q .notImplemented s) : wpAny (model prog w) A (call (.builtin id) [.int i t, .ref x]) Q E s :=
  call_meets S.slot (int_plain i t s) S.entry (S.args _ _) (S.dec i t x) ⟨hp, h⟩
/-- an int beside an instance: the reflected method -/
theorem binR_K {op : Operator} {i : Int} {t : Tok} {id : String} {B : Builtin} {fo ro : Option Value} {Q : Value → Shared → Prop} (S : IntSlot K op.info.2 id B) (F : Fr h₀ L s.heap m) (X₀ : K.In h₀) (I : InstAt s.heap x ox C od) (hp : Plain s.heap x) (hc : selfFirst K C = true)
    (hs : findIn K (.ref C) (PySem.dunder op.info.2) = some (some (.ref f0))) (hr : findIn K (.ref C) (dunderR op.info.2) = some (some (.ref f))) (hf : isFn K (.ref f) = true)
    (h1 : findIn K (.type "int") (PySem.dunder op.info.2) = some fo) (h2 : findIn K (.type "int") (dunderR op.info.2) = some ro) (hl : ((fo.isSome && !isSeqSlot fo) || (ro.isSome && !isSeqSlot ro)) = true) (hsub : subIn K (.ref C) (.type "int") = some false)
    (h : wpAny (model prog w) A (call (.ref f) [.ref x, .int i t]) (PySem.W.CmpBack Q) E s) : wpAny (model prog w) A (binaryOp op (.int i t) (.ref x)) Q E s := by
  have X := X₀.keeps F.keep
  obtain ⟨cd, rest, hcd, hm⟩ := ksp_first hc
  have two := ksp_try X I hr hf h
  rcases hi : op.info with ⟨sym, nm'⟩
  rw [hi] at hs hr h1 h2 S two
  dsimp only at hs hr h1 h2 S two
  have one : wpAny (model prog w) A (tryMethod (.int i t) (PySem.dunder nm') (.ref x)) (fun r s' => r = none ∧ s' = s) E s := wpAny_tryMethod_declines (int_plain i t s) S.slot (int_call S hp ⟨rfl, rfl, rfl⟩)
  obtain ⟨hh, g, d, tt, os⟩ := s
  have L1 : Looks (model prog w) hh (typeOf (.ref x)) (.ref C) := I.type
  have L2 : Looks (model prog w) hh (typeOf (.int i t)) (.type "int") := Looks.of_pure rfl
  have L3 : Looks (model prog w) hh (fillsNumberSlot (.ref C) nm') true := fills_K X hcd hm hs
  have L4 : Looks (model prog w) hh (fillsNumberSlot (.type "int") nm') true := hl ▸ ksp_fillsT X h1 h2
  have L5 : Looks (model prog w) hh (isSubtype (.ref C) (.type "int")) false := looks_subIn X hsub
  have L7 : Looks (model prog w) hh (numberSlotInPython (.type "int") nm') false := Looks.of_pure rfl
  have hne : (Value.type "int" == Value.ref C) = false := Bool.eq_false_iff.mpr fun q => by cases beq_iff_eq.mp q
  simp only [binaryOp, hi]
  refine wpAny_holding (wpAny_bind ?_)
  unfold binaryOp1
  refine wpAny_bind (L2.at (wpAny_bind (L1.at (wpAny_bind (L4.at ?_)))))
  simp only [hne, Bool.false_eq_true, if_false]
  ksp_lk
  refine wpAny_mono one (fun r s' hr' => ?_) fun _ _ e => e
  obtain ⟨rfl, rfl⟩ := hr'
  ksp_lk
  refine wpAny_mono two (fun r s' hr' => ?_) fun _ _ e => e
  obtain ⟨v, rfl, hq⟩ := hr'
  ksp_lk
  exact hq
/-- an int compared with an instance: the reflected method -/
theorem cmpR_K {op : CmpOp} {i : Int} {t : Tok} {id : String} {B : Builtin} {Q : Value → Shared → Prop} (hu : A.units < cLine) (sl : Slot "int" (cmpInfo op).2.1 id) (en : entryFor table id = some B) (ar : ∀ a b : Value, argsOk id ⟨[a, b], []⟩) (de : ∀ a t l, Declines B a t l)
    (F : Fr h₀ L s.heap m) (X₀ : K.In h₀) (I : InstAt s.heap x ox C od) (hp : Plain s.heap x) (hs : findIn K (.ref C) (cmpInfo op).2.2 = some (some (.ref f))) (hf : isFn K (.ref f) = true) (hsub : subIn K (.ref C) (.type "int") = some false)
    (h : wpAny (model prog w) A (call (.ref f) [.ref x, .int i t]) (PySem.W.CmpBack Q) E s) (h1 : oneThing? op (.int i t) (.ref x) = none) : wpAny (model prog w) A (richCompare op (.int i t) (.ref x)) Q E s := by
  have X := X₀.keeps F.keep
  have two : wpAny (model prog w) A (tryCompare (.ref x) (cmpInfo op).2.2 (.int i t)) (fun r s' => ∃ v, r = some v ∧ Q v s') E s := by
    unfold tryCompare
    refine wpAny_bind (ifBound_K X I hs hf (wpAny_mono h (fun v s' hv => ?_) fun _ _ e => e))
    cases v <;> first | exact hv.elim | exact wpAny_pure ⟨_, rfl, hv⟩
  have one : wpAny (model prog w) A (tryCompare (.int i t) (cmpInfo op).2.1 (.ref x)) (fun r s' => r = none ∧ s' = s) E s :=
    wpAny_tryCompare_declines (int_plain i t s) sl (call_meets sl (int_plain i t s) en (ar _ _) (de i t x) ⟨hp, rfl, rfl, rfl⟩)
  have hne : (Value.type "int" != Value.ref C) = true := by
    have : (Value.type "int" == Value.ref C) = false := Bool.eq_false_iff.mpr fun q => by cases beq_iff_eq.mp q
    simp [bne, this]
  unfold richCompare
  simp only [h1]
  refine wpAny_holding (wpAny_bind (wpAny_cRoomFor hu ?_))
  refine wpAny_bind ((Looks.of_pure (show typeOf (.int i t) = pure (.type "int") from rfl)).here (wpAny_bind (I.type.here ?_)))
  simp only [hne, if_true]
  refine wpAny_bind ((looks_subIn X hsub).here ?_)
  simp only [Bool.false_eq_true, if_false, Bool.not_false, if_true]
  refine wpAny_bind (wpAny_mono one (fun r s' z => ?_) fun _ _ e => e)
  obtain ⟨rfl, rfl⟩ := z
  refine wpAny_bind (wpAny_mono two (fun r s' z => ?_) fun _ _ e => e)
  obtain ⟨v, rfl, hq⟩ := z
  exact wpAny_pure hq
end
/-! ### a method run somewhere below the body -/
structure Und (X : Cx) (n : Nat) (A : Around) : Prop where
  room : Room n A
  fr : A.frames = X.A.frames
theorem Und.here {X : Cx} {n : Nat} (hr : Room n X.A) : Und X n X.A := ⟨hr, rfl⟩
theorem Und.in1 {X : Cx} {n : Nat} {A : Around} (u : Und X (n + 1) A) : Und X n A.in1 := ⟨u.room.in1, u.fr⟩
section
variable {X : Cx} {pins : List (Addr × Obj)} {σ : L2.St} {H : Hp} {s : Shared} {CX : CXT} {k : Nat} {ps : List Str} {sp : Sp} {E : XK} {C : Addr} {m : Str}
theorem run_at {f : Addr} {fd : FuncData} {A : Around} {vs : List V} {us : List Value} {Q : VK} (F : FnOk X.prog X.w X.K X.mg X.base CX k f fd ps sp) (hb : L2.Binds X.K fd ps []) (hx : Passes CX X E) (u : Und X k A) (I : Inv X pins σ H s) (r : Vals vs us) (hsp : sp vs H Q E) :
    wpAny (model X.prog X.w) A (call (.ref f) us) (EP X pins σ Q) X.xe s := by
  have e0 : Env0 X.prog X.w X.K X.mg X.base A X.stack s H := by
    have e := I.env0
    exact ⟨by rw [u.fr]; exact e.frames, e.mod, e.bs, e.bsz, e.funs, e.frf, e.hok, e.bare⟩
  have hl : (us ++ []).length = ps.length := by rw [List.append_nil, ← r.length]; exact F.len _ _ _ _ hsp
  have bd := hb s us I.kIn hl
  rw [List.append_nil] at bd
  refine wpAny_call (codeAny_mono (F.run A X.stack s H ⟨us, []⟩ us vs _ E u.room e0 bd r hsp) fun r s' hq => ?_)
  match r, hq with
  | .error e, hq => exact hx pins σ H s e s' I hq
  | .ok (.ret z), hq => exact I.after hq
  | .ok .next, hq => exact False.elim hq
  | .ok .brk, hq => exact False.elim hq
  | .ok .cont, hq => exact False.elim hq
theorem ep_back {Q : VK} {v : Value} {s' : Shared} (h : EP X pins σ Q v s') : PySem.W.CmpBack (EP X pins σ Q) v s' := by
  cases v with
  | notImplemented =>
    obtain ⟨zv, H', I', rz, q'⟩ := h
    cases zv <;> first | (cases rz; done) | (obtain ⟨_, rz⟩ := rz; cases rz)
  | _ => exact h
theorem ins_plain {a dx : Addr} {fs : List (Str × V)} (I : Inv X pins σ H s) (ha : H a = some (.ins C dx fs)) : ∃ (ox od : Obj), PySem.W.InstAt s.heap a ox C (some od) ∧ Plain s.heap a := by
  obtain ⟨mA, J, _⟩ := ins_get I.hok ha
  have g : Plain s.heap a := ⟨_, _, _, J.1⟩
  obtain ⟨od, J, _⟩ := J.look
  exact ⟨_, od, J, g⟩
/-- a two-place method of C beside an instance of C or an int -/
structure BinF (K : PySem.W.Frag) (C : Addr) (nm : String) : Prop where
  sf : PySem.W.selfFirst K C = true
  rc : ∃ rc, PySem.W.findIn K (.ref C) (dunderR nm) = some rc ∧ (rc = none ∨ ∃ g : Addr, rc = some (.ref g))
  i1 : ∃ fo, PySem.W.findIn K (.type "int") (PySem.dunder nm) = some fo
  i2 : ∃ ro, PySem.W.findIn K (.type "int") (dunderR nm) = some ro
  su : PySem.W.subIn K (.type "int") (.ref C) = some false
def OrInt (H : Hp) (C : Addr) (y : V) : Prop := (∃ b dy gs, y = .ref b ∧ H b = some (.ins C dy gs)) ∨ ∃ j, y = .int j
def rBinO (C : Addr) (sp : Sp) (E : XK) : R2 := fun x y H Q => ∃ a dx fs, x = .ref a ∧ H a = some (.ins C dx fs) ∧ OrInt H C y ∧ sp [x, y] H Q E
theorem op_binO {op : Operator} (M : CmpAt X.prog X.w X.K X.mg X.base CX k C m ps sp) (B : BinF X.K C op.info.2) (hr : Room k X.A) (hx : Passes CX X E) (hm : PySem.dunder op.info.2 = m := by rfl) : OpR X (binaryOp op) (rBinO C sp E) := by
  intro pins s σ H x y v u Q I rx ry h
  obtain ⟨f, fd, hs, hf, F, hb⟩ := M.ex
  obtain ⟨a, dx, fs, rfl, ha, oi, hsp⟩ := h
  obtain rfl : v = Value.ref a := rx
  obtain ⟨ox, od, J, _⟩ := ins_plain I ha
  obtain ⟨m', hF⟩ := I.fr
  subst hm
  have go : wpAny (model X.prog X.w) X.A (call (.ref f) [.ref a, u]) (PySem.W.CmpBack (EP X pins σ Q)) X.xe s := wpAny_mono (run_at (vs := [.ref a, y]) F hb hx (Und.here hr) I (.cons rfl (.cons ry .nil)) hsp) (fun _ _ z => ep_back z) fun _ _ z => z
  rcases oi with ⟨b, dy, gs, rfl, hb'⟩ | ⟨j, rfl⟩
  · obtain rfl : u = Value.ref b := ry
    obtain ⟨oy, od', J', _⟩ := ins_plain I hb'
    exact PySem.W.binop_K hF I.ok.mod.kin J J'.type B.sf hs hf go
  · obtain ⟨t, rfl⟩ := ry
    obtain ⟨rc, r1, r2⟩ := B.rc
    obtain ⟨fo, i1⟩ := B.i1
    obtain ⟨ro, i2⟩ := B.i2
    exact PySem.W.ksp_binT hF I.ok.mod.kin J rfl B.sf hs hf r1 r2 i1 i2 B.su go
/-- an int beside an instance: the reflected method -/
structure RefF (K : PySem.W.Frag) (C : Addr) (nm : String) : Prop where
  sf : PySem.W.selfFirst K C = true
  f0 : ∃ f : Addr, PySem.W.findIn K (.ref C) (PySem.dunder nm) = some (some (.ref f))
  ii : ∃ fo ro, PySem.W.findIn K (.type "int") (PySem.dunder nm) = some fo ∧ PySem.W.findIn K (.type "int") (dunderR nm) = some ro ∧ ((fo.isSome && !isSeqSlot fo) || (ro.isSome && !isSeqSlot ro)) = true
  su : PySem.W.subIn K (.ref C) (.type "int") = some false
def rBinR (C : Addr) (sp : Sp) (E : XK) : R2 := fun x y H Q => ∃ i b dy gs, x = .int i ∧ y = .ref b ∧ H b = some (.ins C dy gs) ∧ sp [y, x] H Q E
theorem op_binR {op : Operator} {id : String} {Bu : Builtin} (M : CmpAt X.prog X.w X.K X.mg X.base CX k C m ps sp) (S : IntSlot X.K op.info.2 id Bu) (B : RefF X.K C op.info.2) (hr : Room k X.A) (hx : Passes CX X E) (hm : dunderR op.info.2 = m := by rfl) : OpR X (binaryOp op) (rBinR C sp E) := by
  intro pins s σ H x y v u Q I rx ry h
  obtain ⟨f, fd, hs, hf, F, hb⟩ := M.ex
  obtain ⟨i, b, dy, gs, rfl, rfl, hb', hsp⟩ := h
  obtain rfl : u = Value.ref b := ry
  obtain ⟨t, rfl⟩ := rx
  obtain ⟨ox, od, J, pl⟩ := ins_plain I hb'
  obtain ⟨m', hF⟩ := I.fr
  subst hm
  obtain ⟨f0, h0⟩ := B.f0
  obtain ⟨fo, ro, i1, i2, i3⟩ := B.ii
  exact binR_K S hF I.ok.mod.kin J pl B.sf h0 hs hf i1 i2 i3 B.su (wpAny_mono (run_at (vs := [.ref b, .int i]) F hb hx (Und.here hr) I (.cons rfl (.cons ⟨t, rfl⟩ .nil)) hsp) (fun _ _ z => ep_back z) fun _ _ z => z)
theorem is_add {K : PySem.W.Frag} : IntSlot K (Operator.info .Add).2 "int.__add__" Builtin.«int.__add__» := ⟨PySem.F.slot_int_add, PySem.F.entry_int_add, PySem.F.args_int_add_2, dec_add⟩
theorem is_sub {K : PySem.W.Frag} : IntSlot K (Operator.info .Sub).2 "int.__sub__" Builtin.«int.__sub__» := ⟨PySem.F.slot_int_sub, PySem.F.entry_int_sub, PySem.F.args_int_sub_2, dec_sub⟩
theorem is_mul {K : PySem.W.Frag} : IntSlot K (Operator.info .Mult).2 "int.__mul__" Builtin.«int.__mul__» := ⟨PySem.F.slot_int_mul, PySem.F.entry_int_mul, PySem.F.args_int_mul_2, dec_mul⟩
/-- an int compared with an instance -/
def rCmpR (C : Addr) (sp : Sp) (E : XK) : R2 := fun x y H Q => ∃ i b dy gs, x = .int i ∧ y = .ref b ∧ H b = some (.ins C dy gs) ∧ sp [y, x] H Q E
theorem op_cmpRv {op : CmpOp} {id : String} {Bu : Builtin} (M : CmpAt X.prog X.w X.K X.mg X.base CX k C m ps sp) (su : PySem.W.subIn X.K (.ref C) (.type "int") = some false) (hr : Room k X.A) (hx : Passes CX X E) (hm : (cmpInfo op).2.2 = m) (hco : ∀ v u, compareOp op v u = richCompare op v u)
    (h1 : ∀ i t b, oneThing? op (.int i t) (.ref b) = none) (sl : Slot "int" (cmpInfo op).2.1 id) (en : entryFor table id = some Bu) (ar : ∀ a b : Value, argsOk id ⟨[a, b], []⟩) (de : ∀ a t l, Declines Bu a t l) : OpR X (compareOp op) (rCmpR C sp E) := by
  intro pins s σ H x y v u Q I rx ry h
  obtain ⟨f, fd, hs, hf, F, hb⟩ := M.ex
  obtain ⟨i, b, dy, gs, rfl, rfl, hb', hsp⟩ := h
  obtain rfl : u = Value.ref b := ry
  obtain ⟨t, rfl⟩ := rx
  obtain ⟨ox, od, J, pl⟩ := ins_plain I hb'
  obtain ⟨m', hF⟩ := I.fr
  subst hm
  rw [hco]
  exact cmpR_K hr.units0 sl en ar de hF I.ok.mod.kin J pl hs hf su (wpAny_mono (run_at (vs := [.ref b, .int i]) F hb hx (Und.here hr) I (.cons rfl (.cons ⟨t, rfl⟩ .nil)) hsp) (fun _ _ z => ep_back z) fun _ _ z => z) (h1 i t b)
theorem op_ltR (M : CmpAt X.prog X.w X.K X.mg X.base CX k C "__gt__" ps sp) (su : PySem.W.subIn X.K (.ref C) (.type "int") = some false) (hr : Room k X.A) (hx : Passes CX X E) : OpR X (compareOp .Lt) (rCmpR C sp E) := op_cmpRv M su hr hx rfl (fun _ _ => rfl) (fun _ _ _ => rfl) PySem.F.slot_int_lt PySem.F.entry_int_lt PySem.F.args_int_lt_2 dec_lt
theorem op_leR (M : CmpAt X.prog X.w X.K X.mg X.base CX k C "__ge__" ps sp) (su : PySem.W.subIn X.K (.ref C) (.type "int") = some false) (hr : Room k X.A) (hx : Passes CX X E) : OpR X (compareOp .LtE) (rCmpR C sp E) := op_cmpRv M su hr hx rfl (fun _ _ => rfl) (fun _ _ _ => rfl) PySem.F.slot_int_le PySem.F.entry_int_le PySem.F.args_int_le_2 dec_le
theorem op_gtR (M : CmpAt X.prog X.w X.K X.mg X.base CX k C "__lt__" ps sp) (su : PySem.W.subIn X.K (.ref C) (.type "int") = some false) (hr : Room k X.A) (hx : Passes CX X E) : OpR X (compareOp .Gt) (rCmpR C sp E) := op_cmpRv M su hr hx rfl (fun _ _ => rfl) (fun _ _ _ => rfl) PySem.F.slot_int_gt PySem.F.entry_int_gt PySem.F.args_int_gt_2 dec_gt
theorem op_geR (M : CmpAt X.prog X.w X.K X.mg X.base CX k C "__le__" ps sp) (su : PySem.W.subIn X.K (.ref C) (.type "int") = some false) (hr : Room k X.A) (hx : Passes CX X E) : OpR X (compareOp .GtE) (rCmpR C sp E) := op_cmpRv M su hr hx rfl (fun _ _ => rfl) (fun _ _ _ => rfl) PySem.F.slot_int_ge PySem.F.entry_int_ge PySem.F.args_int_ge_2 dec_ge
/-- - of an instance -/
def rNegO (C : Addr) (sp : Sp) (E : XK) : V → Hp → VK → Prop := fun x H Q => ∃ a dx fs, x = .ref a ∧ H a = some (.ins C dx fs) ∧ sp [x] H Q E
theorem un_negO (M : CmpAt X.prog X.w X.K X.mg X.base CX k C "__neg__" ps sp) (hr : Room k X.A) (hx : Passes CX X E) : UnR X (unaryOp .USub) (rNegO C sp E) := by
  intro pins s σ H x v Q I rx h
  obtain ⟨f, fd, hs, hf, F, hb⟩ := M.ex
  obtain ⟨a, dx, fs, rfl, ha, hsp⟩ := h
  obtain rfl : v = Value.ref a := rx
  obtain ⟨ox, od, J, _⟩ := ins_plain I ha
  obtain ⟨m', hF⟩ := I.fr
  exact PySem.W.ksp_neg hF I.ok.mod.kin J hs hf (run_at (vs := [.ref a]) F hb hx (Und.here hr) I (.cons rfl .nil) hsp)
/-- str(x) of an instance with its own __str__ -/
def rStrO (C : Addr) (sp : Sp) (E : XK) : List V → Hp → VK → Prop := fun xs H Q => ∃ a dx fs, xs = [.ref a] ∧ H a = some (.ins C dx fs) ∧ sp [.ref a] H (fun v H' => ∃ x, v = .str x ∧ Q v H') E
theorem call_strO (M : CmpAt X.prog X.w X.K X.mg X.base CX k C "__str__" ps sp) (hr : Room (k + 2) X.A) (hx : Passes CX X E) : CallR X (.type "str") (rStrO C sp E) := by
  intro pins s σ H xs us Q I r h
  obtain ⟨f, fd, hs, hf, F, hb⟩ := M.ex
  obtain ⟨a, dx, fs, rfl, ha, hsp⟩ := h
  obtain ⟨u, rfl, r1⟩ := vals1 r
  obtain rfl : u = Value.ref a := r1
  obtain ⟨ox, od, J, _⟩ := ins_plain I ha
  have U : Und X k X.A.in1.in1 := (Und.here hr).in1.in1
  refine PySem.W.kso_call U.room.units0 (I.kIn) J hs hf (wpAny_mono (run_at (vs := [.ref a]) F hb hx U I (.cons rfl .nil) hsp) (fun v s' z => ?_) fun _ _ z => z)
  obtain ⟨z, H', I', rz, x, rfl, q⟩ := z
  obtain ⟨t, rfl⟩ := rz
  exact ⟨.str x, H', I', ⟨t, rfl⟩, q⟩
end
end My
/-! != by an own ==. -/
namespace My
open PySem PySem.Spec PySem.Calls PyProof.Rows L2
theorem slot_one : Slot "object" "__ne__" "object.__ne__" :=
  .of (owner := "object") (n := "__ne__") (by rw [typeLookup_type, builtinLookup_eq_fast]; kernel_rfl) (by decide +kernel) (by decide +kernel) (by decide +kernel) (.inl (by decide +kernel)) (by rw [isSubtype_type]; kernel_rfl)
section
open PySem.W
variable {prog : Program} {w : World} {A : Around} {E : Value → Shared → Prop} {s : Shared} {K : Frag} {x C L f : Addr} {h₀ : Heap} {m : Str → Option Value} {ox : Obj} {od : Option Obj} {b tb : Value}
/-- what an own == hands back, turned about -/
def NotBack (Q : Value → Shared → Prop) (v : Value) (s' : Shared) : Prop := ∃ c, v = .bool c ∧ Q (.bool (!c)) s'
theorem one_call {Q : Value → Shared → Prop} (hu : A.in1.units < cLine) (X : K.In s.heap) (I : InstAt s.heap x ox C od) (hm : mroIn K C (.type "object") = some true) (hs : findIn K (.ref C) "__eq__" = some (some (.ref f))) (hf : isFn K (.ref f) = true)
    (h : wpAny (model prog w) A.in1 (call (.ref f) [.ref x, b]) (NotBack Q) E s) : wpAny (model prog w) A (call (.builtin "object.__ne__") [.ref x, b]) Q E s := by
  refine wpAny_call (codeAny_call_builtin slot_one.plain PySem.F.cmpEntry_ne (check_slot (i := "object.__ne__") (owner := "object") (n := "__ne__") PySem.F.cmpKind_ne PySem.F.cmpSplit_ne (I.type.andThen (looks_mroIn X hm)) (PySem.F.cmpArgs_ne _ _) ?_))
  unfold Builtin.«object.__ne__»
  refine wpAny_bind (m := slotArgs "__ne__" 1 _) (wpAny_pure ?_)
  refine wpAny_bind (m := cRoomFor _ _) (wpAny_cRoomFor hu ?_)
  refine wpAny_bind (m := callSpecialIfBound? (.ref x) (Str.ofString "__eq__") _) (ifBound_K X I hs hf (wpAny_mono h (fun r s' hq => ?_) fun _ _ y => y))
  obtain ⟨c, rfl, hq⟩ := hq
  refine wpAny_bind (m := truthy (.bool c)) (wpAny_truthy_bool ?_)
  exact wpAny_pure hq
theorem ne_K {Q : Value → Shared → Prop} (hu : A.units < cLine) (hu1 : A.in1.units < cLine) (F : Fr h₀ L s.heap m) (X₀ : K.In h₀) (I : InstAt s.heap x ox C od) (hb : Looks (model prog w) s.heap (typeOf b) tb) (hn : notFirst K C tb = true)
    (hm : mroIn K C (.type "object") = some true) (h1 : findIn K (.ref C) "__ne__" = some (some (.builtin "object.__ne__"))) (hs : findIn K (.ref C) "__eq__" = some (some (.ref f))) (hf : isFn K (.ref f) = true)
    (h : wpAny (model prog w) A.in1 (call (.ref f) [.ref x, b]) (NotBack Q) E s) : wpAny (model prog w) A (richCompare .NotEq (.ref x) b) Q E s := by
  have X := X₀.keeps F.keep
  have one : wpAny (model prog w) A (tryCompare (.ref x) "__ne__" b) (fun r s' => ∃ v, r = some v ∧ Q v s') E s := by
    unfold tryCompare
    refine wpAny_bind ?_
    simp only [callSpecialIfBound?, bindSpecialIfBound?]
    refine wpAny_holding (wpAny_bind (wpAny_bind (wpAny_bind (I.type.here ((looks_findIn X h1).here ?_)))))
    refine wpAny_bind (wpAny_askSetting (wpAny_ite ?_))
    have fin : wpAny (model prog w) A (call (.builtin "object.__ne__") ([.ref x] ++ [b]) >>= fun v => pure (some v)) (fun r s' => wpAny (model prog w) A (match r with | some .notImplemented | none => pure none | some v => pure (some v)) (fun r s' => ∃ v, r = some v ∧ Q v s') E s') E s := by
      refine wpAny_bind (one_call hu1 X I hm hs hf (wpAny_mono h (fun v s' z => ?_) fun _ _ z => z))
      obtain ⟨c, rfl, hq⟩ := z
      exact ⟨c, rfl, wpAny_pure (wpAny_pure ⟨_, rfl, hq⟩)⟩
    split
    · exact wpAny_bind ((Looks.of_pure (slot_one.bind (.ref x))).here (wpAny_pure (by exact fin)))
    · exact wpAny_tryCatch (wpAny_bind ((Looks.of_pure (slot_one.bind (.ref x))).here (wpAny_pure (by exact fin))))
  unfold richCompare
  simp only [oneThing_ref]
  refine wpAny_holding (wpAny_bind (wpAny_cRoomFor hu ?_))
  refine wpAny_bind (I.type.here (wpAny_bind (hb.here ?_)))
  split
  · rename_i q
    have e : subIn K tb (.ref C) = some false := by
      rcases Bool.or_eq_true_iff.mp hn with e | e
      · rw [beq_iff_eq.mp e] at q; simp at q
      · exact beq_iff_eq.mp e
    refine wpAny_bind ((looks_subIn X e).here ?_)
    simp only [Bool.false_eq_true, if_false]
    refine wpAny_bind (wpAny_mono one (fun r s' z => ?_) fun _ _ e => e)
    obtain ⟨v, rfl, hq⟩ := z
    exact wpAny_pure hq
  · refine wpAny_bind (wpAny_pure ?_)
    simp only [Bool.false_eq_true, if_false]
    refine wpAny_bind (wpAny_mono one (fun r s' z => ?_) fun _ _ e => e)
    obtain ⟨v, rfl, hq⟩ := z
    exact wpAny_pure hq
end
section
variable {X : Cx} {CX : CXT} {k : Nat} {ps : List Str} {sp : Sp} {E : XK} {C : Addr}
def rNeO (K : PySem.W.Frag) (C : Addr) (sp : Sp) (E : XK) : R2 := fun x y H Q => ∃ a dx fs t, x = .ref a ∧ H a = some (.ins C dx fs) ∧ TyX K H y t ∧ PySem.W.notFirst K C t = true ∧ sp [.ref a, y] H (fun v H' => ∃ b, v = .bl b ∧ Q (.bl (!b)) H') E
theorem op_neO (M : CmpAt X.prog X.w X.K X.mg X.base CX k C "__eq__" ps sp) (hm : PySem.W.mroIn X.K C (.type "object") = some true) (h1 : PySem.W.findIn X.K (.ref C) "__ne__" = some (some (.builtin "object.__ne__"))) (hr : Room (k + 1) X.A) (hx : Passes CX X E) : OpR X (compareOp .NotEq) (rNeO X.K C sp E) := by
  intro pins s σ H x y v u Q I rx ry h
  obtain ⟨f, fd, hs, hf, F, hb⟩ := M.ex
  obtain ⟨a, dx, fs, t, rfl, ha, ty, hn, hsp⟩ := h
  obtain rfl : v = Value.ref a := rx
  obtain ⟨ox, od, J, _⟩ := ins_plain I ha
  obtain ⟨m', hF⟩ := I.fr
  obtain ⟨Pz, Z, pz, _⟩ := kit_of I ry ty
  have U : Und X k X.A.in1 := (Und.here hr).in1
  refine ne_K hr.units0 U.room.units0 hF I.ok.mod.kin J (Z.ty _ _ I.kIn pz) hn hm h1 hs hf (wpAny_mono (run_at (vs := [.ref a, y]) F hb hx U I (.cons rfl (.cons ry .nil)) hsp) (fun v s' z => ?_) fun _ _ z => z)
  obtain ⟨z, H', I', rz, b, rfl, q⟩ := z
  obtain rfl : v = Value.bool b := rz
  exact ⟨b, rfl, .bl (!b), H', I', rfl, q⟩
end
end My
/-! Static methods by the class's name; ints divided by ints of any sign; lists beside the empty one. -/
namespace My
open PySem PySem.Spec PySem.Calls PyProof.Rows L2
/-- C.m is a staticmethod with the def at f -/
structure Stat (K : PySem.W.Frag) (C : Addr) (m : Str) (f : Addr) : Prop where
  ga : PySem.W.specialIn K (.ref C) "__getattribute__" = some (some (.builtin "type.__getattribute__"))
  rc : ∃ (mc : Value) (p : Addr) (rest : List Value), PySem.W.readsIn K C mc = true ∧ PySem.W.findCls K (.ref C) mc m = some (.get (.builtin "staticmethod.__get__") (.ref p) .none (.ref C)) ∧ PySem.W.recIn K p "staticmethod" = some (.ref f :: rest)
  kp : PySem.W.keepIn K (.ref f) = true
structure StatAt (P : Program) (w : World) (K : PySem.W.Frag) (mg : Str → Option Value) (base : Heap) (CX : CXT) (k : Nat) (C : Addr) (m : Str) (ps : List Str) (sp : Sp) : Prop where
  ex : ∃ f fd, Stat K C m f ∧ FnOk P w K mg base CX k f fd ps sp ∧ L2.Binds K fd ps []
structure StatK (P : Program) (w : World) (K : PySem.W.Frag) (mg : Str → Option Value) (base : Heap) (CX : CXT) (k : Nat) (C : Addr) (m : Str) (ps ks : List Str) (sp : Sp) (gV : List V → List V → List V) : Prop where
  ex : ∃ f fd g, Stat K C m f ∧ FnOk P w K mg base CX k f fd ps sp ∧ KBn K fd ps 0 ks g gV
section
variable {X : Cx} {CX : CXT} {k : Nat} {C : Addr} {ps ks : List Str} {sp : Sp} {E : XK} {m : Str} {e o : Expr} {es : List Expr} {kws : List Keyword} {t tk : TA} {ta : TE} {pos apos : Pos} {gV : List V → List V → List V}
theorem getstat_ok {pins : List (Addr × Obj)} {σ : L2.St} {H : Hp} {s : Shared} {f : Addr} {pl : Sem Bool} {A : Around} {Er : Value → Shared → Prop} {Q : Value × List Value → Shared → Prop} (I : Inv X pins σ H s) (c : Stat X.K C m f) (h : ∀ s', Inv X pins σ H s' → Q (.ref f, []) s') : wpAny (model X.prog X.w) A (getMethod (.ref C) m pl) Q Er s := by
  obtain ⟨mc, p, rest, h1, h2, h3⟩ := c.rc
  refine PySem.W.method_cls I.kIn c.ga (PySem.W.cls_bind I.kIn h1 h2 ?_)
  exact wpAny_call (PySem.W.sm_get (s := { s with toks := s.toks + 1 }) I.kIn h3 (PySem.W.handed_on rfl (h _ (I.tok _))))
def tStat (C : Addr) (sp : Sp) (E : XK) (ta : TE) (t : TA) : TE := fun σ H Q => ta σ H fun x H1 => x = .ref C ∧ t σ H1 fun vs H2 => sp vs H2 Q E
theorem pe_st {pl : Sem Bool} (M : StatAt X.prog X.w X.K X.mg X.base CX k C m ps sp) (hr : Room k X.A) (hx : Passes CX X E) (he : PE X o ta) (ha : PA X (e :: es) t)
    (hst : starEach (e :: es) X.env = (false, eval e X.env) :: starEach es X.env := by rfl) (hpl : (backTo pos (starEach es X.env)).any (·.1) = false := by rfl)
    (ht : eval (.Call (.Attribute o m apos) (e :: es) [] pos) X.env = (do
      let ov ← eval o X.env
      standAt apos.atName
      let (f, first) ← holding [ov] (getMethod ov m pl)
      callWith pos f first (backTo pos (starEach (e :: es) X.env)) (backToKw pos (keywordEach [] X.env))) := by rfl) :
    PE X (.Call (.Attribute o m apos) (e :: es) [] pos) (tStat C sp E ta t) := by
  obtain ⟨f, fd, c, F, b⟩ := M.ex
  refine ⟨fun pins s σ H Q I h => ?_⟩
  refine PySem.W.methodCall_KW (pl := pl) (thn (he.run pins s σ H _ I h) fun u s1 ⟨x, H1, I1, rx, ex, q⟩ => ?_) ht
  subst ex
  obtain rfl : u = Value.ref C := rx
  refine getstat_ok I1 c fun s1 I1 => ?_
  refine PySem.W.callWith_K (first := []) (h₀ := X.base) I.ok.mod.kin c.kp (thn (ha.run pos pins s1 σ H1 _ I1 q) fun us s2 ⟨vs, H2, I2, r, q2⟩ => ⟨I2.kIn, ?_⟩) hst hpl
  exact run_fn (us := us) (vs := vs) F hr b .nil hx I2 r (by rw [List.append_nil]; exact q2)
def tStatK (C : Addr) (j : Nat) (sp : Sp) (gV : List V → List V → List V) (E : XK) (ta : TE) (tk : TA) : TE := fun σ H Q => ta σ H fun x H1 => x = .ref C ∧ tk σ H1 fun zs H2 => zs.length = j ∧ sp (gV [] zs) H2 Q E
theorem pe_stK {pl : Sem Bool} (M : StatK X.prog X.w X.K X.mg X.base CX k C m ps ks sp gV) (hr : Room k X.A) (hx : Passes CX X E) (he : PE X o ta) (hkw : PK X kws tk)
    (hall : (backToKw pos (keywordEach kws X.env)).all (·.1.isSome) = true := by rfl) (hks : (backToKw pos (keywordEach kws X.env)).filterMap (·.1) = ks := by rfl)
    (hpl : ((backTo pos (starEach [] X.env)).any (·.1) || (backToKw pos (keywordEach kws X.env)).any (·.1.isNone)) = false := by rfl)
    (ht : eval (.Call (.Attribute o m apos) [] kws pos) X.env = (do
      let ov ← eval o X.env
      standAt apos.atName
      let (f, first) ← holding [ov] (getMethod ov m pl)
      callWith pos f first (backTo pos (starEach [] X.env)) (backToKw pos (keywordEach kws X.env))) := by rfl) :
    PE X (.Call (.Attribute o m apos) [] kws pos) (tStatK C ks.length sp gV E ta tk) := by
  obtain ⟨f, fd, g, c, F, b⟩ := M.ex
  refine ⟨fun pins s σ H Q I h => ?_⟩
  refine PySem.W.methodCall_KW (pl := pl) (thn (he.run pins s σ H _ I h) fun u s1 ⟨x, H1, I1, rx, ex, q⟩ => ?_) ht
  subst ex
  obtain rfl : u = Value.ref C := rx
  refine getstat_ok I1 c fun s1 I1 => ?_
  refine PySem.W.callWith_KW0 (first := []) (h₀ := X.base) I.ok.mod.kin c.kp hall (thn (hkw.run pos pins s1 σ H1 _ I1 q) fun ws s2 ⟨zs, H2, I2, rz, l2, q2⟩ => ⟨I2.kIn, ?_⟩) hpl
  rw [hks]
  exact run_fnN (us := []) (vs := []) F hr b hx I2 .nil rz rfl l2 q2
/-! ### // and % by any int but 0 -/
def CDivX (_ j : Int) : Prop := j ≠ 0 ∧ j.natAbs.log2 < 9000
theorem op_fdivX : OpR X (binaryOp .FloorDiv) (rI CDivX fun i j => .int (i.fdiv j)) := opI fun _ _ _ _ _ _ _ hc q => floordiv_int hc.1 q (.inl (PyProof.noPylong_of_log2 hc.2))
/-! ### lists of unlike lengths -/
def rEqL : R2 := fun x y H Q => ∃ l b xs ys, x = .ref l ∧ y = .ref b ∧ H l = some (.lst xs) ∧ H b = some (.lst ys) ∧ xs.length ≠ ys.length ∧ Q (.bl false) H
theorem op_eqL (hu : X.A.units < cLine) : OpR X (compareOp .Eq) rEqL := by
  intro pins s σ H x y v u Q I rx ry h
  obtain ⟨l, b, xs, ys, rfl, rfl, h1, h2, hn, q⟩ := h
  obtain rfl : v = Value.ref l := rx
  obtain rfl : u = Value.ref b := ry
  obtain ⟨z, its, n, r, hl, e⟩ := I.lstM h1
  obtain ⟨z2, its2, n2, r2, hl2, e2⟩ := I.lstM h2
  have hs : (its.toArray.size != its2.toArray.size) = true := by
    have a1 := r.length
    have a2 := r2.length
    simp only [List.size_toArray, bne_iff_ne, ne_eq]
    omega
  show wpAny (model X.prog X.w) X.A (richCompare .Eq (.ref l) (.ref b)) _ _ s
  refine wpAny_richCompare_same_room (op := .Eq) ⟨_, e, rfl⟩ ⟨_, e2, rfl⟩ PySem.F.slot_list_eq (call_meets PySem.F.slot_list_eq ⟨_, e, rfl⟩ PySem.F.entry_list_eq (PySem.F.args_list_eq_2 _ _) (AutoSeq1.list___eq___list_list_0 l its.toArray n b its2.toArray n2 hs) ⟨e, e2, ?_⟩) hu
  exact ⟨(fun x => nomatch x), .bl false, H, I, rfl, q⟩
end
end My
/-! The order of two pairs of ints; two promises of one def. -/
namespace My
open PySem PySem.Spec PySem.Calls PyProof.Rows L2
def ordP (r : Int → Int → Bool) (z : Bool) (a b c d : Int) : Bool := if a = c then (if b = d then z else r b d) else r a c
def rOrd (K : PySem.W.Frag) (r : Int → Int → Bool) (z : Bool) : R2 := fun x y H Q => ∃ (l m : Addr) (a b c d : Int), x = .ref l ∧ y = .ref m ∧ SqT K H l [.int a, .int b] ∧ SqT K H m [.int c, .int d] ∧ Q (.bl (ordP r z a b c d)) H
theorem int_here {s : Shared} {A : Around} (a c : Int) (t u : Tok) : SeqAt.EqAt A s (.int a t) (.int c u) (decide (a = c)) := by
  have e : (a == c) = decide (a = c) := by
    by_cases q : a = c
    · rw [decide_eq_true q]; exact beq_iff_eq.mpr q
    · rw [decide_eq_false q]; exact beq_eq_false_iff_ne.mpr q
  rw [← e]
  exact SeqAt.EqAt.int_int _ _ _ _
theorem op_ordV {X : Cx} {op : CmpOp} {r : Int → Int → Bool} {z : Bool} (hco : ∀ v u, compareOp op v u = richCompare op v u)
    (tup : ∀ {A : Around} {s : Shared} {l b : Addr} {is js : Array Value} {e r : Nat → Bool}, s.heap.IsTuple l is → s.heap.IsTuple b js → A.units < cLine → is.size = 2 → js.size = 2 → (∀ j (h1 : j < is.size) (h2 : j < js.size), SeqAt.EqAt A.in1 s is[j] js[j] (e j)) →
      (∀ j (h1 : j < is.size) (h2 : j < js.size), e j = false → Ob.RcOp op A.in1 s is[j] js[j] (r j)) → Ob.RcOp op A s (.ref l) (.ref b) (Ob.lexAt e r z 0 2))
    (int : ∀ {A : Around} {s : Shared} (a b : Int) (t u : Tok), Ob.RcOp op A s (.int a t) (.int b u) (r a b)) (hu : X.A.units < cLine) : OpR X (compareOp op) (rOrd X.K r z) := by
  intro pins s σ H x y v u Q I rx ry h
  obtain ⟨l, m, a, b, c, d, rfl, rfl, hl, hm, q⟩ := h
  obtain rfl : v = Value.ref l := rx
  obtain rfl : u = Value.ref m := ry
  obtain ⟨is, r1, p1, _⟩ := I.tuple hl
  obtain ⟨js, r2, p2, _⟩ := I.tuple hm
  cases r1 with
  | cons ra r1 =>
    cases r1 with
    | cons rb r1 =>
      cases r1
      cases r2 with
      | cons rc r2 =>
        cases r2 with
        | cons rd r2 =>
          cases r2
          obtain ⟨ta, rfl⟩ := ra
          obtain ⟨tb, rfl⟩ := rb
          obtain ⟨tc, rfl⟩ := rc
          obtain ⟨td, rfl⟩ := rd
          have R := tup (A := X.A) (s := s) (e := fun j => if j = 0 then decide (a = c) else decide (b = d)) (r := fun j => if j = 0 then r a c else r b d) p1 p2 hu rfl rfl (fun j h1 h2 => by
            match j, h1 with
            | 0, _ => exact int_here a c ta tc
            | 1, _ => exact int_here b d tb td) (fun j h1 h2 _ => by
            match j, h1 with
            | 0, _ => exact int a c ta tc
            | 1, _ => exact int b d tb td)
          rw [hco]
          refine R X.prog X.w X.xe (EP X pins σ Q) ⟨.bl _, H, I, rfl, ?_⟩
          have e : Ob.lexAt (fun j => if j = 0 then decide (a = c) else decide (b = d)) (fun j => if j = 0 then r a c else r b d) z 0 2 = ordP r z a b c d := by
            unfold ordP
            simp only [Ob.lexAt_succ, Ob.lexAt_zero]
            by_cases h1 : a = c
            · by_cases h2 : b = d
              · simp [h1, h2]
              · simp [h1, h2]
            · simp [h1]
          rw [e]
          exact q
section
variable {X : Cx}
theorem op_ltP (hu : X.A.units < cLine) : OpR X (compareOp .Lt) (rOrd X.K (fun i j => decide (i < j)) false) := op_ordV (fun _ _ => rfl) (fun {A s l b is js e r} h1 h2 h3 h4 h5 h6 h7 => by have z := Ob.RcOp.tuples_lt h1 h2 h3 h6 h7; rw [h4, h5] at z; exact z) (fun a b t u => Ob.RcOp.lt_int a b t u) hu
theorem op_leP (hu : X.A.units < cLine) : OpR X (compareOp .LtE) (rOrd X.K (fun i j => decide (i ≤ j)) true) := op_ordV (fun _ _ => rfl) (fun {A s l b is js e r} h1 h2 h3 h4 h5 h6 h7 => by have z := Ob.RcOp.tuples_le h1 h2 h3 h6 h7; rw [h4, h5] at z; exact z) (fun a b t u => Ob.RcOp.le_int a b t u) hu
theorem op_gtP (hu : X.A.units < cLine) : OpR X (compareOp .Gt) (rOrd X.K (fun i j => decide (j < i)) false) := op_ordV (fun _ _ => rfl) (fun {A s l b is js e r} h1 h2 h3 h4 h5 h6 h7 => by have z := Ob.RcOp.tuples_gt h1 h2 h3 h6 h7; rw [h4, h5] at z; exact z) (fun a b t u => Ob.RcOp.gt_int a b t u) hu
theorem op_geP (hu : X.A.units < cLine) : OpR X (compareOp .GtE) (rOrd X.K (fun i j => decide (j ≤ i)) true) := op_ordV (fun _ _ => rfl) (fun {A s l b is js e r} h1 h2 h3 h4 h5 h6 h7 => by have z := Ob.RcOp.tuples_ge h1 h2 h3 h6 h7; rw [h4, h5] at z; exact z) (fun a b t u => Ob.RcOp.ge_int a b t u) hu
end
/-! ### within a comprehension -/
theorem op_cmpB {X : Cx} {K : PySem.W.Frag} {CX : CXT} {k : Nat} {C : Addr} {m : Str} {ps : List Str} {sp : Sp} {E : XK} {op : CmpOp} (hK : X.K = K) (M : CmpAt X.prog X.w X.K X.mg X.base CX k C m ps sp) (hr : Room k X.A) (hx : Passes CX X E) (hop : (cmpInfo op).2.1 = m := by rfl)
    (hco : ∀ v u, compareOp op v u = richCompare op v u := by intro _ _; rfl) : OpR X (compareOp op) (rCmpO K C sp E) := by
  subst hK
  exact op_cmpO M hr hx hop hco
/-! ### a def that keeps two promises -/
def spOr (s1 s2 : Sp) : Sp := fun vs H Q E => s1 vs H Q E ∨ s2 vs H Q E
section
variable {P : Program} {w : World} {K : PySem.W.Frag} {mg : Str → Option Value} {base : Heap} {CX : CXT} {k : Nat} {f : Addr} {fd : FuncData} {ps : List Str} {s1 s2 : Sp}
theorem ok_or (h1 : FnOk P w K mg base CX k f fd ps s1) (h2 : FnOk P w K mg base CX k f fd ps s2) : FnOk P w K mg base CX k f fd ps (spOr s1 s2) :=
  ⟨fun vs H Q E h => h.elim (h1.len vs H Q E) (h2.len vs H Q E), fun A outer s H args us vs Q E hr e0 hb r h => h.elim (h1.run A outer s H args us vs Q E hr e0 hb r) (h2.run A outer s H args us vs Q E hr e0 hb r)⟩
theorem okG_or (h1 : FnG P w K mg base CX k f fd ps s1) (h2 : FnG P w K mg base CX k f fd ps s2) : FnG P w K mg base CX k f fd ps (spOr s1 s2) :=
  ⟨fun vs H Q E h => h.elim (h1.len vs H Q E) (h2.len vs H Q E), fun A outer s H args us vs Q E hg hr e0 hb r h => h.elim (h1.run A outer s H args us vs Q E hg hr e0 hb r) (h2.run A outer s H args us vs Q E hg hr e0 hb r)⟩
end
end My
/-! Signs in place; an instance called by keywords; what a comprehension may hold. -/
namespace My
open PySem PySem.Spec PySem.Calls PyProof.Rows L2
section
open PySem.W
variable {prog : Program} {w : World} {M : Model} {A : Around} {E : Value → Shared → Prop} {s : Shared} {K : Frag} {x C L f : Addr} {h₀ : Heap} {m : Str → Option Value} {ox : Obj} {od : Option Obj} {nm : String}
/-- beside one of its own class -/
theorem bin1_S {b : Value} {Q : Value → Shared → Prop} (X : K.In s.heap) (I : InstAt s.heap x ox C od) (hb : Looks (model prog w) s.heap (typeOf b) (.ref C)) (hc : selfFirst K C = true) (hs : findIn K (.ref C) (PySem.dunder nm) = some (some (.ref f))) (hf : isFn K (.ref f) = true)
    (h : wpAny (model prog w) A (call (.ref f) [.ref x, b]) (PySem.W.CmpBack Q) E s) : wpAny (model prog w) A (binaryOp1 nm (.ref x) b) (fun r s' => ∃ v, r = some v ∧ Q v s') E s := by
  obtain ⟨cd, rest, hcd, hm⟩ := ksp_first hc
  have one := ksp_try X I hs hf h
  obtain ⟨hh, g, d, tt, os⟩ := s
  have L1 : Looks (model prog w) hh (typeOf (.ref x)) (.ref C) := I.type
  have L2 : Looks (model prog w) hh (typeOf b) (.ref C) := hb
  have L3 : Looks (model prog w) hh (fillsNumberSlot (.ref C) nm) true := fills_K X hcd hm hs
  unfold binaryOp1
  refine wpAny_bind (L1.at (wpAny_bind (L2.at (wpAny_bind (L3.at ?_)))))
  simp only [beq_self_eq_true, if_true]
  ksp_lk
  refine wpAny_mono one (fun r s' hr' => ?_) fun _ _ e => e
  obtain ⟨v, rfl, hq⟩ := hr'
  ksp_lk
  exact ⟨v, rfl, hq⟩
/-- beside a value of a built-in type -/
theorem bin1_T {T : String} {b : Value} {fo ro rc : Option Value} {Q : Value → Shared → Prop} (X : K.In s.heap) (I : InstAt s.heap x ox C od) (hb : typeOf b = pure (.type T)) (hc : selfFirst K C = true)
    (hs : findIn K (.ref C) (PySem.dunder nm) = some (some (.ref f))) (hf : isFn K (.ref f) = true) (hr : findIn K (.ref C) (dunderR nm) = some rc) (hp : rc = none ∨ ∃ g : Addr, rc = some (.ref g))
    (h1 : findIn K (.type T) (PySem.dunder nm) = some fo) (h2 : findIn K (.type T) (dunderR nm) = some ro) (hsub : subIn K (.type T) (.ref C) = some false)
    (h : wpAny (model prog w) A (call (.ref f) [.ref x, b]) (PySem.W.CmpBack Q) E s) : wpAny (model prog w) A (binaryOp1 nm (.ref x) b) (fun r s' => ∃ v, r = some v ∧ Q v s') E s := by
  obtain ⟨cd, rest, hcd, hm⟩ := ksp_first hc
  have one := ksp_try X I hs hf h
  obtain ⟨hh, g, d, tt, os⟩ := s
  have L1 : Looks (model prog w) hh (typeOf (.ref x)) (.ref C) := I.type
  have L2 : Looks (model prog w) hh (typeOf b) (.type T) := Looks.of_pure hb
  have L3 : Looks (model prog w) hh (fillsNumberSlot (.ref C) nm) true := fills_K X hcd hm hs
  have L4 : Looks (model prog w) hh (fillsNumberSlot (.type T) nm) ((fo.isSome && !isSeqSlot fo) || (ro.isSome && !isSeqSlot ro)) := ksp_fillsT X h1 h2
  have L5 : Looks (model prog w) hh (isSubtype (.type T) (.ref C)) false := looks_subIn X hsub
  have L6 : Looks (model prog w) hh (numberSlotInPython (.ref C) nm) true := ksp_inPy X hs hr hp
  have L7 : Looks (model prog w) hh (numberSlotInPython (.type T) nm) false := Looks.of_pure rfl
  have L8 : Looks (model prog w) hh (typeLookup (.type T) (dunderR nm)) ro := looks_findIn X h2
  generalize ((fo.isSome && !isSeqSlot fo) || (ro.isSome && !isSeqSlot ro)) = right at L4
  have hne : (Value.ref C == Value.type T) = false := Bool.eq_false_iff.mpr fun q => by cases beq_iff_eq.mp q
  unfold binaryOp1
  refine wpAny_bind (L1.at (wpAny_bind (L2.at (wpAny_bind (L3.at ?_)))))
  simp only [hne, Bool.false_eq_true, if_false]
  cases right with
  | false =>
    ksp_lk
    refine wpAny_mono one (fun r s' hr' => ?_) fun _ _ e => e
    obtain ⟨v, rfl, hq⟩ := hr'
    ksp_lk
    exact ⟨v, rfl, hq⟩
  | true =>
    ksp_lk
    refine wpAny_mono one (fun r s' hr' => ?_) fun _ _ e => e
    obtain ⟨v, rfl, hq⟩ := hr'
    ksp_lk
    exact ⟨v, rfl, hq⟩
/-- the class has no slot in place -/
theorem noInplace {h : Heap} {cd : ClassData} {add : Bool} (X : K.In h) (hc : clsIn K C = some cd) (hm : cd.mro = [.ref C, .type "object"]) (h1 : findIn K (.ref C) (dunderI nm) = some none) (h2 : findIn K (.type "object") (dunderI nm) = some none) : Looks M h (fillsInplaceSlot (.ref C) nm add) false := by
  intro A Q E s k q
  have Lm : Looks M h (mroOf (.ref C)) cd.mro := (looks_clsIn X hc).andThen (f := fun cd => pure cd.mro) .now
  have Lm' := Lm.keeps k
  obtain ⟨hh, g, d, tt, os⟩ := s
  have X' : K.In hh := X.keeps k
  have L1 : Looks M hh (typeLookup (.ref C) (dunderI nm)) none := looks_findIn X' h1
  have L2 : Looks M hh (typeLookup (.type "object") (dunderI nm)) none := looks_findIn X' h2
  unfold fillsInplaceSlot
  refine wpAny_bind (Lm'.at ?_)
  rw [hm, List.anyM_cons]
  refine wpAny_bind ?_
  repeat lk
  exact q
theorem inpl_K {op : Operator} {b : Value} {Q : Value → Shared → Prop} {cd : ClassData} (X : K.In s.heap) (I : InstAt s.heap x ox C od) (hc : clsIn K C = some cd) (hm : cd.mro = [.ref C, .type "object"]) (h1 : findIn K (.ref C) (dunderI op.info.2) = some none) (h2 : findIn K (.type "object") (dunderI op.info.2) = some none)
    (h : wpAny (model prog w) A (binaryOp1 op.info.2 (.ref x) b) (fun r s' => ∃ v, r = some v ∧ Q v s') E s) : wpAny (model prog w) A (inplaceOp op (.ref x) b) Q E s := by
  have L2 : Looks (model prog w) s.heap (fillsInplaceSlot (.ref C) op.info.2 (op == .Add)) false := noInplace X hc hm h1 h2
  unfold inplaceOp
  refine wpAny_holding ?_
  dsimp only
  refine wpAny_bind (I.type.here (wpAny_bind (L2.here ?_)))
  simp only [Bool.false_eq_true, if_false]
  refine wpAny_bind (wpAny_mono h (fun r s' z => ?_) fun _ _ e => e)
  obtain ⟨v, rfl, hq⟩ := z
  exact wpAny_pure hq
end
/-- the class has no slot in place -/
structure InpF (K : PySem.W.Frag) (C : Addr) (nm : String) : Prop where
  mro : ∃ cd, PySem.W.clsIn K C = some cd ∧ cd.mro = [.ref C, .type "object"]
  no1 : PySem.W.findIn K (.ref C) (dunderI nm) = some none
  no2 : PySem.W.findIn K (.type "object") (dunderI nm) = some none
section
variable {X : Cx} {CX : CXT} {k : Nat} {ps ks : List Str} {sp : Sp} {E : XK} {C : Addr} {m : Str}
theorem iop_O {op : Operator} (M : CmpAt X.prog X.w X.K X.mg X.base CX k C m ps sp) (B : BinF X.K C op.info.2) (N : InpF X.K C op.info.2) (hr : Room k X.A) (hx : Passes CX X E) (hm : PySem.dunder op.info.2 = m := by rfl) : OpR X (inplaceOp op) (rBinO C sp E) := by
  intro pins s σ H x y v u Q I rx ry h
  obtain ⟨f, fd, hs, hf, F, hb⟩ := M.ex
  obtain ⟨a, dx, fs, rfl, ha, oi, hsp⟩ := h
  obtain rfl : v = Value.ref a := rx
  obtain ⟨ox, od, J, _⟩ := ins_plain I ha
  obtain ⟨cd, c1, c2⟩ := N.mro
  subst hm
  have go : wpAny (model X.prog X.w) X.A (call (.ref f) [.ref a, u]) (PySem.W.CmpBack (EP X pins σ Q)) X.xe s := wpAny_mono (run_at (vs := [.ref a, y]) F hb hx (Und.here hr) I (.cons rfl (.cons ry .nil)) hsp) (fun _ _ z => ep_back z) fun _ _ z => z
  refine inpl_K I.kIn J c1 c2 N.no1 N.no2 ?_
  rcases oi with ⟨b, dy, gs, rfl, hb'⟩ | ⟨j, rfl⟩
  · obtain rfl : u = Value.ref b := ry
    obtain ⟨oy, od', J', _⟩ := ins_plain I hb'
    exact bin1_S I.kIn J J'.type B.sf hs hf go
  · obtain ⟨t, rfl⟩ := ry
    obtain ⟨rc, r1, r2⟩ := B.rc
    obtain ⟨fo, i1⟩ := B.i1
    obtain ⟨ro, i2⟩ := B.i2
    exact bin1_T I.kIn J rfl B.sf hs hf r1 r2 i1 i2 B.su go
/-! ### an instance called -/
/-- f(e, ..), told without the context -/
def tCallI (C : Addr) (sp : Sp) (E : XK) (tf : TE) (t : TA) : TE := fun σ H Q => tf σ H fun y H1 => ∃ a, y = V.ref a ∧ t σ H1 fun vs H2 => (∃ dx fs, H2 a = some (.ins C dx fs)) ∧ sp (V.ref a :: vs) H2 Q E
theorem pe_clI {fe e : Expr} {es : List Expr} {tf : TE} {t : TA} {pos : Pos} (M : CallAt X.prog X.w X.K X.mg X.base CX k C ps sp) (hr : Room k X.A) (hx : Passes CX X E) (hf : PE X fe tf) (ha : PA X (e :: es) t)
    (ht : eval (.Call fe (e :: es) [] pos) X.env = (do callWith pos (← eval fe X.env) [] (backTo pos (starEach (e :: es) X.env)) (backToKw pos (keywordEach [] X.env))) := by rfl)
    (hs : starEach (e :: es) X.env = (false, eval e X.env) :: starEach es X.env := by rfl) (hpl : (backTo pos (starEach es X.env)).any (·.1) = false := by rfl) : PE X (.Call fe (e :: es) [] pos) (tCallI C sp E tf t) := by
  obtain ⟨f, fd, c, F, b⟩ := M.ex
  refine ⟨fun pins s σ H Q I h => ?_⟩
  refine Call_ (thn (hf.run pins s σ H _ I h) fun u s1 ⟨y, H1, I1, ry, a, ey, q⟩ => ?_) ht
  subst ey
  obtain rfl : u = Value.ref a := ry
  refine StX.callO_with (thn (ha.run pos pins s1 σ H1 _ I1 q) fun us s2 ⟨vs, H2, I2, r, ⟨dx, fs, hi⟩, q2⟩ => ?_) hs hpl
  obtain ⟨ox, od, J, hd⟩ := StX.insC_at (X := X) I2 (.inr ⟨dx, fs, hi⟩)
  refine ⟨⟨C, ox, od, J, hd⟩, ?_⟩
  have hl : (Value.ref a :: us ++ []).length = ps.length := by
    rw [List.append_nil, List.length_cons, ← r.length]
    exact F.len _ _ _ _ q2
  have bd := b s2 (.ref a :: us) I2.kIn hl
  rw [List.append_nil] at bd
  refine wpAny_call (PySem.W.kco_code I2.kIn J hd c.at_ c.fn c.fi (codeAny_mono (F.run X.A X.stack s2 H2 ⟨.ref a :: us, []⟩ (.ref a :: us) (.ref a :: vs) _ E hr I2.env0 bd (.cons rfl r) q2) fun r s' hq => ?_))
  match r, hq with
  | .error e, hq => exact hx pins σ H2 s2 e s' I2 hq
  | .ok (.ret z), hq => exact I2.after hq
  | .ok .next, hq => exact False.elim hq
  | .ok .brk, hq => exact False.elim hq
  | .ok .cont, hq => exact False.elim hq
structure CallK (P : Program) (w : World) (K : PySem.W.Frag) (mg : Str → Option Value) (base : Heap) (CX : CXT) (k : Nat) (C : Addr) (ps ks : List Str) (sp : Sp) (gV : List V → List V → List V) : Prop where
  ex : ∃ f fd g, StX.CallO K C f ∧ FnOk P w K mg base CX k f fd ps sp ∧ KBn K fd ps 1 ks g gV
def tCallK (C : Addr) (j : Nat) (sp : Sp) (gV : List V → List V → List V) (E : XK) (tf : TE) (tk : TA) : TE := fun σ H Q => tf σ H fun y H1 => ∃ a, y = V.ref a ∧ tk σ H1 fun zs H2 => zs.length = j ∧ (∃ dx fs, H2 a = some (.ins C dx fs)) ∧ sp (gV [.ref a] zs) H2 Q E
/-- the call's node where the callee is an instance, keywords alone -/
theorem callO_kw {M : Model} {A : Around} {Er : Value → Shared → Prop} {s : Shared} {a : Addr} {pos : Pos} {Q : Value → Shared → Prop} {args : List (Bool × Sem Value)} {kw : List (Option Str × Sem Value)} (hplain : (args.any (·.1) || kw.any (·.1.isNone)) = false)
    (h : wpAny M A (evalArgs (.ref a) true args kw) (fun z s₁ => (∃ C ox od, PySem.W.InstAt s₁.heap a ox C od ∧ ox.data = .plain) ∧ wpAny M A (call (.ref a) ([] ++ z.pos) z.kw) Q Er s₁) Er s) : wpAny M A (callWith pos (.ref a) [] args kw) Q Er s := by
  unfold callWith
  refine wpAny_bind (wpAny_holding (wpAny_mono h (fun z s₁ h₁ => wpAny_bind (wpAny_standAt ?_)) fun _ _ y => y))
  obtain ⟨⟨C, ox, od, J, hd⟩, h₁⟩ := h₁
  simp only [hplain]
  refine wpAny_bind ((PySem.W.kco_keeper (M := M) J hd).here ?_)
  refine wpAny_bind (wpAny_mono (wpAny_operateT h₁) (fun r s₂ hr => wpAny_bind (wpAny_holding (wpAny_point (wpAny_pure hr)))) fun _ _ y => y)
theorem pe_clK {fe : Expr} {kws : List Keyword} {tf : TE} {tk : TA} {pos : Pos} {gV : List V → List V → List V} (M : CallK X.prog X.w X.K X.mg X.base CX k C ps ks sp gV) (hr : Room k X.A) (hx : Passes CX X E) (hf : PE X fe tf) (hkw : PK X kws tk)
    (ht : eval (.Call fe [] kws pos) X.env = (do callWith pos (← eval fe X.env) [] (backTo pos (starEach [] X.env)) (backToKw pos (keywordEach kws X.env))) := by rfl)
    (hall : (backToKw pos (keywordEach kws X.env)).all (·.1.isSome) = true := by rfl) (hks : (backToKw pos (keywordEach kws X.env)).filterMap (·.1) = ks := by rfl)
    (hpl : ((backTo pos (starEach [] X.env)).any (·.1) || (backToKw pos (keywordEach kws X.env)).any (·.1.isNone)) = false := by rfl) : PE X (.Call fe [] kws pos) (tCallK C ks.length sp gV E tf tk) := by
  obtain ⟨f, fd, g, c, F, b⟩ := M.ex
  refine ⟨fun pins s σ H Q I h => ?_⟩
  rw [ht]
  refine wpAny_bind (thn (hf.run pins s σ H _ I h) fun u s1 ⟨y, H1, I1, ry, a, ey, q⟩ => ?_)
  subst ey
  obtain rfl : u = Value.ref a := ry
  refine callO_kw hpl (evalArgs_kw2_nil hall (thn (hkw.run pos pins s1 σ H1 _ I1 q) fun ws s2 ⟨zs, H2, I2, rz, l2, ⟨dx, fs, hi⟩, q2⟩ => ?_))
  obtain ⟨ox, od, J, hd⟩ := StX.insC_at (X := X) I2 (.inr ⟨dx, fs, hi⟩)
  refine ⟨⟨C, ox, od, J, hd⟩, ?_⟩
  rw [hks]
  have r2 := b.rel (vs := [V.ref a]) (us := [Value.ref a]) (.cons rfl .nil) rz
  refine wpAny_call (PySem.W.kco_code I2.kIn J hd c.at_ c.fn c.fi (codeAny_mono (F.run X.A X.stack s2 H2 ⟨[.ref a], ks.zip ws⟩ (g [.ref a] ws) (gV [.ref a] zs) _ E hr I2.env0 (b.to s2 [.ref a] ws I2.kIn rfl (rz.length.symm.trans l2)) r2 q2) fun r s' hq => ?_))
  match r, hq with
  | .error e, hq => exact hx pins σ H2 s2 e s' I2 hq
  | .ok (.ret z), hq => exact I2.after hq
  | .ok .next, hq => exact False.elim hq
  | .ok .brk, hq => exact False.elim hq
  | .ok .cont, hq => exact False.elim hq
/-- a class of the module made by keywords alone -/
structure MakeK (P : Program) (w : World) (K : PySem.W.Frag) (mg : Str → Option Value) (base : Heap) (CX : CXT) (k : Nat) (x : Str) (C : Addr) (ps ks : List Str) (sp : Sp) (gV : List V → List V → List V) : Prop where
  ex : ∃ f fd g, Mk K C f ∧ FnOk P w K mg base CX k f fd ps sp ∧ mg x = some (.ref C) ∧ KBn K fd ps 1 ks g gV
theorem pe_mkK {x : Str} {p pos : Pos} {kws : List Keyword} {tk : TA} {gV : List V → List V → List V} (M : MakeK X.prog X.w X.K X.mg X.base CX k x C ps ks sp gV) (hr : Room (k + 1) X.A) (hg : Gl X x) (hx : Passes CX X E) (hkw : PK X kws tk)
    (hall : (backToKw pos (keywordEach kws X.env)).all (·.1.isSome) = true := by rfl) (hks : (backToKw pos (keywordEach kws X.env)).filterMap (·.1) = ks := by rfl) (hdb : (x == ("__debug__" : Str)) = false := by decide)
    (hpl : ((backTo pos (starEach [] X.env)).any (·.1) || (backToKw pos (keywordEach kws X.env)).any (·.1.isNone)) = false := by rfl) : PE X (.Call (.Name x p) [] kws pos) (tMakeK C 0 ks.length sp gV E tNil tk) := by
  obtain ⟨f, fd, g, mk, F, hm, b⟩ := M.ex
  exact pe_makeK0 mk F hr hg hm b hx hkw hall hks hdb hpl
end
end My
/-! For the end: static methods, makers with defaults, calls by keywords. -/
namespace My
open PySem PySem.Spec PyProof.Rows L2
def gApp (vs zs : List V) : List V := vs ++ zs
def gSw (vs zs : List V) : List V := vs ++ zs.reverse
theorem nm_part : Sup.Nm "part" := ⟨by decide, by decide, by decide, by decide, fun _ _ _ _ _ _ _ _ _ _ _ _ => rfl⟩
theorem app_rel {vs : List V} {us : List Value} {zs : List V} {ws : List Value} (h1 : Vals vs us) (h2 : Vals zs ws) : Vals (gApp vs zs) (us ++ ws) := h1.append h2
/-- the class has the static method -/
structure HasS (K : PySem.W.Frag) (C : Addr) (m qual : Str) (st : Stmt) : Prop where
  ex : ∃ f fd, Stat K C m f ∧ Fun K m qual st f fd
section
variable {P : Program} {w : World} {K : PySem.W.Frag} {mg : Str → Option Value} {base : Heap} {CX : CXT} {k : Nat} {m qual : Str} {st : Stmt} {ps ks : List Str} {sp : Sp} {C : Addr}
theorem stat_at (A : HasS K C m qual st) (ok : ∀ f fd, Fun K m qual st f fd → FnOk P w K mg base CX k f fd ps sp) (b : BindW m qual st ps) : StatAt P w K mg base CX k C m ps sp := by
  obtain ⟨f, fd, h1, F⟩ := A.ex
  exact ⟨f, fd, h1, ok f fd F, F.binds b⟩
theorem statK_at {gV : List V → List V → List V} {g : List Value → List Value → List Value} (A : HasS K C m qual st) (ok : ∀ f fd, Fun K m qual st f fd → FnOk P w K mg base CX k f fd ps sp)
    (b : ∀ (kV doc pm : Value) (an : Option Addr) (cdv ct : Value) (us ws : List Value), us.length = 0 → ws.length = ks.length → bindArgs (PySem.W.fnOf m qual (defArgs st) (defBody st) (defScope st) .none kV doc pm an cdv ct) ⟨us, ks.zip ws⟩ = pure (ps.zip (g us ws)))
    (r : ∀ {vs : List V} {us : List Value} {zs : List V} {ws : List Value}, Vals vs us → Vals zs ws → Vals (gV vs zs) (g us ws)) : StatK P w K mg base CX k C m ps ks sp gV := by
  obtain ⟨f, fd, h1, F⟩ := A.ex
  obtain ⟨oc, od, kV, doc, pm, an, cdv, ct, osl, rfl, _⟩ := id F.ex
  exact ⟨f, _, g, h1, ok f _ F, ⟨fun s us ws _ l1 l2 => .of_eq (b kV doc pm an cdv ct us ws l1 l2), r⟩⟩
end
theorem sw_rel {vs : List V} {us : List Value} {zs : List V} {ws : List Value} (h1 : Vals vs us) (h2 : Vals zs ws) : Vals (gSw vs zs) (us ++ ws.reverse) := h1.append h2.reverse
theorem kinds7 {K : PySem.W.Frag} {C : Addr} (a0 : PySem.W.kitOne K (.type "int") (.ref C) = some false) (b0 : PySem.W.notFirst K C (.type "int") = true) (a1 : PySem.W.kitOne K (.type "tuple") (.ref C) = some false) (b1 : PySem.W.notFirst K C (.type "tuple") = true) (a2 : PySem.W.kitOne K (.type "NoneType") (.ref C) = some false) (b2 : PySem.W.notFirst K C (.type "NoneType") = true) (a3 : PySem.W.kitOne K (.type "str") (.ref C) = some false) (b3 : PySem.W.notFirst K C (.type "str") = true) (a4 : PySem.W.kitOne K (.type "list") (.ref C) = some false) (b4 : PySem.W.notFirst K C (.type "list") = true) (a5 : PySem.W.kitOne K (.type "bool") (.ref C) = some false) (b5 : PySem.W.notFirst K C (.type "bool") = true) (a6 : PySem.W.kitOne K (.type "dict") (.ref C) = some false) (b6 : PySem.W.notFirst K C (.type "dict") = true) : ∀ t ∈ ["int", "tuple", "NoneType", "str", "list", "bool", "dict"], PySem.W.kitOne K (.type t) (.ref C) = some false ∧ PySem.W.notFirst K C (.type t) = true := fun t ht => by
  simp only [List.mem_cons, List.mem_nil_iff, or_false] at ht
  rcases ht with rfl | rfl | rfl | rfl | rfl | rfl | rfl
  · exact ⟨a0, b0⟩
  · exact ⟨a1, b1⟩
  · exact ⟨a2, b2⟩
  · exact ⟨a3, b3⟩
  · exact ⟨a4, b4⟩
  · exact ⟨a5, b5⟩
  · exact ⟨a6, b6⟩
section
variable {P : Program} {w : World} {K : PySem.W.Frag} {mg : Str → Option Value} {base : Heap} {CX : CXT} {k : Nat} {x qual : Str} {st : Stmt} {ps ks : List Str} {sp : Sp} {C : Addr} {dvs : List V}
/-- the class is made with its defaults left out -/
theorem make_dfl {n : Nat} (A : HasD K C "__init__" qual st dvs []) (hx : mg x = some (.ref C)) (mk : PySem.W.makesIn K C = true) (kp : PySem.W.keepIn K (.ref C) = true) (ok : ∀ f fd, FunD K "__init__" qual (defArgs st) (defBody st) (defScope st) dvs [] f fd → FnOk P w K mg base CX k f fd ps sp) (hd : dvs ≠ []) (hn : n + (dvs.length - 0) = ps.length)
    (b : ∀ (T : Addr) (kV doc pm : Value) (an : Option Addr) (cdv ct : Value) (us its : List Value), us.length = n → its.length = dvs.length →
      ∃ k, bindArgs (PySem.W.fnOf "__init__" qual (defArgs st) (defBody st) (defScope st) (.ref T) kV doc pm an cdv ct) ⟨us, []⟩ = seqItems? (.ref T) >>= k ∧ k (some its.toArray) = pure (ps.zip (us ++ its.drop 0))) : MakeAt P w K mg base CX k x C ps sp dvs := by
  obtain ⟨f, fd, h1, h2, F⟩ := A.ex
  obtain ⟨ds, r, bs⟩ := F.binds1 n 0 hd hn b
  rw [List.drop_zero] at r
  exact ⟨f, fd, ds, ⟨mk, h1, h2, kp⟩, ok f fd F, hx, bs, r⟩
theorem make_sw (A : HasD K C "__init__" qual st dvs []) (hx : mg x = some (.ref C)) (mk : PySem.W.makesIn K C = true) (kp : PySem.W.keepIn K (.ref C) = true) (ok : ∀ f fd, FunD K "__init__" qual (defArgs st) (defBody st) (defScope st) dvs [] f fd → FnOk P w K mg base CX k f fd ps sp) (hd : dvs ≠ [])
    (b : ∀ (T : Addr) (kV doc pm : Value) (an : Option Addr) (cdv ct : Value) (us its ws : List Value), us.length = 1 → its.length = dvs.length → ws.length = ks.length →
      ∃ k, bindArgs (PySem.W.fnOf "__init__" qual (defArgs st) (defBody st) (defScope st) (.ref T) kV doc pm an cdv ct) ⟨us, ks.zip ws⟩ = seqItems? (.ref T) >>= k ∧ k (some its.toArray) = pure (ps.zip (us ++ ws.reverse))) : MakeK P w K mg base CX k x C ps ks sp gSw := by
  obtain ⟨f, fd, h1, h2, F⟩ := A.ex
  obtain ⟨its, kb⟩ := F.kbindsD (ps := ps) 1 ks (fun us _ ws => us ++ ws.reverse) hd (fun h1 _ h3 => h1.append h3.reverse) b
  exact ⟨f, fd, _, ⟨mk, h1, h2, kp⟩, ok f fd F, hx, kb⟩
theorem callK_at {g : List Value → List Value → List Value} (A : HasM K C "__call__" qual st) (ok : ∀ f fd, Fun K "__call__" qual st f fd → FnOk P w K mg base CX k f fd ps sp)
    (b : ∀ (kV doc pm : Value) (an : Option Addr) (cdv ct : Value) (us ws : List Value), us.length = 1 → ws.length = ks.length → bindArgs (PySem.W.fnOf "__call__" qual (defArgs st) (defBody st) (defScope st) .none kV doc pm an cdv ct) ⟨us, ks.zip ws⟩ = pure (ps.zip (us ++ ws))) : CallK P w K mg base CX k C ps ks sp gApp := by
  obtain ⟨f, fd, h1, h2, F⟩ := A.ex
  obtain ⟨oc, od, kV, doc, pm, an, cdv, ct, osl, rfl, lk, _⟩ := id F.ex
  refine ⟨f, _, _, ⟨h1, h2, ?_⟩, ok f _ F, ⟨fun s us ws _ l1 l2 => .of_eq (b kV doc pm an cdv ct us ws l1 l2), app_rel⟩⟩
  unfold PySem.W.fnIn
  rw [lk]
end
end My
/-! int == an instance; bool(x), abs(x) of an instance; // and % of an int by an instance. -/
namespace My
open PySem PySem.Spec PySem.Calls PyProof.Rows L2
theorem is_fdv {K : PySem.W.Frag} : IntSlot K (Operator.info .FloorDiv).2 "int.__floordiv__" Builtin.«int.__floordiv__» := ⟨PySem.F.slot_int_floordiv, PySem.F.entry_int_floordiv, PySem.F.args_int_floordiv_2, dec_floordiv⟩
theorem is_mod {K : PySem.W.Frag} : IntSlot K (Operator.info .Mod).2 "int.__mod__" Builtin.«int.__mod__» := ⟨PySem.F.slot_int_mod, PySem.F.entry_int_mod, PySem.F.args_int_mod_2, dec_mod⟩
section
open PySem.W
variable {prog : Program} {w : World} {A : Around} {E : Value → Shared → Prop} {s : Shared} {K : Frag} {x C L f : Addr} {h₀ : Heap} {m : Str → Option Value} {ox : Obj} {od : Option Obj}
theorem bool_call {Q : Value → Shared → Prop} (F : Fr h₀ L s.heap m) (X₀ : K.In h₀) (I : InstAt s.heap x ox C od) (hs : findIn K (.ref C) "__bool__" = some (some (.ref f))) (hf : isFn K (.ref f) = true)
    (h : wpAny (model prog w) A.in1.in1 (call (.ref f) [.ref x]) (PySem.W.BoolBack fun b s' => Q (.bool b) s') E s) : wpAny (model prog w) A (call (.type "bool") [.ref x]) Q E s := by
  refine callType_codes (T := "bool") (Bi := Builtin.«object.__init__») (Q₁ := fun r s' => ∃ b, r = .bool b ∧ Q r s') PySem.F.called_bool (PySem.F.typeCall_bool_1 _) PySem.F.entry_object_init ?_ ?_
  · refine codeAny_of_tree ?_
    show wpAny _ A.in1.in1 (do checkBuiltinCall "bool.__new__" ⟨[.type "bool", .ref x], []⟩; again (.builtin "bool.__new__" ⟨[.type "bool", .ref x], []⟩)) _ _ s
    refine wpAny_bind (wpAny_of_eq (PySem.F.newCall_bool_1 _) (wpAny_pure ⟨plainId_quiet (by decide +kernel) _, codeAny_builtin PySem.F.entry_bool_new ?_⟩))
    rw [Around.under_plainId (by decide +kernel) _]
    unfold Builtin.«bool.__new__»
    have f1 := PySem.F.conv_sub_bool
    have go : wpAny (model prog w) A.in1.in1 (truthy (.ref x)) (fun b s' => Q (.bool b) s') E s := truthy_K F X₀ I hs hf h
    refine wpAny_bind (m := isType (.type "bool")) (wpAny_pure ?_)
    refine wpAny_bind (m := isSubtype (.type "bool") (.type "bool")) (wpAny_of_eq f1 ?_)
    refine wpAny_bind (wpAny_pure ?_)
    refine wpAny_bind (m := truthy (.ref x)) (wpAny_mono go (fun b s' hq => ?_) fun _ _ y => y)
    exact wpAny_pure ⟨b, rfl, hq⟩
  · rintro obj s' ⟨b, rfl, hq⟩
    exact ⟨PySem.typeIs_bool _ _, PySem.F.args_object_init_2 _ _, object_init_meets PySem.F.called_bool.init.lookup PySem.F.called_bool.made (by decide) prog w A.in1 _ s' ⟨PySem.typeIs_bool _ _, rfl, hq⟩⟩
theorem abs_call {Q : Value → Shared → Prop} (X : K.In s.heap) (I : InstAt s.heap x ox C od) (hs : findIn K (.ref C) "__abs__" = some (some (.ref f))) (hf : isFn K (.ref f) = true)
    (h : wpAny (model prog w) A.in1 (call (.ref f) [.ref x]) Q E s) : wpAny (model prog w) A (call (.builtin "abs") [.ref x]) Q E s := by
  refine call_function_entry kind_abs plain_abs entry_abs (args_abs _) ?_
  unfold Builtin.«abs»
  refine wpAny_bind (m := oneArg "abs" _) (wpAny_pure ?_)
  refine wpAny_bind (m := callSpecial? (.ref x) (Str.ofString "__abs__")) (special_fn X I hs (beq_iff_eq.mp hf) (wpAny_mono h (fun r s' hr => ?_) fun _ _ y => y))
  exact wpAny_pure ⟨_, rfl, hr⟩
end
section
variable {X : Cx} {CX : CXT} {k : Nat} {C : Addr} {ps : List Str} {sp : Sp} {E : XK}
theorem op_eqR (M : CmpAt X.prog X.w X.K X.mg X.base CX k C "__eq__" ps sp) (su : PySem.W.subIn X.K (.ref C) (.type "int") = some false) (hr : Room k X.A) (hx : Passes CX X E) : OpR X (compareOp .Eq) (rCmpR C sp E) := op_cmpRv M su hr hx rfl (fun _ _ => rfl) (fun _ _ _ => rfl) PySem.F.slot_int_eq PySem.F.entry_int_eq PySem.F.args_int_eq_2 dec_eq
/-- bool(x) of an instance with its own __bool__ -/
def rBoolO (C : Addr) (sp : Sp) (E : XK) : List V → Hp → VK → Prop := fun xs H Q => ∃ a dx fs, xs = [.ref a] ∧ H a = some (.ins C dx fs) ∧ sp [.ref a] H (fun v H' => ∃ b, v = .bl b ∧ Q v H') E
theorem call_boolO (M : CmpAt X.prog X.w X.K X.mg X.base CX k C "__bool__" ps sp) (hr : Room (k + 2) X.A) (hx : Passes CX X E) : CallR X (.type "bool") (rBoolO C sp E) := by
  intro pins s σ H xs us Q I r h
  obtain ⟨f, fd, hs, hf, F, hb⟩ := M.ex
  obtain ⟨a, dx, fs, rfl, ha, hsp⟩ := h
  obtain ⟨u, rfl, r1⟩ := vals1 r
  obtain rfl : u = Value.ref a := r1
  obtain ⟨ox, od, J, _⟩ := ins_plain I ha
  obtain ⟨m', hF⟩ := I.fr
  have U : Und X k X.A.in1.in1 := (Und.here hr).in1.in1
  refine bool_call hF I.ok.mod.kin J hs hf (wpAny_mono (run_at (vs := [.ref a]) F hb hx U I (.cons rfl .nil) hsp) (fun v s' z => ?_) fun _ _ z => z)
  obtain ⟨z, H', I', rz, b, rfl, q⟩ := z
  cases (show v = Value.bool b from rz)
  exact ⟨.bl b, H', I', rfl, q⟩
/-- abs(x) of an instance with its own __abs__ -/
def rAbsO (C : Addr) (sp : Sp) (E : XK) : List V → Hp → VK → Prop := fun xs H Q => ∃ a dx fs, xs = [.ref a] ∧ H a = some (.ins C dx fs) ∧ sp [.ref a] H Q E
theorem call_absO (M : CmpAt X.prog X.w X.K X.mg X.base CX k C "__abs__" ps sp) (hr : Room (k + 1) X.A) (hx : Passes CX X E) : CallR X (.builtin "abs") (rAbsO C sp E) := by
  intro pins s σ H xs us Q I r h
  obtain ⟨f, fd, hs, hf, F, hb⟩ := M.ex
  obtain ⟨a, dx, fs, rfl, ha, hsp⟩ := h
  obtain ⟨u, rfl, r1⟩ := vals1 r
  obtain rfl : u = Value.ref a := r1
  obtain ⟨ox, od, J, _⟩ := ins_plain I ha
  have U : Und X k X.A.in1 := (Und.here hr).in1
  exact abs_call I.kIn J hs hf (run_at (vs := [.ref a]) F hb hx U I (.cons rfl .nil) hsp)
end
end My
/-! enumerate of a tuple; a class made by a star; a tuple turned about. -/
namespace My
open PySem PySem.Spec PySem.Calls PyProof.Rows L2
/-! ### enumerate(tuple) -/
theorem enum1_meets {v : Value} {o : Obj} {H : Heap → Prop} (B : Begins v o H) :
    Meets (Builtin.«enumerate.__new__» ⟨[.type "enumerate", v], []⟩) (fun _ R s => H s.heap ∧
      R (.ok (.ret (.ref (s.heap.push o).objs.size))) { s with heap := (s.heap.push o).push { cls := .type "enumerate", data := .fields #[.none, .bool false, .ref s.heap.objs.size, rawInt 0, .none, .none] } }) :=
  .of_wp fun prog w A R s h => by
    obtain ⟨hp, g, d, tk, os⟩ := s
    obtain ⟨h1, h⟩ := h
    have hsub := sub_enumerate
    have q1 : ∀ {A' : Around} {E : Value → Shared → Prop} {Q : Value → Shared → Prop}, Q (.ref hp.objs.size) ⟨hp.push o, g, d, tk, os⟩ → wpAny (model prog w) A' (pyIter v) Q E ⟨hp, g, d, tk, os⟩ :=
      fun q => B.iter prog w _ _ ⟨hp, g, d, tk, os⟩ _ h1 q
    wp_walk using q1
    refine wpAny_stack_any fun st => wpAny_pure ?_
    split
    · rename_i c _ _ _ _ _
      cases (c == Value.type "enumerate")
      · wp_walk using q1
        exact ⟨_, rfl, h⟩
      · wp_walk using q1
        exact ⟨_, rfl, h⟩
    · wp_walk using q1
      exact ⟨_, rfl, h⟩
section
variable {prog : Program} {w : World} {A : Around} {E : Value → Shared → Prop} {s : Shared}
theorem enum1_begins {v : Value} {o : Obj} {H : Heap → Prop} {Q : Value → Shared → Prop} (B : Begins v o H) (h1 : H s.heap)
    (h : ∀ h', IsEnum h' (s.heap.objs.size + 1) s.heap.objs.size 0 .none → h'.get? s.heap.objs.size = some o → h'.objs.size = s.heap.objs.size + 2 →
      (∀ b o, s.heap.get? b = some o → h'.get? b = some o) → Q (.ref (s.heap.objs.size + 1)) { s with heap := h' }) :
    wpAny (model prog w) A (call (.type "enumerate") [v]) Q E s := by
  refine callType_new F.called_enumerate (by decide) (F.typeCall_enumerate_1 _) (F.newCall_enumerate_1 _) (fun obj => F.args_object_init_2 obj _) F.entry_enumerate_new (enum1_meets B) ⟨h1, ?_⟩
  have hz : (s.heap.push o).objs.size = s.heap.objs.size + 1 := Heap.size_push ..
  show _ ∧ _
  rw [hz]
  have he : IsEnum ((s.heap.push o).push { cls := .type "enumerate", data := .fields #[.none, .bool false, .ref s.heap.objs.size, rawInt 0, .none, .none] }) (s.heap.objs.size + 1) s.heap.objs.size 0 .none := by
    have z := Heap.get?_push_size (s.heap.push o) (o := { cls := .type "enumerate", data := .fields #[.none, .bool false, .ref s.heap.objs.size, rawInt 0, .none, .none] }) rfl
    rw [hz] at z
    exact z
  exact ⟨⟨_, he, rfl⟩, h _ he (Heap.get?_push_of_some _ (Heap.get?_push_size _ B.free)) (by rw [Heap.size_push, hz]) fun b o x => Heap.get?_push_of_some _ (Heap.get?_push_of_some _ x)⟩
end
/-- the tuple at a, each item in a new pair -/
def IteT (K : PySem.W.Frag) (a : Addr) : It :=
  ⟨fun i H => ∃ (xs : List V) (x : V), SqT K H a xs ∧ xs[i]? = some x, fun i H v H' => ∃ T x, v = .ref T ∧ H T = none ∧ H' = upd H T (.tup [.int (i : Nat), x]) ∧ ∀ xs, SqT K H a xs → xs[i]? = some x, fun i H => ∃ xs : List V, SqT K H a xs ∧ xs.length = i⟩
theorem turn_enumT {P : Program} {w : World} {K : PySem.W.Frag} {elts : List Expr} {kk : Nat} {tpos : Pos} (a e it : Addr) :
    Turn P w K (.Tuple elts kk tpos) (IteT K a) [e, it] e (fun i h => (∃ old, IsEnum h e it ((i : Nat) : Int) old) ∧ h.IsTupleIter it a i ∧ e ≠ it) where
  mem := by simp
  obj := fun i h st b hb => by
    obtain ⟨⟨old, he⟩, ⟨o, ho, hc, hd⟩, _⟩ := st
    rcases (show b = e ∨ b = it by simpa using hb) with rfl | rfl
    · exact ⟨_, he, fun v q => nomatch q⟩
    · exact ⟨o, ho, fun v q => by rw [hd] at q; cases q⟩
  keep := fun i h h' st k => let ⟨⟨old, he⟩, hi, hne⟩ := st; ⟨⟨old, k e (by simp) _ he⟩, hi.at fun o q => k it (by simp) o q, hne⟩
  item := by
    intro X hP hw hK hc i pins s σ H E I hf st hg
    subst hP hw hK
    obtain ⟨⟨old, he⟩, hit, hne⟩ := st
    obtain ⟨xs, x, hq, hx⟩ := hg
    obtain ⟨its, rv, p, hz⟩ := I.tuple hq
    obtain ⟨u, hu, ru⟩ := rv.get hx
    have hel : e < s.heap.objs.size := Heap.lt_size he
    have hil : it < s.heap.objs.size := by obtain ⟨_, q, _⟩ := hit; exact Heap.lt_size q
    have hat : a ≠ it := fun z => by
      obtain ⟨o1, e1, c1, _⟩ := p
      obtain ⟨o2, e2, c2, _⟩ := hit
      rw [z, e2] at e1
      cases e1
      rw [c2] at c1
      exact absurd c1 (by decide)
    have hae : a ≠ e := fun z => by
      obtain ⟨o1, e1, c1, _⟩ := p
      rw [z, show s.heap.get? e = _ from he] at e1
      cases e1
      exact absurd (show Value.type "enumerate" = Value.type "tuple" from c1) (by decide)
    have D := Draws.tuple (prog := X.prog) (w := X.w) (A := X.A.in1) (I.ok.hd hc) it a hat its.toArray
    have hlt : i < its.toArray.size := by
      have := (List.getElem?_eq_some_iff.mp hu).1
      simpa using this
    refine wpAny_pyNext_enum_itemC (n := its.toArray.size) D he ⟨hit, p⟩ hlt hne (by simp; exact ⟨hne, Ne.symm hae⟩) fun x' h' tk hPx ho hst' hT hsz hk => ?_
    have ex : x' = u := by
      have h1 : its.toArray[i]? = some x' := hPx
      rw [List.getElem?_toArray, hu] at h1
      exact (Option.some.inj h1).symm
    subst ex
    refine ⟨_, rfl, wpAny_letOwnedTupleGo_enum (s := { s with heap := h', toks := tk + 1 }) ho fun h'' he' sb => ?_⟩
    have hT2 : h''.get? s.heap.objs.size = some { cls := .type "tuple", data := .seq #[.int i tk, x'] } := (sb.2 _ (Nat.ne_of_gt hel)).trans hT
    have new : ObjOk X.prog X.w (upd H s.heap.objs.size (.tup [.int (i : Nat), x])) h'' s.heap.objs.size (.tup [.int (i : Nat), x]) :=
      ⟨by show 2 ≤ sizeLine; decide, [.int i tk, x'], .cons ⟨_, rfl⟩ (.cons ru .nil), ⟨_, hT2, rfl, _, rfl⟩⟩
    have I1 : Inv X pins σ (upd H s.heap.objs.size (.tup [.int (i : Nat), x])) { s with heap := h'', toks := tk + 1 } :=
      I.turnedNew (ch := [e, it]) (fun b ob hb q => (sb.2 b (fun z => hb (by simp [z]))).trans (hk b ob (fun z => hb (by simp [z])) (fun z => hb (by simp [z])) q)) hf (Nat.le_refl _) new
    refine ⟨.ref s.heap.objs.size, _, I1, rfl, ⟨_, x, rfl, I.hok.fresh (Nat.le_refl _), rfl, fun ys hy => by rw [I.tuple_inj hy hq]; exact hx⟩, ⟨⟨x', ?_⟩, hst'.1.at fun o q => (sb.2 it (Ne.symm hne)).trans q, hne⟩, fun b hb => ?_⟩
    · have e1 : ((i + 1 : Nat) : Int) = (i : Int) + 1 := by omega
      rw [e1]
      exact he'
    · have hb' : b < s.heap.objs.size := by
        rcases (show b = e ∨ b = it by simpa using hb) with rfl | rfl
        · exact hel
        · exact hil
      rw [upd_ne (Nat.ne_of_lt hb')]
      exact (hf b hb).1
  done := by
    intro X hP hw hK hc i pins s σ H E I hf st hg
    subst hP hw hK
    obtain ⟨⟨old, he⟩, hit, hne⟩ := st
    obtain ⟨xs, hq, hx⟩ := hg
    obtain ⟨its, rv, p, hz⟩ := I.tuple hq
    obtain ⟨f0, f1, f2, f3, f4, f5⟩ := hf it (by simp)
    have hl := rv.length
    have hat : a ≠ it := fun z => by
      obtain ⟨o1, e1, c1, _⟩ := p
      obtain ⟨o2, e2, c2, _⟩ := hit
      rw [z, e2] at e1
      cases e1
      rw [c2] at c1
      exact absurd c1 (by decide)
    have D := Draws.tuple (prog := X.prog) (w := X.w) (A := X.A.in1) (I.ok.hd hc) it a hat its.toArray
    have ei : i = its.toArray.size := by
      rw [List.size_toArray]
      omega
    subst ei
    exact wpAny_pyNext_enum_endD D he ⟨hit, p⟩ fun h' eb => ⟨rfl, I.turned (t' := s.toks) (fun b o hb q => eb b o hb q) f0 f1 f3 f4 f5⟩
  self := fun A i s Q E st h => let ⟨⟨_, he⟩, _⟩ := st; wpAny_pyIter_enum he h
def iEnumT (K : PySem.W.Frag) (ta : TA) : TI := fun σ H R => ta σ H fun vs H1 => ∃ a xs, vs = [.ref a] ∧ SqT K H1 a xs ∧ R (IteT K a) H1
theorem pi_enumT {X : Cx} {e : Expr} {ta : TA} {p pos tpos : Pos} {elts : List Expr} {kk : Nat} (hg : Gl X "enumerate") (hm : X.mg "enumerate" = none) (ha : PA X [e] ta) (hs : starEach [e] X.env = [(false, eval e X.env)] := by rfl) :
    PI X (.Tuple elts kk tpos) (.Call (.Name "enumerate" p) [e] [] pos) (iEnumT X.K ta) := by
  refine ⟨fun pins s σ H R I h => ?_⟩
  refine Call_ (ld_blt I hg hm boot_enumerate (PyProof.Rows.callWith_type1 (thn (ha.run pos pins s σ H _ I h) fun us s1 ⟨vs, H1, I1, r1, q1⟩ => ?_) hs rfl))
  obtain ⟨a, xs, ex, hq, q⟩ := q1
  subst ex
  cases r1 with
  | cons r rr =>
    cases rr
    cases r
    obtain ⟨its, rv, p', hz⟩ := I1.tuple hq
    refine enum1_begins (begins_tuple a its.toArray) p' fun h' he hit hsz hk => wpAny_pyIter_enum he ?_
    have I2 : Inv X pins σ H1 { s1 with heap := h' } := I1.kept (t' := s1.toks) hk
    refine ⟨s1.heap.objs.size + 1, [s1.heap.objs.size + 1, s1.heap.objs.size], _, _, H1, rfl, I2, turn_enumT a (s1.heap.objs.size + 1) s1.heap.objs.size, ⟨⟨.none, he⟩, ⟨_, hit, rfl, rfl⟩, Nat.succ_ne_self _⟩, fun b hb => ?_, q⟩
    have hle : s1.heap.objs.size ≤ b := by
      rcases (show b = s1.heap.objs.size + 1 ∨ b = s1.heap.objs.size by simpa using hb) with rfl | rfl
      · exact Nat.le_add_right _ _
      · exact Nat.le_refl _
    exact I1.fpOk hle (I1.hok.fresh hle)
/-! ### t[::-1] of a tuple -/
section
variable {prog : Program} {w : World} {A : Around} {E : Value → Shared → Prop} {s : Shared}
theorem places_rev (n : Nat) : Builtin.Slice.slicePlaces ((n : Int) - 1) (-1) (-1) = n := by
  unfold Builtin.Slice.slicePlaces
  rw [if_neg (by decide)]
  split
  · have e : ((n : Int) - 1 - -1 - 1) / (- -1) + 1 = n := by
      rw [show (- -1 : Int) = 1 by decide, Int.ediv_one]
      omega
    rw [e]
    omega
  · omega
theorem pick_rev (xs : Array Value) : ((List.range xs.size).filterMap fun (k : Nat) => xs[((xs.size : Int) - 1 + (k : Int) * (-1)).toNat]?).toArray = xs.toList.reverse.toArray := by
  have h := PySem.W.krv_pick xs
  rw [← h]
  unfold slicePick
  rw [PySem.W.krv_bounds]
  show _ = ((sliceRange ((xs.size : Int) - 1) (-1) (-1)).filterMap (xs[·]?)).toArray
  rw [PySem.W.krv_sliceRange, List.filterMap_map]
  congr 1
  have go : ∀ l : List Nat, (∀ k ∈ l, k < xs.size) → l.filterMap (fun (k : Nat) => xs[((xs.size : Int) - 1 + (k : Int) * (-1)).toNat]?) = l.filterMap ((fun x => xs[x]?) ∘ fun k => xs.size - 1 - k) := by
    intro l
    induction l with
    | nil => intro _; rfl
    | cons k l ih =>
      intro h
      have hk := h k List.mem_cons_self
      have e : ((xs.size : Int) - 1 + (k : Int) * (-1)).toNat = xs.size - 1 - k := by omega
      rw [List.filterMap_cons, List.filterMap_cons, e, ih fun x hx => h x (List.mem_cons_of_mem _ hx)]
      rfl
  exact go _ fun k hk => List.mem_range.mp hk
theorem getItem_rev {t sl : Addr} {items : Array Value} {vl vu vs : Value} {Q : Value → Shared → Prop} (ht : IsTup s.heap t items) (hs : s.heap.IsSliceOf sl vl vu vs) (pl : IsPart vl none) (pu : IsPart vu none) (ps : IsPart vs (some (-1)))
    (h : Q (.ref s.heap.objs.size) { s with heap := s.heap.push { cls := .type "tuple", data := .seq items.toList.reverse.toArray } }) (hsz : items.size ≤ sizeLine) : wpAny (model prog w) A (getItem (.ref t) (.ref sl)) Q E s := by
  have hok : sizeOk (.seq items.toList.reverse.toArray) := by
    show items.toList.reverse.toArray.size ≤ sizeLine
    rw [List.size_toArray, List.length_reverse, Array.length_toList]
    exact hsz
  obtain ⟨os, hos, hcs, hds⟩ := id hs
  have hTs : s.TypeIs (.ref sl) "slice" := ⟨os, hos, hcs⟩
  unfold getItem
  try with_reducible refine wpAny_holding ?_
  first | refine wpAny_bind (wpAny_pure ?_) | skip
  refine wpAny_bind (wpAny_sequenceKey ht.typeIs (by decide) ?_)
  refine wpAny_bind (wpAny_callSpecial?_slot (name := Str.ofString "__getitem__") ht.typeIs PyProof.Rows.slot_tuple_getitem
    (wpAny_call_entry PyProof.Rows.slot_tuple_getitem ht.typeIs entry_tuple_getitem ?_ (args_tuple_getitem _ _)))
  show wpAny _ _ (Builtin.Tuple.tupleItemsOf (.ref t) >>= _) _ _ s
  refine wpAny_bind (tupleItemsOf_ ht ?_)
  refine wpAny_bind (wpAny_typeOf hTs ?_)
  rw [if_pos (by decide)]
  have app : ∀ {Q : Int × Int × Nat → Shared → Prop}, Q ((items.size : Int) - 1, -1, items.size) s → wpAny (model prog w) A.in1 (Builtin.Slice.sliceApplied (.ref sl) (pure (items.size : Int))) Q E s := fun {Q} q => by
    unfold Builtin.Slice.sliceApplied Builtin.Slice.sliceFields
    refine wpAny_bind (wpAny_bind (wpAny_field hos hds (x := vl) rfl (wpAny_bind (wpAny_field hos hds (x := vu) rfl (wpAny_bind (wpAny_field hos hds (x := vs) rfl (wpAny_pure ?_)))))))
    refine wpAny_bind (HT.slicePart_ ps ?_)
    show wpAny _ _ (if ((-1 : Int) == 0) = true then _ else _) _ _ s
    rw [if_neg (by decide)]
    refine wpAny_bind (HT.slicePart_ pl (wpAny_bind (HT.slicePart_ pu (wpAny_bind (wpAny_pure ?_)))))
    have e : Builtin.Slice.slicePlaces ((items.size : Int) - 1) (-1) (-1) = items.size := places_rev _
    show wpAny _ _ (pure (((items.size : Int) - 1), (-1 : Int), Builtin.Slice.slicePlaces ((items.size : Int) - 1) (-1) (-1))) _ _ s
    rw [e]
    exact wpAny_pure q
  refine wpAny_bind (app ?_)
  have hno : ¬ ((((items.size : Int) - 1) == 0 && (-1 : Int) == 1 && items.size == items.size) = true) := by
    intro q
    rw [Bool.and_eq_true, Bool.and_eq_true] at q
    exact absurd q.1.2 (by decide)
  show wpAny _ _ (if (((items.size : Int) - 1) == 0 && (-1 : Int) == 1 && items.size == items.size) = true then _ else _) _ _ s
  rw [if_neg hno, pick_rev]
  first
    | exact wpAny_bind (m := Builtin.Tuple.tupleExact _) (wpAny_newObj_type (wpAny_pure ⟨_, rfl, wpAny_pure h⟩) hok)
    | exact wpAny_bind (m := Builtin.Tuple.tupleExact _) (wpAny_newObj_type (wpAny_bind (wpAny_pure (wpAny_pure ⟨_, rfl, wpAny_pure h⟩))) hok)
    | exact wpAny_bind (wpAny_bind (m := Builtin.Tuple.tupleExact _) (wpAny_newObj_type (wpAny_pure (wpAny_pure ⟨_, rfl, wpAny_pure h⟩)) hok))
    | exact wpAny_bind (wpAny_bind (m := Builtin.Tuple.tupleExact _) (wpAny_newObj_type (wpAny_pure ⟨_, rfl, wpAny_pure h⟩) hok))
end
end My
/-! A class made by a star, classmethods, x[k] by an own __getitem__, bool of a tuple, a tuple turned about, enumerate in a for. -/
namespace My
open PySem PySem.Spec PySem.Calls PyProof.Rows L2
/-! ### t[::-1] -/
def tRevT (K : PySem.W.Frag) (te : TE) : TE := fun σ H Q => te σ H fun x H1 => ∃ a xs, x = .ref a ∧ SqT K H1 a xs ∧ ∀ p, H1 p = none → Q (.ref p) (upd H1 p (.tup xs.reverse))
theorem pe_revT {X : Cx} {e : Expr} {te : TE} {k : Nat} {p1 p2 p3 pos : Pos} (he : PE X e te) : PE X (.Subscript e (.Slice none none (some (.UnaryOp .USub (.Constant (.int 1) k p1) p2)) p3) pos) (tRevT X.K te) := by
  refine ⟨fun pins s σ H Q I h => ?_⟩
  refine Subscript_ (thn (he.run pins s σ H _ I h) fun v t1 ⟨x, H1, I1, r1, a, xs, ex, hx, q⟩ => ?_)
  subst ex
  cases r1
  have step : PO X (some (.UnaryOp .USub (.Constant (.int 1) k p1) p2)) (tPart (tUn (rU fun i => .int (-i)) (tC (.int 1)))) := po_some (pe_un un_neg pe_int)
  refine wpAny_Slice (thn (po_none.run pins t1 σ H1 (fun o H2 => o = none ∧ H2 = H1) I1 ⟨rfl, rfl⟩) fun vl t2 ⟨l, H2, I2, pl, el, e2⟩ => ?_)
  subst el e2
  refine thn (po_none.run pins t2 σ H2 (fun o H3 => o = none ∧ H3 = H2) I2 ⟨rfl, rfl⟩) fun vu t3 ⟨u, H3, I3, pu, eu, e3⟩ => ?_
  subst eu e3
  refine thn (step.run pins t3 σ H3 (fun o H4 => o = some (-1) ∧ H4 = H3) I3 ⟨1, rfl, -1, rfl, rfl, rfl⟩) fun vs t4 ⟨o, H4, I4, ps, eo, e4⟩ => ?_
  subst eo e4
  have I5 : Inv X pins σ H4 { t4 with heap := t4.heap.push { cls := .type "slice", data := .fields #[vl, vu, vs] } } := I4.kept (t' := t4.toks) fun b ob q => Heap.get?_push_of_some _ q
  obtain ⟨its, r, ht, hz⟩ := I5.tuple hx
  have hlen := r.length
  show wpAny (model X.prog X.w) X.A (subscriptTail e (.Slice none none (some (.UnaryOp .USub (.Constant (.int 1) k p1) p2)) p3) (.ref a) (.ref t4.heap.objs.size)) (EP X pins σ Q) X.xe { t4 with heap := t4.heap.push { cls := .type "slice", data := .fields #[vl, vu, vs] } }
  refine tail_any (ops := [.ref a, .ref t4.heap.objs.size]) ht.typeIs (PyProof.Rows.slot_tuple_getitem.lookup) ?_ (by with_unfolding_all rfl)
  refine getItem_rev ht (Heap.IsSliceOf.new _ vl vu vs) pl pu ps ?_ (by rw [List.size_toArray]; omega)
  refine ⟨.ref _, _, I5.laid (t' := t4.toks) (o := .tup xs.reverse) (fun b ob q => Heap.get?_push_of_some _ q) (Nat.le_refl _) ?_, rfl, q _ (I5.hok.fresh (Nat.le_refl _))⟩
  exact ⟨by rw [List.length_reverse]; exact hz, _, r.reverse, ⟨_, Heap.get?_push_size _ rfl, rfl, _, rfl⟩⟩
/-! ### bool(t) -/
section
variable {prog : Program} {w : World} {A : Around} {E : Value → Shared → Prop} {s : Shared}
theorem bool_tup {t : Addr} {items : Array Value} {Q : Value → Shared → Prop} (hfit : (items.size : Int) < 2 ^ 63) (ht : IsTup s.heap t items) (h : ∀ tk, Q (.bool (!items.isEmpty)) { s with toks := tk }) : wpAny (model prog w) A (call (.type "bool") [.ref t]) Q E s := by
  refine callType_codes (T := "bool") (Bi := Builtin.«object.__init__») (Q₁ := fun r s' => ∃ b, r = .bool b ∧ Q r s') PySem.F.called_bool (PySem.F.typeCall_bool_1 _) PySem.F.entry_object_init ?_ ?_
  · refine codeAny_of_tree ?_
    show wpAny _ A.in1.in1 (do checkBuiltinCall "bool.__new__" ⟨[.type "bool", .ref t], []⟩; again (.builtin "bool.__new__" ⟨[.type "bool", .ref t], []⟩)) _ _ s
    refine wpAny_bind (wpAny_of_eq (PySem.F.newCall_bool_1 _) (wpAny_pure ⟨plainId_quiet (by decide +kernel) _, codeAny_builtin PySem.F.entry_bool_new ?_⟩))
    rw [Around.under_plainId (by decide +kernel) _]
    unfold Builtin.«bool.__new__»
    have f1 := PySem.F.conv_sub_bool
    have go : wpAny (model prog w) A.in1.in1 (truthy (.ref t)) (fun b s' => Q (.bool b) s') E s := truthy_tuple ht hfit (h _)
    refine wpAny_bind (m := isType (.type "bool")) (wpAny_pure ?_)
    refine wpAny_bind (m := isSubtype (.type "bool") (.type "bool")) (wpAny_of_eq f1 ?_)
    refine wpAny_bind (wpAny_pure ?_)
    refine wpAny_bind (m := truthy (.ref t)) (wpAny_mono go (fun b s' hq => ?_) fun _ _ y => y)
    exact wpAny_pure ⟨b, rfl, hq⟩
  · rintro obj s' ⟨b, rfl, hq⟩
    exact ⟨PySem.typeIs_bool _ _, PySem.F.args_object_init_2 _ _, object_init_meets PySem.F.called_bool.init.lookup PySem.F.called_bool.made (by decide) prog w A.in1 _ s' ⟨PySem.typeIs_bool _ _, rfl, hq⟩⟩
end
theorem call_boolT {X : Cx} : CallR X (.type "bool") (fun xs H Q => ∃ (a : Addr) (zs : List V), xs = [.ref a] ∧ SqT X.K H a zs ∧ Q (.bl (!zs.isEmpty)) H) := by
  intro pins s σ H xs us Q I r h
  obtain ⟨a, zs, rfl, hq, q⟩ := h
  obtain rfl := Vals.ref1 r
  obtain ⟨its, rv, pl, hz⟩ := I.tuple hq
  have hl := line63
  have hlen := rv.length
  refine bool_tup (by simp only [List.size_toArray]; omega) pl fun tk => ?_
  exact ⟨.bl (!zs.isEmpty), H, I.tok _, by rw [isEmpty_of rv]; rfl, q⟩
/-! ### a class whose __init__ takes a star -/
structure MakeR (P : Program) (w : World) (K : PySem.W.Frag) (mg : Str → Option Value) (base : Heap) (CX : CXT) (k : Nat) (x : Str) (C : Addr) (sp : Sp) : Prop where
  ex : ∃ f, Mk K C f ∧ FnR P w K mg base CX k f sp ∧ mg x = some (.ref C)
section
variable {X : Cx} {CX : CXT} {k : Nat} {C : Addr} {sp : Sp} {E : XK} {x : Str} {e : Expr} {es : List Expr} {te : TE} {t : TA} {p sp_ pos : Pos}
theorem pe_mkR (M : MakeR X.prog X.w X.K X.mg X.base CX k x C sp) (hr : Room (k + 1) X.A) (hg : Gl X x) (hx : Passes CX X E) (ha : PA X (e :: es) t) (hdb : (x == ("__debug__" : Str)) = false := by decide)
    (he : starEach (e :: es) X.env = (false, eval e X.env) :: starEach es X.env := by rfl) (hpl : (backTo pos (starEach es X.env)).any (·.1) = false := by rfl) : PE X (.Call (.Name x p) (e :: es) [] pos) (StX.tMakeR C sp E t) := by
  obtain ⟨f, mk, F, hm⟩ := M.ex
  exact StX.pe_makeR mk F hr hg hm hx ha hdb he hpl
/-- C() -/
theorem pe_mkR0 (M : MakeR X.prog X.w X.K X.mg X.base CX k x C sp) (hr : Room (k + 1) X.A) (hg : Gl X x) (hx : Passes CX X E) (hdb : (x == ("__debug__" : Str)) = false := by decide) : PE X (.Call (.Name x p) [] [] pos) (StX.tMakeR C sp E tNil) := by
  obtain ⟨f, mk, F, hm⟩ := M.ex
  refine ⟨fun pins s σ H Q I h => ?_⟩
  refine wpAny_Call_Name_kw (ld_glob I hg hm ?_ hdb)
  refine PySem.W.callWith_K0 (first := []) I.kIn mk.kp ?_
  exact StX.run_makeR mk F hr hx I .nil h
/-- C(*e) -/
def tMakeS (K : PySem.W.Frag) (C : Addr) (sp : Sp) (E : XK) (te : TE) : TE := fun σ H Q => te σ H fun y H1 => ∃ a xs, y = V.ref a ∧ (SqT K H1 a xs ∨ SqL K H1 a xs) ∧ ∀ x dx, H1 x = none → H1 dx = none → dx ≠ x →
  sp (V.ref x :: xs) (upd (upd H1 dx (.own x)) x (.ins C dx [])) (fun v H2 => v = .non ∧ Q (.ref x) H2) E
theorem pe_mkS (M : MakeR X.prog X.w X.K X.mg X.base CX k x C sp) (hr : Room (k + 1) X.A) (hg : Gl X x) (hx : Passes CX X E) (he : PE X e te) (hdb : (x == ("__debug__" : Str)) = false := by decide)
    (hst : starEach [.Starred e sp_] X.env = [(true, eval e X.env)] := by rfl) : PE X (.Call (.Name x p) [.Starred e sp_] [] pos) (tMakeS X.K C sp E te) := by
  obtain ⟨f, mk, F, hm⟩ := M.ex
  refine ⟨fun pins s σ H Q I h => ?_⟩
  refine wpAny_Call_Name_kw (ld_glob I hg hm ?_ hdb)
  refine PySem.W.callWith_S (h₀ := X.base) I.ok.mod.kin mk.kp (thn (he.run pins s σ H _ I h) fun v t1 ⟨y, H1, I1, ry, a, xs, ey, hxs, q⟩ => ?_) hst
  subst ey
  obtain rfl : v = Value.ref a := ry
  exact StX.star_any I1 hxs fun us t2 I2 rv => ⟨I2.kIn, StX.run_makeR mk F hr hx I2 rv q⟩
end
/-! ### classmethods -/
theorem fnR_of {P : Program} {w : World} {K : PySem.W.Frag} {mg : Str → Option Value} {base : Heap} {CX : CXT} {k : Nat} {f : Addr} {fd : FuncData} {ps : List Str} {sp : Sp} (F : FnOk P w K mg base CX k f fd ps sp) (b : L2.Binds K fd ps []) : FnR P w K mg base CX k f sp := by
  intro A outer s H us vs Q E hr e0 r hsp
  have hl : (us ++ []).length = ps.length := by
    rw [List.append_nil, ← r.length]
    exact F.len _ _ _ _ hsp
  have hb := b s us (e0.mod.kin.keeps fun b o e => (e0.bs b o e).1) hl
  rw [List.append_nil] at hb
  exact F.run A outer s H ⟨us, []⟩ us vs Q E hr e0 hb r hsp
structure ClsAt (P : Program) (w : World) (K : PySem.W.Frag) (mg : Str → Option Value) (base : Heap) (CX : CXT) (k : Nat) (C : Addr) (m : Str) (sp : Sp) : Prop where
  ex : ∃ mc p g, ClX.CRead K C mc ∧ ClX.CMet K C mc m p g ∧ FnR P w K mg base CX k g sp
theorem pe_cm {X : Cx} {CX : CXT} {k : Nat} {C : Addr} {sp : Sp} {E : XK} {o e : Expr} {es : List Expr} {m : Str} {pos apos : Pos} {ta : TE} {t : TA} {pl : Sem Bool} (M : ClsAt X.prog X.w X.K X.mg X.base CX k C m sp) (hr : Room k X.A) (hx : Passes CX X E) (he : PE X o ta) (ha : PA X (e :: es) t)
    (hst : starEach (e :: es) X.env = (false, eval e X.env) :: starEach es X.env := by rfl) (hpl : (backTo pos (starEach es X.env)).any (·.1) = false := by rfl)
    (ht : eval (.Call (.Attribute o m apos) (e :: es) [] pos) X.env = (do
      let ov ← eval o X.env
      standAt apos.atName
      let (f, first) ← holding [ov] (getMethod ov m pl)
      callWith pos f first (backTo pos (starEach (e :: es) X.env)) (backToKw pos (keywordEach [] X.env))) := by rfl) :
    PE X (.Call (.Attribute o m apos) (e :: es) [] pos) (ClX.tCMeth C sp E ta t) := by
  obtain ⟨mc, p, g, r, c, F⟩ := M.ex
  exact ClX.pe_cmeth he r c F hr hx ha hst hpl ht
/-! ### x[k] by an own __getitem__ -/
structure GetAt (P : Program) (w : World) (K : PySem.W.Frag) (mg : Str → Option Value) (base : Heap) (CX : CXT) (k : Nat) (C : Addr) (ps : List Str) (sp : Sp) : Prop where
  ex : ∃ f fd, PySem.W.findIn K (.ref C) "__getitem__" = some (some (.ref f)) ∧ PySem.W.isFn K (.ref f) = true ∧ PySem.W.fnIn K f = true ∧ FnOk P w K mg base CX k f fd ps sp ∧ L2.Binds K fd ps []
def tGet (C : Addr) (sp : Sp) (E : XK) (ta tb : TE) : TE := fun σ H Q => ta σ H fun x H1 => tb σ H1 fun y H2 => ∃ a dx fs, x = .ref a ∧ H2 a = some (.ins C dx fs) ∧ sp [x, y] H2 Q E
theorem pe_get {X : Cx} {CX : CXT} {k : Nat} {C : Addr} {ps : List Str} {sp : Sp} {E : XK} {a b : Expr} {ta tb : TE} {pos : Pos} (M : GetAt X.prog X.w X.K X.mg X.base CX k C ps sp) (hr : Room (k + 1) X.A) (hx : Passes CX X E) (ha : PE X a ta) (hb : PE X b tb)
    (hsl : ∀ (x : Addr) (i : Value), subscripted b true (.ref x) i = runValue (.builtin "lifetime.subscript" ⟨[.ref x, i], []⟩) := by intro _ _; with_unfolding_all rfl) : PE X (.Subscript a b pos) (tGet C sp E ta tb) := by
  obtain ⟨f, fd, hs, hf, hfn, F, hbd⟩ := M.ex
  refine ⟨fun pins s σ H Q I h => ?_⟩
  refine Subscript_ (binT ha hb I h fun v u s2 x y H2 I2 rx ry q => ?_)
  obtain ⟨p, dx, fs, rfl, hp, hsp⟩ := q
  obtain rfl : v = Value.ref p := rx
  obtain ⟨ox, od, J, _⟩ := ins_plain I2 hp
  obtain ⟨m', hF⟩ := I2.fr
  have U : Und X k X.A.in1 := (Und.here hr).in1
  exact PySem.W.sub_K hF I2.ok.mod.kin J hs hfn hf (run_at (vs := [.ref p, y]) F hbd hx U I2 (.cons rfl (.cons ry .nil)) hsp) (hsl _ _)
end My
/-! A class made by a star, a classmethod, an own __getitem__, from what the top finds. -/
namespace My
open PySem PySem.Spec PyProof.Rows L2
theorem nm_at : Sup.Nm "at" := ⟨by decide, by decide, by decide, by decide, fun _ _ _ _ _ _ _ _ _ _ _ _ => rfl⟩
theorem nm_value : Sup.Nm "value" := ⟨by decide, by decide, by decide, by decide, fun _ _ _ _ _ _ _ _ _ _ _ _ => rfl⟩
structure HasCM (K : PySem.W.Frag) (C : Addr) (m qual : Str) (st : Stmt) : Prop where
  ex : ∃ mc p g fd, ClX.CRead K C mc ∧ ClX.CMet K C mc m p g ∧ Fun K m qual st g fd
section
variable {P : Program} {w : World} {K : PySem.W.Frag} {mg : Str → Option Value} {base : Heap} {CX : CXT} {k : Nat} {x m qual : Str} {st : Stmt} {ps ks : List Str} {sp : Sp} {C : Addr}
theorem makeR_at (A : HasM K C "__init__" qual st) (hx : mg x = some (.ref C)) (mk : PySem.W.makesIn K C = true) (kp : PySem.W.keepIn K (.ref C) = true)
    (ok : ∀ (f : Addr) (oc : Value) (od : Option Addr) (kV doc pm : Value) (an : Option Addr) (cdv ct : Value) (osl : Array (Option Value)), K.lookup f = some ⟨oc, od, .func (PySem.W.fnOf "__init__" qual (defArgs st) (defBody st) (defScope st) .none kV doc pm an cdv ct), osl⟩ → PySem.W.codeIn K cdv qual = true → FnR P w K mg base CX k f sp) : MakeR P w K mg base CX k x C sp := by
  obtain ⟨f, fd, h1, h2, F⟩ := A.ex
  obtain ⟨oc, od, kV, doc, pm, an, cdv, ct, osl, rfl, lk, hcd⟩ := F.ex
  exact ⟨f, ⟨mk, h1, h2, kp⟩, ok f _ _ _ _ _ _ _ _ _ lk hcd, hx⟩
theorem cls_at (A : HasCM K C m qual st) (ok : ∀ f fd, Fun K m qual st f fd → FnOk P w K mg base CX k f fd ps sp) (b : BindW m qual st ps) : ClsAt P w K mg base CX k C m sp := by
  obtain ⟨mc, p, g, fd, h1, h2, F⟩ := A.ex
  exact ⟨mc, p, g, h1, h2, fnR_of (ok g fd F) (F.binds b)⟩
theorem get_at (A : HasM K C "__getitem__" qual st) (ok : ∀ f fd, Fun K "__getitem__" qual st f fd → FnOk P w K mg base CX k f fd ps sp) (b : BindW "__getitem__" qual st ps) : GetAt P w K mg base CX k C ps sp := by
  obtain ⟨f, fd, h1, h2, F⟩ := A.ex
  have F' := F
  obtain ⟨oc, od, kV, doc, pm, an, cdv, ct, osl, rfl, lk, _⟩ := id F.ex
  refine ⟨f, _, h1, h2, ?_, ok f _ F', F'.binds b⟩
  unfold PySem.W.fnIn
  rw [lk]
end
end My
/-! The head by one kernel run: what is looked at behind the top, and the end that goes with it. -/
namespace My
open PySem PySem.Spec PyProof.Rows L2 He
/-! ### what is looked at -/
/-- what is read off the heap, by names -/
inductive Sel where
  | fn (x : Str)
  | cls (x : Str)
  | meth (x m : Str)
  | rcd (x m : Str)
def nsG (g : Addr → Option Obj) (d : Addr) (x : Str) : Addr := match g d with
  | some ⟨_, _, .dict es _, _⟩ => (match es.toList.find? (·.key.isStr x) with
    | some e => (match e.val with
      | .ref a => a
      | _ => 0)
    | none => 0)
  | _ => 0
def clsNs (g : Addr → Option Obj) (C : Addr) : Addr := match g C with
  | some ⟨_, _, .cls cd, _⟩ => cd.ns
  | _ => 0
def mroG (g : Addr → Option Obj) (C : Addr) : List Addr := match g C with
  | some ⟨_, _, .cls cd, _⟩ => cd.mro.flatMap fun v => match v with
    | .ref D => [D, clsNs g D]
    | _ => []
  | _ => []
def fnRefs (g : Addr → Option Obj) (f : Addr) : List Addr := match g f with
  | some ⟨_, _, .func fd, _⟩ => f :: (refV fd.code ++ (refV fd.defaults ++ fd.closure.map (·.2)))
  | _ => []
def recRefs (g : Addr → Option Obj) (p : Addr) : List Addr := match g p with
  | some ⟨_, _, .fields vs, _⟩ => p :: (match vs.toList with
    | .ref f :: _ => fnRefs g f
    | _ => [])
  | _ => []
def Sel.adr (g : Addr → Option Obj) : Sel → List Addr
  | .fn x => fnRefs g (nsG g mainGlobals x)
  | .cls x => mroG g (nsG g mainGlobals x)
  | .meth x m => fnRefs g (nsG g (clsNs g (nsG g mainGlobals x)) m)
  | .rcd x m => recRefs g (nsG g (clsNs g (nsG g mainGlobals x)) m)
def asM (g : Addr → Option Obj) (sl : List Sel) : List Addr := mainGlobals :: cStatics :: sysModules :: sl.flatMap fun x => x.adr g
/-- one def: where it stands, its names, its statement, its defaults -/
structure FD where
  at_ : PySem.W.Frag → Addr
  nm : Str
  qual : Str
  st : Stmt
  dfl : List Dv := []
abbrev FV : Type := Option (Str × Str × Arguments × FuncBody × Scope)
def fv (K : PySem.W.Frag) (a : Addr) : FV := match K.lookup a with
  | some ⟨_, _, .func fd, _⟩ => some (fd.name, fd.qualname, fd.params, fd.body, fd.scope)
  | _ => none
def FD.val (d : FD) : FV := some (d.nm, d.qual, defArgs d.st, .stmts (defBody d.st), defScope d.st)
/-- a plain def -/
def fdB (K : PySem.W.Frag) (a : Addr) (qual : Str) (dvs : List V) : Bool := match K.lookup a with
  | some ⟨_, _, .func fd, _⟩ => decide (fd.globals = mainGlobals) && (decide (fd.builtins = builtinsNs) && (fd.closure.isEmpty && (PySem.W.codeIn K fd.code qual && (dflB K fd.defaults dvs && (decide (fd.kwdefaults = .none) && PySem.W.keepIn K (.ref a))))))
  | _ => false
/-- a def with its class in its closure -/
def fdC (K : PySem.W.Frag) (a : Addr) (qual : Str) (C : Addr) : Bool := match K.lookup a with
  | some ⟨_, _, .func fd, _⟩ => decide (fd.globals = mainGlobals) && (decide (fd.builtins = builtinsNs) && (PySem.W.codeIn K fd.code qual && (decide (fd.defaults = .none) && (decide (fd.kwdefaults = .none) && (match fd.closure with
    | [(x, cc)] => decide (x = ("__class__" : Str)) && (match K.lookup cc with
      | some ⟨_, _, .cell (some (.ref C')), _⟩ => decide (C' = C)
      | _ => false)
    | _ => false)))))
  | _ => false
theorem fdB_ok {K : PySem.W.Frag} {a : Addr} {nm qual : Str} {st : Stmt} {dvs : List V} (e : fv K a = some (nm, qual, defArgs st, .stmts (defBody st), defScope st)) (h : fdB K a qual dvs = true) : ∃ oc od dV doc pm an cdv ct osl,
    K.lookup a = some ⟨oc, od, .func (PySem.W.fnOf nm qual (defArgs st) (defBody st) (defScope st) dV .none doc pm an cdv ct), osl⟩ ∧ PySem.W.codeIn K cdv qual = true ∧ DflV K dV dvs ∧ PySem.W.keepIn K (.ref a) = true := by
  unfold fv at e
  unfold fdB at h
  cases q : K.lookup a with
  | none => rw [q] at h; cases h
  | some o =>
    obtain ⟨oc, od, dt, osl⟩ := o
    rw [q] at h e
    cases dt with
    | func fd =>
      obtain ⟨n1, n2, n3, n4, n5, n6, n7, n8, n9, n10, n11, n12, n13, n14, n15⟩ := fd
      have e2 : (some (n1, n2, n3, n4, n5) : FV) = some (nm, qual, defArgs st, .stmts (defBody st), defScope st) := e
      simp only [Option.some.injEq, Prod.mk.injEq] at e2
      obtain ⟨h1, h2, h3, h4, h5⟩ := e2
      subst h1 h2 h3 h4 h5
      obtain ⟨k1, h⟩ := ba h
      obtain ⟨k2, h⟩ := ba h
      obtain ⟨k3, h⟩ := ba h
      obtain ⟨k4, h⟩ := ba h
      obtain ⟨k5, h⟩ := ba h
      obtain ⟨k6, k7⟩ := ba h
      have l1 : n6 = mainGlobals := of_decide_eq_true k1
      have l2 : n15 = builtinsNs := of_decide_eq_true k2
      have l3 : n7 = [] := List.isEmpty_iff.mp k3
      have l6 : n9 = Value.none := of_decide_eq_true k6
      subst l1 l2 l3 l6
      exact ⟨oc, od, n8, n10, n11, n12, n13, n14, osl, rfl, k4, dflB_ok k5, k7⟩
    | _ => cases h
theorem fdC_ok {K : PySem.W.Frag} {a C : Addr} {nm qual : Str} {st : Stmt} (e : fv K a = some (nm, qual, defArgs st, .stmts (defBody st), defScope st)) (h : fdC K a qual C = true) : ∃ oc od doc pm an cda ct cc osl,
    K.lookup a = some ⟨oc, od, .func (PySem.W.ksFn nm qual (defArgs st) (defBody st) (defScope st) .none .none doc pm an (.ref cda) ct cc), osl⟩ ∧ PySem.W.codeIn K (.ref cda) qual = true ∧ ∃ cl cld csl, K.lookup cc = some ⟨cl, cld, .cell (some (.ref C)), csl⟩ := by
  unfold fv at e
  unfold fdC at h
  cases q : K.lookup a with
  | none => rw [q] at h; cases h
  | some o =>
    obtain ⟨oc, od, dt, osl⟩ := o
    rw [q] at h e
    cases dt with
    | func fd =>
      obtain ⟨n1, n2, n3, n4, n5, n6, n7, n8, n9, n10, n11, n12, n13, n14, n15⟩ := fd
      have e2 : (some (n1, n2, n3, n4, n5) : FV) = some (nm, qual, defArgs st, .stmts (defBody st), defScope st) := e
      simp only [Option.some.injEq, Prod.mk.injEq] at e2
      obtain ⟨h1, h2, h3, h4, h5⟩ := e2
      subst h1 h2 h3 h4 h5
      obtain ⟨k1, h⟩ := ba h
      obtain ⟨k2, h⟩ := ba h
      obtain ⟨k4, h⟩ := ba h
      obtain ⟨k5, h⟩ := ba h
      obtain ⟨k6, k7⟩ := ba h
      have l1 : n6 = mainGlobals := of_decide_eq_true k1
      have l2 : n15 = builtinsNs := of_decide_eq_true k2
      have l5 : n8 = Value.none := of_decide_eq_true k5
      have l6 : n9 = Value.none := of_decide_eq_true k6
      subst l1 l2 l5 l6
      obtain ⟨cda, l4⟩ := codeIn_ref k4
      have l4 : n13 = Value.ref cda := l4
      subst l4
      match n7, k7 with
      | [(x, cc)], k7 =>
        obtain ⟨m1, m2⟩ := ba k7
        have m1 : x = ("__class__" : Str) := of_decide_eq_true m1
        subst m1
        refine ⟨oc, od, n10, n11, n12, cda, n14, cc, osl, rfl, k4, ?_⟩
        cases q2 : K.lookup cc with
        | none => rw [q2] at m2; cases m2
        | some o2 =>
          obtain ⟨cl, cld, cdt, csl⟩ := o2
          rw [q2] at m2
          cases cdt with
          | cell v =>
            match v, m2 with
            | some (.ref C'), m2 =>
              have m3 : C' = C := of_decide_eq_true m2
              subst m3
              exact ⟨cl, cld, csl, rfl⟩
          | _ => cases m2
    | _ => cases h
/-! ### where things stand -/
def refB : Option (List Value) → Bool
  | some (.ref _ :: _) => true
  | _ => false
def refA : Option (List Value) → Addr
  | some (.ref f :: _) => f
  | _ => 0
theorem refB_ok : ∀ {l : Option (List Value)}, refB l = true → ∃ rest, l = some (.ref (refA l) :: rest)
  | none, h => by cases h
  | some [], h => by cases h
  | some (v :: r), h => by
    cases v with
    | ref f => exact ⟨r, rfl⟩
    | _ => cases h
def strQ : Option Value → Str → Bool
  | some (.str file _), f => f == file
  | _, _ => false
theorem strQ_ok : ∀ {o : Option Value} {f : Str}, strQ o f = true → ∃ file tf, o = some (.str file tf) ∧ (f == file) = true
  | none, _, h => by cases h
  | some v, f, h => by
    cases v with
    | str file tf => exact ⟨file, tf, rfl, h⟩
    | _ => cases h
def sAt (t : String) (K : PySem.W.Frag) (C : Addr) (m : Str) : Addr := match PySem.W.findCls K (.ref C) (.type "type") m with
  | some (.get _ (.ref p) _ _) => refA (PySem.W.recIn K p t)
  | _ => 0
def pAt (K : PySem.W.Frag) (C : Addr) (m : Str) : Addr := match PySem.W.findIn K (.ref C) m with
  | some (some (.ref p)) => refA (PySem.W.recIn K p "property")
  | _ => 0
def cAt (K : PySem.W.Frag) (f : Addr) : Addr := match K.lookup f with
  | some ⟨_, _, .func fd, _⟩ => (match fd.code with
    | .ref c => c
    | _ => 0)
  | _ => 0
theorem cAt_eq {K : PySem.W.Frag} {f : Addr} {oc : Value} {od : Option Addr} {osl : Array (Option Value)} {fd : FuncData} {c : Addr} (lk : K.lookup f = some ⟨oc, od, .func fd, osl⟩) (e : fd.code = .ref c) : cAt K f = c := by
  unfold cAt
  rw [lk]
  show (match fd.code with | .ref c => c | _ => 0) = c
  rw [e]
/-! ### the hook -/
abbrev AM : Type := Bool × List FV
def tabM (g : Addr → Option Obj) (tf : List (PySem.W.Frag → Addr)) (K : PySem.W.Frag) : Bool := tf.all fun f => PySem.W.codeHdIn K (cAt K (f K)) (tabOf K (cAt K (f K))) && (match g (tabOf K (cAt K (f K))) with
  | some o => emptyTab o
  | none => false)
def obsK (g : Addr → Option Obj) (fs : List (PySem.W.Frag → Bool)) (fn : List FD) (tf : List (PySem.W.Frag → Addr)) (K : PySem.W.Frag) : AM := ((fs.all fun f => f K) && tabM g tf K, fn.map fun d => fv K (d.at_ K))
def obsM (n : List Sel) (fs : List (PySem.W.Frag → Bool)) (fn : List FD) (tf : List (PySem.W.Frag → Addr)) (g : Addr → Option Obj) : AM := obsK g fs fn tf (frT g (asM g n))
def valM (fn : List FD) : AM := (true, fn.map FD.val)
structure SaysM (fs : List (PySem.W.Frag → Bool)) (fn : List FD) (tf : List (PySem.W.Frag → Addr)) (h : Heap) (K : PySem.W.Frag) : Prop where
  facts : ∀ (i : Nat) (f : PySem.W.Frag → Bool), fs[i]? = some f → f K = true
  defs : ∀ (i : Nat) (d : FD), fn[i]? = some d → fv K (d.at_ K) = d.val
  hd : ∀ (i : Nat) (f : PySem.W.Frag → Addr), tf[i]? = some f → PySem.W.codeHdIn K (cAt K (f K)) (tabOf K (cAt K (f K))) = true
  out : ∀ (i : Nat) (f : PySem.W.Frag → Addr), tf[i]? = some f → K.lookup (tabOf K (cAt K (f K))) = none
  empty : ∀ (i : Nat) (f : PySem.W.Frag → Addr), tf[i]? = some f → h.get? (tabOf K (cAt K (f K))) = some { cls := .none, data := .fields #[] }
theorem saysM_of {n : List Sel} {fs : List (PySem.W.Frag → Bool)} {fn : List FD} {tf : List (PySem.W.Frag → Addr)} {h : Heap} (e : obsM n fs fn tf h.get? = valM fn) : SaysM fs fn tf h (frT h.get? (asM h.get? n)) := by
  have e1 : ((fs.all fun f => f (frT h.get? (asM h.get? n))) && tabM h.get? tf (frT h.get? (asM h.get? n))) = true := congrArg (fun z : AM => z.1) e
  have e2 : (fn.map fun d => fv (frT h.get? (asM h.get? n)) (d.at_ (frT h.get? (asM h.get? n)))) = fn.map FD.val := congrArg (fun z : AM => z.2) e
  obtain ⟨h1, h2⟩ := ba e1
  have key : ∀ (i : Nat) (f : PySem.W.Frag → Addr), tf[i]? = some f → PySem.W.codeHdIn (frT h.get? (asM h.get? n)) (cAt (frT h.get? (asM h.get? n)) (f (frT h.get? (asM h.get? n)))) (tabOf (frT h.get? (asM h.get? n)) (cAt (frT h.get? (asM h.get? n)) (f (frT h.get? (asM h.get? n))))) = true ∧
      ∃ o, h.get? (tabOf (frT h.get? (asM h.get? n)) (cAt (frT h.get? (asM h.get? n)) (f (frT h.get? (asM h.get? n))))) = some o ∧ emptyTab o = true := fun i f hi => by
    obtain ⟨h3, h4⟩ := ba (List.all_eq_true.mp h2 f (List.mem_of_getElem? hi))
    refine ⟨h3, ?_⟩
    cases q : h.get? (tabOf (frT h.get? (asM h.get? n)) (cAt (frT h.get? (asM h.get? n)) (f (frT h.get? (asM h.get? n))))) with
    | none =>
      rw [q] at h4
      cases h4
    | some o =>
      rw [q] at h4
      exact ⟨o, rfl, h4⟩
  refine ⟨fun i f hi => List.all_eq_true.mp h1 f (List.mem_of_getElem? hi), fun i d hi => ?_, fun i f hi => (key i f hi).1, fun i f hi => ?_, fun i f hi => ?_⟩
  · have e3 : (fn.map fun d => fv (frT h.get? (asM h.get? n)) (d.at_ (frT h.get? (asM h.get? n))))[i]? = (fn.map FD.val)[i]? := by rw [e2]
    rw [List.getElem?_map, List.getElem?_map, hi] at e3
    exact Option.some.inj e3
  · obtain ⟨_, o, q, z⟩ := key i f hi
    exact frT_none q z
  · obtain ⟨_, o, q, z⟩ := key i f hi
    rw [q, emptyTab_eq z]
def hookM (n : List Sel) (fs : List (PySem.W.Frag → Bool)) (fn : List FD) (tf : List (PySem.W.Frag → Addr)) : PySem.W.Hook where
  α := AM
  obs := fun s => obsM n fs fn tf s.heap.get?
  val := fun _ => valM fn
  says := fun _ h => ∃ K : PySem.W.Frag, K.In h ∧ SaysM fs fn tf h K
  of := fun _ _ e => ⟨_, frT_in, saysM_of e⟩
  keeps := fun _ _ _ ⟨K, hK, c⟩ k => ⟨K, PySem.W.Frag.In.keeps hK k, ⟨c.facts, c.defs, c.hd, c.out, fun i f hi => k _ _ (c.empty i f hi)⟩⟩
theorem obsM_eq {n : List Sel} {fs : List (PySem.W.Frag → Bool)} {fn : List FD} {tf : List (PySem.W.Frag → Addr)} {g : Addr → Option Obj} {s : Shared} (h : ∀ a, g a = s.heap.get? a) : obsM n fs fn tf g = (hookM n fs fn tf).obs s := by
  have e : g = s.heap.get? := funext h
  rw [e] <;> rfl
/-! ### the end -/
theorem walk_GE {l : PySem.W.OpenLaw} {n k : Nat} {q : Program} {loose : List Str} {XP : (Str → Option Value) → Heap → Prop} {YP : World → Heap → Prop} {d : DefRec} {x : Str}
    (hn : l.most = some n) (hn2 : n ≤ sizeLine) (hdf : d.params.defaults = []) (hr : Room k callerA)
    (F : ∀ (w : World) (mg : Str → Option Value) (fa : Addr) (h : Heap), YP w h → h.Ns mainGlobals mg → mg d.name = some (.ref fa) → ∃ K : PySem.W.Frag, K.In h ∧ LawG l w K k n x mg fa h) :
    PySem.W.WalkO q loose XP YP l.row.toRowW d [] (fun f vs => PySem.call f vs) := by
  refine Att.attach_callB hn hdf fun w s₀ s₁ mg mb fa o pm cd doc a vs ns G Y ho hd hcd hmg hobj hints hlen hbits hg => ?_
  obtain ⟨K, KX, fd, cs, sp, ts, hb, hsp, hF⟩ := F w mg fa _ Y G.T.g hmg
  obtain ⟨H, B⟩ := begins (P := l.prog) (w := w) KX ts hobj hints (Nat.le_trans hlen hn2)
  exact from_begin B KX G.T.g G.T.b G.T.builtins G.T.nolimit hg ts G.T.bmain hobj hr hF hb (hsp H a ns hlen hbits B.tbl B.seq)
/-! ### facts -/
section
variable {K : PySem.W.Frag} {h : Heap} {mg : Str → Option Value} {fs : List (PySem.W.Frag → Bool)} {fn : List FD} {tf : List (PySem.W.Frag → Addr)}
theorem gloM (X : K.In h) (G : h.Ns mainGlobals mg) {x : Str} (c : (Fa.glo x).ok K = true) : mg x = some (.ref (ga K x)) := glo_ok X G c
theorem freeM (X : K.In h) (G : h.Ns mainGlobals mg) {x : Str} (c : (Fa.free x).ok K = true) : mg x = none := free_ok X G c
/-- an attribute of a class that is an object -/
def attB (K : PySem.W.Frag) (C : Addr) (m : Str) : Bool := eqO (PySem.W.findIn K (.ref C) m) (some (some (.ref (ma K C m))))
def fnB (K : PySem.W.Frag) (C : Addr) (m : Str) : Bool := attB K C m && PySem.W.isFn K (.ref (ma K C m))
def statB (K : PySem.W.Frag) (C : Addr) (m : Str) : Bool := eqO (PySem.W.specialIn K (.ref C) "__getattribute__") (some (some (.builtin "type.__getattribute__"))) && (PySem.W.readsIn K C (.type "type") && (PySem.W.keepIn K (.ref (sAt "staticmethod" K C m)) && (match PySem.W.findCls K (.ref C) (.type "type") m with
  | some (.get g (.ref p) o t) => decide (g = .builtin "staticmethod.__get__") && (decide (o = .none) && (decide (t = .ref C) && refB (PySem.W.recIn K p "staticmethod")))
  | _ => false)))
theorem statB_ok {C : Addr} {m : Str} (h : statB K C m = true) : Stat K C m (sAt "staticmethod" K C m) := by
  unfold statB at h
  obtain ⟨h1, h⟩ := ba h
  obtain ⟨h2, h⟩ := ba h
  obtain ⟨h3, h⟩ := ba h
  refine ⟨eqO_ok h1, ⟨.type "type", ?_⟩, h3⟩
  unfold sAt at h3 ⊢
  cases q : PySem.W.findCls K (.ref C) (.type "type") m with
  | none => rw [q] at h; cases h
  | some r =>
    rw [q] at h
    cases r with
    | val v => cases h
    | get g a o t =>
      cases a with
      | ref p =>
        obtain ⟨k1, h5⟩ := ba h
        obtain ⟨k2, h6⟩ := ba h5
        obtain ⟨k3, h7⟩ := ba h6
        have k1 := of_decide_eq_true k1
        have k2 := of_decide_eq_true k2
        have k3 := of_decide_eq_true k3
        subst k1 k2 k3
        obtain ⟨rest, e⟩ := refB_ok h7
        exact ⟨p, rest, h2, rfl, e⟩
      | _ => cases h
def cmetB (K : PySem.W.Frag) (C : Addr) (m : Str) : Bool := PySem.W.fnIn K (sAt "classmethod" K C m) && (match PySem.W.findCls K (.ref C) (.type "type") m with
  | some (.get g (.ref p) o t) => decide (g = .builtin "classmethod.__get__") && (decide (o = .none) && (decide (t = .ref C) && refB (PySem.W.recIn K p "classmethod")))
  | _ => false)
theorem cmetB_ok {C : Addr} {m : Str} (h : cmetB K C m = true) : ∃ p, ClX.CMet K C (.type "type") m p (sAt "classmethod" K C m) := by
  unfold cmetB at h
  obtain ⟨h3, h⟩ := ba h
  unfold sAt at h3 ⊢
  cases q : PySem.W.findCls K (.ref C) (.type "type") m with
  | none => rw [q] at h; cases h
  | some r =>
    rw [q] at h h3
    cases r with
    | val v => cases h
    | get g a o t =>
      cases a with
      | ref p =>
        obtain ⟨k1, h5⟩ := ba h
        obtain ⟨k2, h6⟩ := ba h5
        obtain ⟨k3, h7⟩ := ba h6
        have k1 := of_decide_eq_true k1
        have k2 := of_decide_eq_true k2
        have k3 := of_decide_eq_true k3
        subst k1 k2 k3
        exact ⟨p, q, refB_ok h7, h3⟩
      | _ => cases h
def creadB (K : PySem.W.Frag) (C : Addr) : Bool := PySem.W.readsIn K C (.type "type") && eqO (PySem.W.specialIn K (.ref C) "__getattribute__") (some (some (.builtin "type.__getattribute__")))
theorem creadB_ok {C : Addr} (h : creadB K C = true) : ClX.CRead K C (.type "type") := by
  obtain ⟨h1, h2⟩ := ba h
  exact ⟨h1, eqO_ok h2⟩
def cvalB (K : PySem.W.Frag) (C : Addr) (f : Str) (v : Dv) : Bool := match PySem.W.findCls K (.ref C) (.type "type") f with
  | some (.val u) => relB (v.v K) u
  | _ => false
theorem cvalB_ok {C : Addr} {f : Str} {v : Dv} (h : cvalB K C f v = true) : ∃ u, ClX.CVal K C (.type "type") f (v.v K) u := by
  unfold cvalB at h
  cases q : PySem.W.findCls K (.ref C) (.type "type") f with
  | none => rw [q] at h; cases h
  | some r =>
    rw [q] at h
    cases r with
    | val u => exact ⟨u, q, relB_ok h⟩
    | get _ _ _ _ => cases h
def propB (K : PySem.W.Frag) (C : Addr) (f : Str) : Bool := attB K C f && (eqO (PySem.W.specialIn K (.ref (ma K C f)) "__get__") (some (some (.builtin "property.__get__"))) && (decide (PySem.W.takesIn K (.ref (ma K C f)) = some true) && refB (PySem.W.recIn K (ma K C f) "property")))
theorem propB_ok {C : Addr} {f : Str} (h : propB K C f = true) : PropOf K C f (ma K C f) (pAt K C f) := by
  obtain ⟨h1, h⟩ := ba h
  obtain ⟨h2, h⟩ := ba h
  obtain ⟨h3, h⟩ := ba h
  have h1 := eqO_ok h1
  refine ⟨h1, eqO_ok h2, of_decide_eq_true h3, ?_⟩
  unfold pAt
  rw [h1]
  exact refB_ok h
def excO (K : PySem.W.Frag) (C : Addr) : Bool := (match K.lookup C with
  | some ⟨.type "type", _, .cls cd, sl⟩ => (match cd.mro, sl.toList with
    | .ref C' :: bm, [_, _, _, _, some (.builtin n), _] => C' == C && (n == "ValueError.__new__" && (!cd.hasDel && (cd.hasDict && PySem.HandSPX.refsVE bm)))
    | _, _ => false)
  | _ => false) && (eqO (PySem.W.findIn K (.ref C) "__setattr__") (some (some (.builtin "object.__setattr__"))) && (decide (PySem.W.subIn K (.ref C) (.type "BaseException") = some true) && (decide (PySem.W.typeIn K (.ref C) = some (.type "type")) && PySem.W.keepIn K (.ref C))))
theorem excO_ok {C : Addr} (h : excO K C = true) : L2.OexC K C := by
  obtain ⟨h0, h⟩ := ba h
  obtain ⟨h1, h⟩ := ba h
  obtain ⟨h2, h⟩ := ba h
  obtain ⟨h3, h4⟩ := ba h
  refine ⟨?_, eqO_ok h1, of_decide_eq_true h2, of_decide_eq_true h3, h4⟩
  split at h0
  · rename_i dd cd sl ho
    split at h0
    · rename_i C' bm k0 k1 k2 k3 n k5 hm hs
      simp only [Bool.and_eq_true, beq_iff_eq, Bool.not_eq_true'] at h0
      obtain ⟨rfl, rfl, hdel, hdic, ht⟩ := h0
      obtain ⟨nm, bs, mro, ns, qn, hd, sn, sub, ab, col, del⟩ := cd
      dsimp only at hm hdel hdic
      subst hm hdel hdic
      have hsl : sl = #[k0, k1, k2, k3, some (.builtin "ValueError.__new__"), k5] := by
        obtain ⟨l⟩ := sl
        simp only at hs
        rw [hs]
      subst hsl
      exact ⟨nm, qn, ns, bs, bm, sn, sub, ab, col, dd, k0, k1, k2, k3, k5, ho, ht⟩
    · cases h0
  · cases h0
def fileB (P : Program) (K : PySem.W.Frag) (f : Addr) : Bool := match K.lookup (cAt K f) with
  | some ⟨_, _, .fields vs, _⟩ => strQ (vs[2]? : Option Value) P.main.file
  | _ => false
theorem fileB_ok {P : Program} {f : Addr} (h : fileB P K f = true) : ∃ ccl cdd vs ccs file tf, K.lookup (cAt K f) = some ⟨ccl, cdd, .fields vs, ccs⟩ ∧ vs[2]? = some (.str file tf) ∧ ((P.main.file : Str) == file) = true := by
  unfold fileB at h
  cases q : K.lookup (cAt K f) with
  | none => rw [q] at h; cases h
  | some o =>
    obtain ⟨ccl, cdd, dt, ccs⟩ := o
    rw [q] at h
    cases dt with
    | fields vs =>
      obtain ⟨file, tf, e1, e2⟩ := strQ_ok h
      exact ⟨ccl, cdd, vs, ccs, file, tf, rfl, e1, e2⟩
    | _ => cases h
/-- an error of one field -/
def err1B (P : Program) (K : PySem.W.Frag) (x f qual : Str) : Bool := (Fa.glo x).ok K && (excO K (ga K x) && (xfB K (ga K x) && (eqO (PySem.W.findIn K (.ref (ga K x)) f) (some none) && (attB K (ga K x) "__init__" && (decide (PySem.W.typeIn K (.ref (ma K (ga K x) "__init__")) = some (.type "function")) &&
  (fdC K (ma K (ga K x) "__init__") qual (ga K x) && (fileB P K (ma K (ga K x) "__init__") && (eqO (PySem.W.ks_superIn K (ga K x) (ga K x) "__init__") (some (some (.builtin "ValueError.__init__"))) && (decide (PySem.W.subIn K (.ref (ga K x)) (.type "ValueError") = some true) && (decide (PySem.W.mroIn K (ga K x) (.ref (ga K x)) = some true) &&
  ((Fa.free "super").ok K && eqO (PySem.W.nsIn K cStatics "thirdparty.any") (some none))))))))))))
theorem err1_ok {P : Program} (X : K.In h) (G : h.Ns mainGlobals mg) {x f qual : Str} {st : Stmt} (nm : Sup.Nm f) (c : err1B P K x f qual = true) (e : fv K (ma K (ga K x) "__init__") = (some (("__init__" : Str), qual, defArgs st, FuncBody.stmts (defBody st), defScope st) : FV))
    (ha : ∃ p1 p2, defArgs st = Sup.a1 f p1 p2) (hb : ∃ q1 q2 q3 q4 q5 q6 r1 r2 r3 r4, defBody st = Sup.b1 f q1 q2 q3 q4 q5 q6 r1 r2 r3 r4 ∧ (q3.endLine == q5.line) = true) (hs : defScope st = Sup.s1 f) (top : (P.main.scope.names.lookup ("super" : Str)).isSome = false) :
    Sup.Err1 P K mg x f (ga K x) (ma K (ga K x) "__init__") := by
  obtain ⟨c1, c⟩ := ba c
  obtain ⟨c2, c⟩ := ba c
  obtain ⟨c3, c⟩ := ba c
  obtain ⟨c4, c⟩ := ba c
  obtain ⟨c5, c⟩ := ba c
  obtain ⟨c6, c⟩ := ba c
  obtain ⟨c7, c⟩ := ba c
  obtain ⟨c8, c⟩ := ba c
  obtain ⟨c9, c⟩ := ba c
  obtain ⟨c10, c⟩ := ba c
  obtain ⟨c11, c⟩ := ba c
  obtain ⟨c12, c13⟩ := ba c
  obtain ⟨oc, od, doc, pm, an, cda, ct, cc, osl, lk, hcd, hcell⟩ := fdC_ok e c7
  obtain ⟨p1, p2, ha⟩ := ha
  obtain ⟨q1, q2, q3, q4, q5, q6, r1, r2, r3, r4, hb, hq⟩ := hb
  have hf := fileB_ok c8
  rw [cAt_eq lk rfl] at hf
  rw [ha, hb, hs] at lk
  obtain ⟨ccl, cdd, vs, ccs, file, tf, f1, f2, f3⟩ := hf
  exact ⟨glo_ok X G c1, excO_ok c2, xfB_ok c3, eqO_ok c4, nm, eqO_ok c5, of_decide_eq_true c6, ⟨qual, oc, od, doc, pm, an, cda, ct, cc, osl, p1, p2, q1, q2, q3, q4, q5, q6, r1, r2, r3, r4, lk, hcd, hcell, ccl, cdd, vs, ccs, file, tf, f1, f2, f3, hq⟩, eqO_ok c9, of_decide_eq_true c10, of_decide_eq_true c11, free_ok X G c12, eqO_ok c13, top⟩
def excKB (K : PySem.W.Frag) (C : Addr) : Bool := (PySem.W.clsIn K C).isSome && (eqO (PySem.W.findIn K (.ref C) "__getattribute__") (some (some (.builtin "BaseException.__getattribute__"))) && (eqO (PySem.W.findIn K (.ref C) "__getattr__") (some none) && (decide (PySem.W.subIn K (.ref C) (.type "BaseException") = some true) &&
  (eqO (PySem.W.findIn K (.ref C) "__class__") (some (some (.builtin "object.__class__"))) && (eqO (PySem.W.specialIn K (.builtin "object.__class__") "__get__") (some (some (.builtin "getset_descriptor.__get__"))) && (decide (PySem.W.takesIn K (.builtin "object.__class__") = some true) && decide (PySem.W.mroIn K C (.type "object") = some true)))))))
theorem excKB_ok {C : Addr} (c : excKB K C = true) : ExcK K C := by
  obtain ⟨c1, c⟩ := ba c
  obtain ⟨c2, c⟩ := ba c
  obtain ⟨c3, c⟩ := ba c
  obtain ⟨c4, c⟩ := ba c
  obtain ⟨c5, c⟩ := ba c
  obtain ⟨c6, c⟩ := ba c
  obtain ⟨c7, c8⟩ := ba c
  exact ⟨c1, eqO_ok c2, eqO_ok c3, of_decide_eq_true c4, eqO_ok c5, eqO_ok c6, of_decide_eq_true c7, of_decide_eq_true c8⟩
def clsB (K : PySem.W.Frag) (C : Addr) : Bool := PySem.W.plainGet K C Str.empty && (PySem.W.hasDictIn K C && (PySem.W.plainOver K C && eqO (PySem.W.findIn K (.ref C) "__setattr__") (some (some (.builtin "object.__setattr__")))))
theorem clsB_ok {C : Addr} (c : clsB K C = true) : Cls K C := by
  obtain ⟨c1, c⟩ := ba c
  obtain ⟨c2, c⟩ := ba c
  obtain ⟨c3, c4⟩ := ba c
  exact ⟨c1, c2, c3, eqO_ok c4⟩
def kitB (K : PySem.W.Frag) (v C : Value) (b : Bool) : Bool := decide (PySem.W.kitOne K v C = some b)
def kindsB (K : PySem.W.Frag) (C : Addr) : Bool := ["int", "tuple", "NoneType", "str", "list", "bool", "dict"].all fun t => kitB K (.type t) (.ref C) false && PySem.W.notFirst K C (.type t)
theorem kindsB_ok {C : Addr} (c : kindsB K C = true) : ∀ t ∈ ["int", "tuple", "NoneType", "str", "list", "bool", "dict"], PySem.W.kitOne K (.type t) (.ref C) = some false ∧ PySem.W.notFirst K C (.type t) = true := fun t ht => by
  obtain ⟨c1, c2⟩ := ba (List.all_eq_true.mp c t ht)
  exact ⟨of_decide_eq_true c1, c2⟩
def binB (K : PySem.W.Frag) (C : Addr) (nm : String) : Bool := PySem.W.selfFirst K C && ((match PySem.W.findIn K (.ref C) (dunderR nm) with
  | some none => true
  | some (some (.ref _)) => true
  | _ => false) && ((PySem.W.findIn K (.type "int") (PySem.dunder nm)).isSome && ((PySem.W.findIn K (.type "int") (dunderR nm)).isSome && decide (PySem.W.subIn K (.type "int") (.ref C) = some false))))
theorem binB_ok {C : Addr} {nm : String} (c : binB K C nm = true) : BinF K C nm := by
  obtain ⟨c1, c⟩ := ba c
  obtain ⟨c2, c⟩ := ba c
  obtain ⟨c3, c⟩ := ba c
  obtain ⟨c4, c5⟩ := ba c
  refine ⟨c1, ?_, Option.isSome_iff_exists.mp c3, Option.isSome_iff_exists.mp c4, of_decide_eq_true c5⟩
  match q : PySem.W.findIn K (.ref C) (dunderR nm), c2 with
  | some none, _ => exact ⟨_, rfl, .inl rfl⟩
  | some (some (.ref g)), _ => exact ⟨_, rfl, .inr ⟨g, rfl⟩⟩
/-! ### what the top has written -/
theorem funM {a : Addr} {nm qual : Str} {st : Stmt} (e : fv K a = some (nm, qual, defArgs st, .stmts (defBody st), defScope st)) (c : fdB K a qual [] = true) : ∃ fd, L2.Fun K nm qual st a fd := by
  obtain ⟨oc, od, dV, doc, pm, an, cdv, ct, osl, lk, hcd, hd, kp⟩ := fdB_ok e c
  rcases hd with ⟨_, hd⟩ | ⟨hd, _⟩
  · rw [hd] at lk
    exact ⟨_, L2.fun_mk lk hcd kp⟩
  · exact absurd rfl hd
theorem funDM {a : Addr} {nm qual : Str} {st : Stmt} {dvs : List V} (e : fv K a = some (nm, qual, defArgs st, .stmts (defBody st), defScope st)) (c : fdB K a qual dvs = true) : ∃ fd, FunD K nm qual (defArgs st) (defBody st) (defScope st) dvs [] a fd := by
  obtain ⟨oc, od, dV, doc, pm, an, cdv, ct, osl, lk, hcd, hd, kp⟩ := fdB_ok e c
  exact ⟨_, ⟨oc, od, dV, .none, doc, pm, an, cdv, ct, osl, rfl, lk, hcd, hd, .inl rfl⟩, kp⟩
theorem hasM0 (X : K.In h) (G : h.Ns mainGlobals mg) {x : Str} {st : Stmt} (e : fv K (ga K x) = some (x, x, defArgs st, .stmts (defBody st), defScope st)) (c : ((Fa.glo x).ok K && fdB K (ga K x) x []) = true) : Has K mg x st := by
  obtain ⟨c1, c2⟩ := ba c
  obtain ⟨fd, F⟩ := funM e c2
  exact ⟨_, fd, glo_ok X G c1, F⟩
theorem hasCM (X : K.In h) (G : h.Ns mainGlobals mg) {x : Str} {st : Stmt} (e : fv K (ga K x) = some (x, x, defArgs st, .stmts (defBody st), defScope st)) (c : ((Fa.glo x).ok K && fdB K (ga K x) x []) = true) : HasC K mg x st (cAt K (ga K x)) := by
  obtain ⟨c1, c2⟩ := ba c
  obtain ⟨oc, od, dV, doc, pm, an, cdv, ct, osl, lk, hcd, hd, kp⟩ := fdB_ok e c2
  obtain ⟨cda, l4⟩ := codeIn_ref hcd
  subst l4
  rcases hd with ⟨_, hd⟩ | ⟨hd, _⟩
  · rw [hd] at lk
    rw [cAt_eq lk rfl]
    exact ⟨_, oc, od, _, doc, pm, an, ct, osl, glo_ok X G c1, lk, hcd, kp⟩
  · exact absurd rfl hd
theorem hasMM {C : Addr} {m qual : Str} {st : Stmt} (e : fv K (ma K C m) = some (m, qual, defArgs st, .stmts (defBody st), defScope st)) (c : (fnB K C m && fdB K (ma K C m) qual []) = true) : HasM K C m qual st := by
  obtain ⟨c1, c2⟩ := ba c
  obtain ⟨c3, c4⟩ := ba c1
  obtain ⟨fd, F⟩ := funM e c2
  exact ⟨_, fd, eqO_ok c3, c4, F⟩
theorem hasDM {C : Addr} {m qual : Str} {st : Stmt} {dvs : List V} (e : fv K (ma K C m) = some (m, qual, defArgs st, .stmts (defBody st), defScope st)) (c : (fnB K C m && fdB K (ma K C m) qual dvs) = true) : HasD K C m qual st dvs [] := by
  obtain ⟨c1, c2⟩ := ba c
  obtain ⟨c3, c4⟩ := ba c1
  obtain ⟨fd, F⟩ := funDM e c2
  exact ⟨_, fd, eqO_ok c3, c4, F⟩
theorem hasSM {C : Addr} {m qual : Str} {st : Stmt} (e : fv K (sAt "staticmethod" K C m) = some (m, qual, defArgs st, .stmts (defBody st), defScope st)) (c : (statB K C m && fdB K (sAt "staticmethod" K C m) qual []) = true) : HasS K C m qual st := by
  obtain ⟨c1, c2⟩ := ba c
  obtain ⟨fd, F⟩ := funM e c2
  exact ⟨_, fd, statB_ok c1, F⟩
theorem hasCMM {C : Addr} {m qual : Str} {st : Stmt} (e : fv K (sAt "classmethod" K C m) = some (m, qual, defArgs st, .stmts (defBody st), defScope st)) (c : ((creadB K C && cmetB K C m) && fdB K (sAt "classmethod" K C m) qual []) = true) : HasCM K C m qual st := by
  obtain ⟨c1, c2⟩ := ba c
  obtain ⟨c3, c4⟩ := ba c1
  obtain ⟨fd, F⟩ := funM e c2
  obtain ⟨p, hp⟩ := cmetB_ok c4
  exact ⟨_, p, _, fd, creadB_ok c3, hp, F⟩
theorem tabFM {f : PySem.W.Frag → Addr} (X : K.In h) (c : SaysM fs fn tf h K) (i : Nat) (hi : tf[i]? = some f) : TabF K h (cAt K (f K), tabOf K (cAt K (f K))) := ⟨c.empty i f hi, c.out i f hi, PySem.W.codeHd_of_K X (c.hd i f hi)⟩
end
end My
/-! What runs does not touch a generator that sleeps: run it where the sleepers cannot be woken, and put them back. -/
namespace My
open PySem PySem.Spec PyProof.Rows L2 GenW
open Sem (wp)
/-- the same sleeper, but it cannot be woken -/
def killed : GenState → GenState
  | .suspended _ l c p fs cl => .suspended (fun _ => .unsupported "") l c p fs cl
  | x => x
/-- the frames hold no generator's -/
def NoG (fs : List Frame) : Prop := ∀ f ∈ fs, ∀ g k l c p, f ≠ .gen g k l c p
theorem NoG.nil : NoG [] := fun f h => by cases h
theorem NoG.app {a b : List Frame} (h : NoG a) (k : NoG b) : NoG (a ++ b) := fun f hf => by
  rcases List.mem_append.mp hf with z | z
  · exact h f z
  · exact k f z
theorem NoG.ret {k : Result → Sem PySem.Fin} {h g l c p kp} {fs : List Frame} (n : NoG fs) : NoG (.ret k h g l c p kp :: fs) := fun f hf => by
  rcases List.mem_cons.mp hf with z | z
  · rw [z]; intro _ _ _ _ _ w; cases w
  · exact n f z
theorem NoG.tail {f : Frame} {fs : List Frame} (n : NoG (f :: fs)) : NoG fs := fun x hx => n x (List.mem_cons_of_mem _ hx)
theorem NoG.split : ∀ {fs : List Frame}, NoG fs → splitAtGen fs = none
  | [], _ => rfl
  | .ret k h g l c p kp :: fs, n => by
    show (splitAtGen fs).map _ = none
    rw [NoG.split n.tail]; rfl
  | .gen g k l c p :: fs, n => absurd rfl (n _ List.mem_cons_self g k l c p)
theorem no_unsup0 {M : Model} {Γ : PySem.Ctx} {p : Pos} {w : String} {s s' : Shared} {e : End} (h : Runs M Γ p (.unsupported w) [] s e s') : False := by cases h
theorem no_unsup {M : Model} {Γ : PySem.Ctx} {p : Pos} {w : String} {fs : List Frame} {s s' : Shared} {e : End} (h : Runs M Γ p (.unsupported w) fs s e s') : False := by
  cases h with
  | segRet h1 _ => exact no_unsup0 h1
  | segGen h1 _ => exact no_unsup0 h1
  | segSuspOut _ h1 => exact no_unsup0 h1
  | segSuspGen _ h1 _ _ => exact no_unsup0 h1
/-- the sleepers of a table -/
def isSusp : GenState → Bool
  | .suspended .. => true
  | _ => false
/-- a mask: which places are kept, and what sleeps there -/
abbrev Mask := Nat → Option GenState
def putBack (m : Mask) (s : Shared) : Shared := { s with gens := s.gens.mapIdx fun i x => (m i).getD x }
structure Masked (m : Mask) (s : Shared) : Prop where
  at_ : ∀ i S, m i = some S → s.gens[i]? = some (killed S) ∧ isSusp S = true
  fr : ∀ (i : Nat) k l c p fs cl, m i = none → s.gens[i]? = some (.suspended k l c p fs cl) → NoG fs
theorem pb_get (m : Mask) (s : Shared) (i : Nat) : (putBack m s).gens[i]? = (s.gens[i]?).map fun x => (m i).getD x := by
  show (s.gens.mapIdx _)[i]? = _
  rw [Array.getElem?_mapIdx]
theorem pb_none {m : Mask} {s : Shared} {i : Nat} {x : GenState} (h : m i = none) (e : s.gens[i]? = some x) : (putBack m s).gens[i]? = some x := by
  rw [pb_get, e, h]; rfl
theorem pb_some {m : Mask} {s : Shared} {i : Nat} {S x : GenState} (h : m i = some S) (e : s.gens[i]? = some x) : (putBack m s).gens[i]? = some S := by
  rw [pb_get, e, h]; rfl
theorem pb_size (m : Mask) (s : Shared) : (putBack m s).gens.size = s.gens.size := by show (s.gens.mapIdx _).size = _; rw [Array.size_mapIdx]
theorem sh_ext {s t : Shared} (h1 : s.heap = t.heap) (h2 : s.drawn = t.drawn) (h3 : s.toks = t.toks) (h4 : s.os = t.os) (h5 : ∀ i : Nat, s.gens[i]? = t.gens[i]?) : s = t := by
  have e : s.gens = t.gens := Array.ext_getElem? h5
  cases s; cases t; simp_all
theorem pb_setGen {m : Mask} {s : Shared} {g : Nat} {x : GenState} (h : m g = none) : putBack m (s.setGen g x) = (putBack m s).setGen g x := by
  refine sh_ext rfl rfl rfl rfl fun i => ?_
  rw [pb_get]
  show ((s.gens.setIfInBounds g x)[i]?).map _ = ((putBack m s).gens.setIfInBounds g x)[i]?
  rw [Array.getElem?_setIfInBounds, Array.getElem?_setIfInBounds, pb_size, pb_get]
  by_cases z : g = i
  · subst z
    rw [if_pos rfl, if_pos rfl]
    by_cases hl : g < s.gens.size
    · rw [if_pos hl]; simp [h]
    · rw [if_neg hl]; rfl
  · rw [if_neg z, if_neg z]
theorem pb_push {m : Mask} {s : Shared} {x : GenState} (h : m s.gens.size = none) : putBack m { s with gens := s.gens.push x } = { putBack m s with gens := (putBack m s).gens.push x } := by
  refine sh_ext rfl rfl rfl rfl fun i => ?_
  rw [pb_get]
  show ((s.gens.push x)[i]?).map _ = ((putBack m s).gens.push x)[i]?
  rw [Array.getElem?_push, Array.getElem?_push, pb_size, pb_get]
  by_cases z : i = s.gens.size
  · subst z
    rw [if_pos rfl, if_pos rfl]; simp [h]
  · rw [if_neg z, if_neg z]
theorem Masked.size {m : Mask} {s : Shared} (j : Masked m s) : m s.gens.size = none := by
  cases e : m s.gens.size with
  | none => rfl
  | some S =>
    have := (j.at_ _ S e).1
    rw [Array.getElem?_eq_none (Nat.le_refl _)] at this
    cases this
theorem Masked.push {m : Mask} {s : Shared} {c : Code} (j : Masked m s) : Masked m { s with gens := s.gens.push (.fresh c) } := by
  refine ⟨fun i S e => ?_, fun i k l c' p fs cl e q => ?_⟩
  · obtain ⟨h1, h2⟩ := j.at_ i S e
    refine ⟨?_, h2⟩
    have hl : i < s.gens.size := by
      obtain ⟨z, _⟩ := Array.getElem?_eq_some_iff.mp h1; exact z
    show (s.gens.push _)[i]? = _
    rw [Array.getElem?_push, if_neg (Nat.ne_of_lt hl)]; exact h1
  · have q : (s.gens.push (.fresh c))[i]? = _ := q
    rw [Array.getElem?_push] at q
    split at q
    · cases q
    · exact j.fr i k l c' p fs cl e q
theorem Masked.set {m : Mask} {s : Shared} {g : Nat} {x : GenState} (j : Masked m s) (hg : m g = none) (hx : ∀ k l c p fs cl, x = .suspended k l c p fs cl → NoG fs) : Masked m (s.setGen g x) := by
  refine ⟨fun i S e => ?_, fun i k l c p fs cl e q => ?_⟩
  · obtain ⟨h1, h2⟩ := j.at_ i S e
    refine ⟨?_, h2⟩
    have ne : g ≠ i := fun z => by rw [← z, hg] at e; cases e
    show (s.gens.setIfInBounds g x)[i]? = _
    rw [Array.getElem?_setIfInBounds_ne ne]; exact h1
  · have q : (s.gens.setIfInBounds g x)[i]? = _ := q
    rw [Array.getElem?_setIfInBounds] at q
    split at q
    · split at q
      · cases q; exact hx _ _ _ _ _ _ rfl
      · cases q
    · exact j.fr i k l c p fs cl e q
theorem Masked.same {m : Mask} {s t : Shared} (j : Masked m s) (e : t.gens = s.gens) : Masked m t := ⟨fun i S h => by rw [e]; exact j.at_ i S h, fun i k l c p fs cl h q => by rw [e] at q; exact j.fr i k l c p fs cl h q⟩
theorem Masked.free {m : Mask} {s : Shared} {g : Nat} {x : GenState} (j : Masked m s) (e : s.gens[g]? = some x) (n : isSusp x = false) : m g = none := by
  cases h : m g with
  | none => rfl
  | some S =>
    obtain ⟨h1, h2⟩ := j.at_ g S h
    rw [e] at h1
    cases S <;> first | (cases h2; done) | (cases h1; cases n)
theorem killed_seen {S : GenState} : (killed S).seen = S.seen := by cases S <;> rfl
theorem pb_seen {m : Mask} {s : Shared} {g : Nat} {x : GenState} (j : Masked m s) (e : s.gens[g]? = some x) : ∃ y, (putBack m s).gens[g]? = some y ∧ y.seen = x.seen := by
  cases h : m g with
  | none => exact ⟨x, pb_none h e, rfl⟩
  | some S =>
    refine ⟨S, pb_some h e, ?_⟩
    have := (j.at_ g S h).1
    rw [e] at this; cases this
    exact killed_seen.symm
/-- the frames that an end leaves asleep hold no generator's -/
def EndNoG : End → Prop
  | .ret _ => True
  | .susp _ _ _ _ _ _ fs => NoG fs
theorem EndNoG.state {e : End} (h : EndNoG e) : ∀ k l c p fs cl, e.genState = .suspended k l c p fs cl → NoG fs := by
  intro k l c p fs cl q
  cases e with
  | ret r => cases q
  | susp v g l' k' c' p' fs' => cases q; exact h
theorem runs_masked {M : Model} {m : Mask} {Γ : PySem.Ctx} {p : Pos} {t : Sem PySem.Fin} {fs : List Frame} {s s' : Shared} {e : End} (h : Runs M Γ p t fs s e s') :
    NoG fs → Masked m s → Masked m s' ∧ EndNoG e ∧ Runs M Γ p t fs (putBack m s) e (putBack m s') := by
  induction h with
  | done => intro _ j; exact ⟨j, trivial, .done⟩
  | raise => intro _ j; exact ⟨j, trivial, .raise⟩
  | again hq _ ih => intro _ j; obtain ⟨a, b, c⟩ := ih .nil j; exact ⟨a, b, .again hq c⟩
  | rule _ ih => intro _ j; obtain ⟨a, b, c⟩ := ih .nil j; exact ⟨a, b, .rule c⟩
  | «at» _ ih => intro _ j; obtain ⟨a, b, c⟩ := ih .nil j; exact ⟨a, b, .at c⟩
  | load ho _ ih => intro _ j; obtain ⟨a, b, c⟩ := ih .nil j; exact ⟨a, b, .load ho c⟩
  | update ha _ ih => intro _ j; obtain ⟨a, b, c⟩ := ih .nil (j.same rfl); exact ⟨a, b, .update ha c⟩
  | loadIfAlive _ ih => intro _ j; obtain ⟨a, b, c⟩ := ih .nil j; exact ⟨a, b, .loadIfAlive c⟩
  | point _ ih => intro _ j; obtain ⟨a, b, c⟩ := ih .nil j; exact ⟨a, b, .point c⟩
  | alloc _ ih => intro _ j; obtain ⟨a, b, c⟩ := ih .nil (j.same rfl); exact ⟨a, b, .alloc c⟩
  | fresh _ ih => intro _ j; obtain ⟨a, b, c⟩ := ih .nil (j.same rfl); exact ⟨a, b, .fresh c⟩
  | ask _ ih => intro _ j; obtain ⟨a, b, c⟩ := ih .nil j; exact ⟨a, b, .ask c⟩
  | choose hn _ ih => intro _ j; obtain ⟨a, b, c⟩ := ih .nil (j.same rfl); exact ⟨a, b, .choose hn c⟩
  | os _ ih => intro _ j; obtain ⟨a, b, c⟩ := ih .nil (j.same rfl); exact ⟨a, b, .os c⟩
  | handled _ ih => intro _ j; obtain ⟨a, b, c⟩ := ih .nil j; exact ⟨a, b, .handled c⟩
  | genState hg _ ih =>
    intro _ j
    obtain ⟨a, b, c⟩ := ih .nil j
    obtain ⟨y, hy, hs⟩ := pb_seen j hg
    exact ⟨a, b, .genState hy (by rw [hs]; exact c)⟩
  | stack _ ih => intro _ j; obtain ⟨a, b, c⟩ := ih .nil j; exact ⟨a, b, .stack c⟩
  | thread _ ih => intro _ j; obtain ⟨a, b, c⟩ := ih .nil j; exact ⟨a, b, .thread c⟩
  | newGen _ ih =>
    intro _ j
    obtain ⟨a, b, c⟩ := ih .nil j.push
    rw [pb_push j.size] at c
    exact ⟨a, b, .newGen (by rw [pb_size]; exact c)⟩
  | call _ _ ih1 ih2 =>
    intro _ j
    obtain ⟨a1, _, c1⟩ := ih1 .nil j
    obtain ⟨a2, b2, c2⟩ := ih2 .nil a1
    exact ⟨a2, b2, .call c1 c2⟩
  | callSusp _ ih =>
    intro _ j
    obtain ⟨a, b, c⟩ := ih .nil j
    exact ⟨a, NoG.app b (NoG.ret .nil), .callSusp c⟩
  | «yield» => intro _ j; exact ⟨j, .nil, .yield⟩
  | resumeFresh hg _ hq _ ih1 ih2 =>
    intro _ j
    have hm := j.free hg rfl
    obtain ⟨a1, b1, c1⟩ := ih1 .nil (j.set hm fun _ _ _ _ _ _ (z : GenState.running = _) => GenState.noConfusion z)
    rw [pb_setGen hm] at c1
    obtain ⟨a2, b2, c2⟩ := ih2 .nil (a1.set hm b1.state)
    rw [pb_setGen hm] at c2
    exact ⟨a2, b2, .resumeFresh (pb_none hm hg) c1 hq c2⟩
  | @resumeSuspended _ _ g _ _ _ _ _ _ _ _ _ _ _ _ _ _ hg hr hq _ ih1 ih2 =>
    intro _ j
    cases hm : m g with
    | some S =>
      obtain ⟨h1, h2⟩ := j.at_ g S hm
      rw [hg] at h1
      cases S with
      | suspended k l c p fs cl =>
        have h1 := Option.some.inj h1
        unfold killed at h1
        cases h1
        exact (no_unsup hr).elim
      | _ => cases h2
    | none =>
      have nf := j.fr g _ _ _ _ _ _ hm hg
      obtain ⟨a1, b1, c1⟩ := ih1 nf (j.set hm fun _ _ _ _ _ _ (z : GenState.running = _) => GenState.noConfusion z)
      rw [pb_setGen hm] at c1
      obtain ⟨a2, b2, c2⟩ := ih2 .nil (a1.set hm b1.state)
      rw [pb_setGen hm] at c2
      exact ⟨a2, b2, .resumeSuspended (pb_none hm hg) c1 hq c2⟩
  | resumeJustStarted hg hv _ ih =>
    intro _ j
    obtain ⟨a, b, c⟩ := ih .nil j
    exact ⟨a, b, .resumeJustStarted (pb_none (j.free hg rfl) hg) hv c⟩
  | resumeThrowFresh hg _ ih =>
    intro _ j
    have hm := j.free hg rfl
    obtain ⟨a, b, c⟩ := ih .nil (j.set hm fun _ _ _ _ _ _ (z : GenState.finished = _) => GenState.noConfusion z)
    rw [pb_setGen hm] at c
    exact ⟨a, b, .resumeThrowFresh (pb_none hm hg) c⟩
  | resumeRunning hg _ ih =>
    intro _ j
    obtain ⟨a, b, c⟩ := ih .nil j
    exact ⟨a, b, .resumeRunning (pb_none (j.free hg rfl) hg) c⟩
  | resumeFinished hg _ ih =>
    intro _ j
    obtain ⟨a, b, c⟩ := ih .nil j
    exact ⟨a, b, .resumeFinished (pb_none (j.free hg rfl) hg) c⟩
  | segRet _ _ ih1 ih2 =>
    intro n j
    obtain ⟨a1, _, c1⟩ := ih1 .nil j
    obtain ⟨a2, b2, c2⟩ := ih2 n.tail a1
    exact ⟨a2, b2, .segRet c1 c2⟩
  | segGen _ _ _ _ => intro n _; exact absurd rfl (n _ List.mem_cons_self _ _ _ _ _)
  | segSuspOut hs _ ih =>
    intro n j
    obtain ⟨a, b, c⟩ := ih .nil j
    exact ⟨a, NoG.app b n, .segSuspOut hs c⟩
  | segSuspGen hs _ _ _ _ _ => intro n _; rw [n.split] at hs; cases hs
theorem wakes_masked {M : Model} {m : Mask} {Γ : PySem.Ctx} {p : Pos} {g : Nat} {r : Resume} {s s' : Shared} {res : GenResult} (h : Wakes M Γ p g r s res s') (j : Masked m s) : Masked m s' ∧ Wakes M Γ p g r (putBack m s) res (putBack m s') := by
  unfold Wakes at h
  cases hg : s.gens[g]? with
  | none => simp only [hg] at h
  | some gs =>
    simp only [hg] at h
    cases gs with
    | fresh c =>
      have hm := j.free hg rfl
      have e := pb_none hm hg
      cases r with
      | send v =>
        by_cases hv : v = .none
        · subst hv
          obtain ⟨e₁, s₁, h1, hq, hr, hs⟩ := h
          obtain ⟨a1, b1, c1⟩ := runs_masked h1 .nil (j.set hm fun _ _ _ _ _ _ (z : GenState.running = _) => GenState.noConfusion z)
          rw [pb_setGen hm] at c1
          subst hs
          refine ⟨a1.set hm b1.state, ?_⟩
          unfold Wakes
          rw [e]
          exact ⟨e₁, _, c1, hq, hr, pb_setGen hm⟩
        · have h : res = .justStarted ∧ s' = s := by cases v <;> first | exact absurd rfl hv | exact h
          obtain ⟨rfl, rfl⟩ := h
          exact ⟨j, Sem.wakes_justStarted M Γ e hv⟩
      | throw x =>
        obtain ⟨rfl, rfl⟩ := h
        refine ⟨j.set hm (fun _ _ _ _ _ _ (z : GenState.finished = _) => GenState.noConfusion z), ?_⟩
        unfold Wakes; rw [e]; exact ⟨rfl, pb_setGen hm⟩
    | suspended k₀ l₀ c₀ p₀ fs cl =>
      obtain ⟨e₁, s₁, h1, hq, hr, hs⟩ := h
      cases hm : m g with
      | some S =>
        obtain ⟨h1', h2⟩ := j.at_ g S hm
        rw [hg] at h1'
        cases S with
        | suspended k l c p fs cl =>
          have h1' := Option.some.inj h1'
          unfold killed at h1'
          cases h1'
          exact (no_unsup h1).elim
        | _ => cases h2
      | none =>
        obtain ⟨a1, b1, c1⟩ := runs_masked h1 (j.fr g _ _ _ _ _ _ hm hg) (j.set hm fun _ _ _ _ _ _ (z : GenState.running = _) => GenState.noConfusion z)
        rw [pb_setGen hm] at c1
        subst hs
        refine ⟨a1.set hm b1.state, ?_⟩
        unfold Wakes
        rw [pb_none hm hg]
        exact ⟨e₁, _, c1, hq, hr, pb_setGen hm⟩
    | running =>
      obtain ⟨rfl, rfl⟩ := h
      refine ⟨j, ?_⟩
      unfold Wakes; rw [pb_none (j.free hg rfl) hg]; exact ⟨rfl, rfl⟩
    | finished =>
      obtain ⟨rfl, rfl⟩ := h
      refine ⟨j, ?_⟩
      unfold Wakes; rw [pb_none (j.free hg rfl) hg]; exact ⟨rfl, rfl⟩
theorem wp_masked {α : Type} (M : Model) (m : Mask) (Γ : PySem.Ctx) (t : Sem α) : ∀ (Q : α → Pos → Shared → Prop) (E : Value → Pos → Shared → Prop) (p : Pos) (s : Shared), Masked m s → wp M Γ t Q E p s →
    wp M Γ t (fun a p' s' => ∃ s1, s' = putBack m s1 ∧ Masked m s1 ∧ Q a p' s1) (fun e p' s' => ∃ s1, s' = putBack m s1 ∧ Masked m s1 ∧ E e p' s1) p (putBack m s) := by
  induction t with
  | pure a => intro Q E p s j h; exact ⟨s, rfl, j, h⟩
  | raise e => intro Q E p s j h; exact ⟨s, rfl, j, h⟩
  | unsupported _ => intro Q E p s _ h; exact h
  | finish _ => intro Q E p s _ h; exact h
  | rule _ k ih => intro Q E p s j h; exact ih () Q E p s j h
  | «at» p' k ih => intro Q E p s j h; exact ih () Q E p' s j h
  | load a _ k ih => intro Q E p s j h; obtain ⟨o, ho, h⟩ := h; exact ⟨o, ho, ih o Q E p s j h⟩
  | update a _ f k ih => intro Q E p s j h; exact ⟨h.1, ih () Q E p { s with heap := s.heap.update a f } (j.same rfl) h.2⟩
  | loadIfAlive a k ih => intro Q E p s j h; exact ih _ Q E p s j h
  | point _ k ih => intro Q E p s j h; exact ih () Q E p s j h
  | register _ _ => intro Q E p s _ h; exact h
  | alloc o k ih => intro Q E p s j h; exact ih _ Q E p { s with heap := s.heap.push o } (j.same rfl) h
  | fresh k ih => intro Q E p s j h; exact ih _ Q E p { s with toks := s.toks + 1 } (j.same rfl) h
  | ask k ih => intro Q E p s j h; exact ih _ Q E p s j h
  | choose src n k ih => intro Q E p s j h; exact ⟨h.1, ih _ Q E p { s with drawn := s.drawn.bump src } (j.same rfl) h.2⟩
  | os q _ k ih => intro Q E p s j h; exact ih _ Q E p { s with os := (Os.step s.os q).1 } (j.same rfl) h
  | call c hd _ _ k ih =>
    intro Q E p s j h
    obtain ⟨r, s', hr, h⟩ := h
    obtain ⟨a, _, c⟩ := runs_masked hr .nil j
    exact ⟨r, putBack m s', c, ih r Q E p s' a h⟩
  | handled own k ih => intro Q E p s j h; exact ih _ Q E p s j h
  | genState g k ih =>
    intro Q E p s j h
    obtain ⟨st, hs, h⟩ := h
    obtain ⟨y, hy, e⟩ := pb_seen j hs
    refine ⟨y, hy, ?_⟩
    rw [e]
    exact ih _ Q E p s j h
  | newGen c k ih =>
    intro Q E p s j h
    have z := ih _ Q E p { s with gens := s.gens.push (.fresh c) } j.push h
    rw [pb_push j.size] at z
    show wp M Γ (k (putBack m s).gens.size) _ _ p _
    rw [pb_size]
    exact z
  | resume g r _ k ih =>
    intro Q E p s j h
    obtain ⟨res, s', hw, h⟩ := h
    obtain ⟨a, b⟩ := wakes_masked hw j
    exact ⟨res, putBack m s', b, ih res Q E p s' a h⟩
  | yield _ _ _ _ => intro Q E p s _ h; exact h
  | stack k ih => intro Q E p s j h; exact ih _ Q E p s j h
  | fork _ _ => intro Q E p s _ h; exact h
  | thread k ih => intro Q E p s j h; exact ih _ Q E p s j h
  | await _ _ _ _ _ => intro Q E p s _ h; exact h
/-- the sleepers of s, where they stand -/
def maskOf (s : Shared) : Mask := fun i => match s.gens[i]? with
  | some (.suspended k l c p fs cl) => some (.suspended k l c p fs cl)
  | _ => none
/-- s with its sleepers killed -/
def lulled (s : Shared) : Shared := { s with gens := s.gens.map killed }
theorem lulled_get (s : Shared) (i : Nat) : (lulled s).gens[i]? = (s.gens[i]?).map killed := by show (s.gens.map killed)[i]? = _; rw [Array.getElem?_map]
theorem lulled_masked (s : Shared) : Masked (maskOf s) (lulled s) := by
  refine ⟨fun i S e => ?_, fun i k l c p fs cl e q => ?_⟩
  · unfold maskOf at e
    rw [lulled_get]
    split at e
    · rename_i hq; rw [hq]; cases e; exact ⟨rfl, rfl⟩
    · cases e
  · rw [lulled_get] at q
    unfold maskOf at e
    split at e
    · cases e
    · rename_i hn
      cases hs : s.gens[i]? with
      | none => rw [hs] at q; cases q
      | some x =>
        rw [hs] at q
        cases x with
        | suspended k l c p fs cl => exact absurd hs (hn _ _ _ _ _ _)
        | _ => cases q
theorem putBack_lulled (s : Shared) : putBack (maskOf s) (lulled s) = s := by
  refine sh_ext rfl rfl rfl rfl fun i => ?_
  rw [pb_get, lulled_get]
  unfold maskOf
  cases hs : s.gens[i]? with
  | none => rfl
  | some x => cases x <;> rfl
theorem killed_bare (x : GenState) : (killed x).bare = x.bare := by cases x <;> rfl
theorem lulled_bare {s : Shared} (h : AllBare s.gens) : AllBare (lulled s).gens := fun y hy => by
  obtain ⟨x, hx, e⟩ := Array.mem_map.mp hy
  rw [← e, killed_bare]
  exact h x hx
/-- behind it: the sleepers stand as they stood -/
structure Kept (s s1 s' : Shared) : Prop where
  heap : s'.heap = s1.heap
  os : s'.os = s1.os
  bare : AllBare s.gens → AllBare s1.gens → AllBare s'.gens
  gens : ∀ (g : Nat) S, s.gens[g]? = some S → isSusp S = true → s'.gens[g]? = some S
theorem kept_of {s s1 : Shared} (j : Masked (maskOf s) s1) : Kept s s1 (putBack (maskOf s) s1) where
  heap := rfl
  os := rfl
  bare := fun h h1 y hy => by
    obtain ⟨i, hi, e⟩ := Array.mem_iff_getElem.mp hy
    have q : (putBack (maskOf s) s1).gens[i]? = some y := by rw [Array.getElem?_eq_getElem hi, e]
    rw [pb_get] at q
    cases hx : s1.gens[i]? with
    | none => rw [hx] at q; cases q
    | some x =>
      rw [hx] at q
      cases hm : maskOf s i with
      | none => rw [hm] at q; cases q; exact h1 _ (Array.mem_of_getElem? hx)
      | some S =>
        rw [hm] at q; cases q
        unfold maskOf at hm
        split at hm
        · rename_i hq; cases hm; exact h _ (Array.mem_of_getElem? hq)
        · cases hm
  gens := fun g S e hS => by
    have hm : maskOf s g = some S := by
      unfold maskOf; rw [e]
      cases S <;> first | rfl | cases hS
    exact pb_some hm (j.at_ g S hm).1
/-- THE RULE: run where the sleepers cannot be woken -/
theorem wpAny_asleep {α : Type} {M : Model} {A : Around} {s : Shared} {t : Sem α} {Q : α → Shared → Prop} {E : Value → Shared → Prop} (h : wpAny M A t Q E (lulled s)) :
    wpAny M A t (fun a s' => ∃ s1, Kept s s1 s' ∧ Q a s1) (fun e s' => ∃ s1, Kept s s1 s' ∧ E e s1) s := by
  intro Γ p hΓ
  have z := wp_masked M (maskOf s) Γ t (fun a _ s' => Q a s') (fun e _ s' => E e s') p (lulled s) (lulled_masked s) (h Γ p hΓ)
  rw [putBack_lulled] at z
  refine Sem.wp_mono M Γ t (fun a p' s' ⟨s1, e, j, q⟩ => ?_) (fun a p' s' ⟨s1, e, j, q⟩ => ?_) p s z
  · subst e; exact ⟨s1, kept_of j, q⟩
  · subst e; exact ⟨s1, kept_of j, q⟩
theorem Inv.lulled {X : Cx} {pins : List (Addr × Obj)} {σ : L2.St} {H : Hp} {s : Shared} (I : Inv X pins σ H s) : Inv X pins σ H (lulled s) :=
  ⟨I.ok, I.os, lulled_bare I.bare, I.base, I.loc, I.cell, I.free, I.freeC, I.pin, I.hok, I.len⟩
theorem Inv.awake {X : Cx} {pins : List (Addr × Obj)} {σ : L2.St} {H : Hp} {s s1 s' : Shared} (I : Inv X pins σ H s1) (k : Kept s s1 s') (hb : AllBare s.gens) : Inv X pins σ H s' := by
  obtain ⟨a, b, c, d, e, f, g, h, i, j, l⟩ := I
  exact ⟨a, k.os.trans b, k.bare hb c, k.heap ▸ d, k.heap ▸ e, k.heap ▸ f, g, h, fun p hp => k.heap ▸ i p hp, k.heap ▸ j, l⟩
end My
/-! One stretch of a generator's run, from a wake to its next sleep or its end. -/
namespace My
open PySem PySem.Spec PyProof.Rows L2 GenW
open Sem (wp)
/-- one stretch: it ends, and the end is as told -/
def Seg1 (M : Model) (A : Around) (F : End → Shared → Prop) (c : Code) (t : Sem PySem.Fin) (fs : List Frame) (s : Shared) : Prop :=
  ∀ Γ p, Γ.code = c → Γ.Woken A → ∃ e s', Runs M Γ p t fs s e s' ∧ F e s'
section
variable {M : Model} {A : Around} {F : End → Shared → Prop} {c : Code} {fs : List Frame} {s : Shared}
theorem seg1_wrap {α : Type} {m : Sem α} {K : α → Sem PySem.Fin} {H : Value → Sem PySem.Fin} {gd lv}
    (h : wpAny M (A.over c fs) m (fun a s' => Seg1 M A F c (K a) fs s') (fun x s' => Seg1 M A F c (H x) fs s') s) : Seg1 M A F c (m.wrap K H gd lv) fs s := by
  rintro Γ p rfl hΓ
  exact runs_wrap_of_wp K H gd lv m (h (Γ.over fs) p (hΓ.over fs)) (fun a p' s' h' => h' Γ p' rfl hΓ) (fun x p' s' h' => h' Γ p' rfl hΓ)
theorem seg1_bind {α : Type} {m : Sem α} {K : α → Sem PySem.Fin}
    (h : wpAny M (A.over c fs) m (fun a s' => Seg1 M A F c (K a) fs s') (fun x s' => Seg1 M A F c (.raise x) fs s') s) : Seg1 M A F c (m >>= K) fs s := by
  rw [Sem.bind_eq_wrap']; exact seg1_wrap h
theorem seg1_at {p' : Pos} {k : Unit → Sem PySem.Fin} (h : Seg1 M A F c (k ()) fs s) : Seg1 M A F c (.at p' k) fs s :=
  seg1_wrap (m := standAt p') (K := k) (H := .raise) (gd := id) (lv := id) (wpAny_standAt h)
theorem seg1_point {l : List Value} {k : Unit → Sem PySem.Fin} (h : Seg1 M A F c (k ()) fs s) : Seg1 M A F c (.point l k) fs s :=
  seg1_wrap (m := point) (K := k) (H := .raise) (gd := id) (lv := fun _ => l) (wpAny_point h)
theorem seg1_call {c' : Code} {h g l} {k : Result → Sem PySem.Fin} (hc : ∀ p, Seg1 M A F c' (M.den c') (.ret k h g l c p [] :: fs) s) : Seg1 M A F c (.call c' h g l k) fs s := by
  rintro Γ p rfl hΓ
  obtain ⟨e, s', hr, he⟩ := hc p (Γ.goto c') p rfl (hΓ.goto c')
  exact ⟨e, s', runs_call_seg hr, he⟩
theorem seg1_leaf {k h g l c₁ p₁ kp} (r : Result) (hk : Seg1 M A F c₁ (k r) fs s) : Seg1 M A F c (leafOf r) (.ret k h g l c₁ p₁ kp :: fs) s := by
  rintro Γ p rfl hΓ
  obtain ⟨e, s', hr, he⟩ := hk (Γ.goto c₁) p₁ rfl (hΓ.goto c₁)
  exact ⟨e, s', Runs.pop r hr, he⟩
theorem seg1_again {c' : Code} (hq : c'.quiet = true) (hc : Seg1 M A F c' (M.den c') fs s) : Seg1 M A F c (.pure (.again c')) fs s := by
  rintro Γ p rfl hΓ
  obtain ⟨e, s', hr, he⟩ := hc (Γ.goto c') p rfl (hΓ.goto c')
  exact ⟨e, s', Runs.head (c₁ := c') (fun _ _ x => .again hq x) hr, he⟩
theorem seg1_end (r : Result) (h : F (.ret r) s) : Seg1 M A F c (leafOf r) [] s := by
  rintro Γ p rfl _
  exact ⟨.ret r, s, Runs.leaf r, h⟩
theorem seg1_yield {v g l} {k : Resume → Sem PySem.Fin} (hfs : splitAtGen fs = none) (h : ∀ p, F (.susp v g l k c p fs) s) : Seg1 M A F c (.yield v g l k) fs s := by
  rintro Γ p rfl _
  exact ⟨_, s, Runs.yield' fs hfs, h p⟩
theorem seg1_execs_nil {env : Env} {K : Flow → Sem PySem.Fin} {H : Value → Sem PySem.Fin} {gd : Bool → Bool} {lv : List Value → List Value} (h : Seg1 M A F c (K .next) fs s) : Seg1 M A F c ((execs [] env).wrap K H gd lv) fs s := h
theorem seg1_execs_cons {env : Env} {K : Flow → Sem PySem.Fin} {H : Value → Sem PySem.Fin} {gd : Bool → Bool} {lv : List Value → List Value} {st : Stmt} {rest : List Stmt}
    (h : Seg1 M A F c ((exec st env).wrap (fun f => match f with | .next => (execs rest env).wrap K H gd lv | f => K f) H gd lv) fs s) : Seg1 M A F c ((execs (st :: rest) env).wrap K H gd lv) fs s := by rw [execs_cons_wrap]; exact h
theorem seg1_Expr_Yield {env : Env} {K : Flow → Sem PySem.Fin} {H : Value → Sem PySem.Fin} {gd : Bool → Bool} {lv : List Value → List Value} {e : Expr} {ypos pos : Pos} (hfs : splitAtGen fs = none)
    (h : wpAny M (A.over c fs) (eval e env) (fun v s' => ∀ l (k : Resume → Sem PySem.Fin), (∀ s'' F', Seg1 M A F' c (K .next) fs s'' → Seg1 M A F' c (k (.send .none)) fs s'') → ∀ p, F (.susp v (gd false) l k c p fs) s')
      (fun x s' => Seg1 M A F c (H x) fs s') s) (hco : env.scope.isCoroutine = false := by rfl) (hi : interactive env = false := by rfl) :
    Seg1 M A F c ((exec (.Expr (.Yield (some e) ypos) pos) env).wrap K H gd lv) fs s := by
  rw [exec_Expr env _ pos hi rfl]
  show Seg1 M A F c (.at pos fun _ => ((eval e env >>= fun v => (standAt ypos >>= fun _ => yieldOut env v)) >>= fun x => dropValue (.Yield (some e) ypos) pos x).wrap K H gd lv) fs s
  have hy : ∀ v, yieldOut env v = yieldValue v := fun v => by simp only [yieldOut, hco, Bool.false_eq_true, if_false]
  simp only [hy]
  refine seg1_at ?_
  rw [Sem.bind_eq_wrap', Sem.bind_eq_wrap', Sem.wrap_wrap, Sem.wrap_wrap]
  refine seg1_wrap (wpAny_mono h (fun v s' h' => ?_) fun _ _ x => x)
  refine seg1_at (seg1_yield hfs ?_)
  refine h' _ _ fun s'' F' hx => ?_
  exact hx
theorem seg1_For {tg iter : Expr} {body : List Stmt} {pos : Pos} {env : Env} {K : Flow → Sem PySem.Fin} {H : Value → Sem PySem.Fin} {gd : Bool → Bool} {lv : List Value → List Value} (hs : ∀ x, foldedSetIterable iter env x = pure x)
    (h : wpAny M (A.over c fs) (eval iter env) (fun x s1 => wpAny M (A.over c fs) (pyIter x) (fun it s2 => ∀ p, Seg1 M A F (.forLoop tg it body [] env) (M.den (.forLoop tg it body [] env))
      (.ret (fun r => ((match r with | .ok f => (.pure f : Sem Flow) | .error e => .raise e).onRaise (cameBack env)).wrap K H gd lv) none (gd false) (lv []) c p [] :: fs) s2) (fun x s' => Seg1 M A F c (H x) fs s') s1)
      (fun x s' => Seg1 M A F c (H x) fs s') s) : Seg1 M A F c ((exec (.For tg iter body [] pos) env).wrap K H gd lv) fs s := by
  have e0 : (exec (.For tg iter body [] pos) env).wrap K H gd lv = (standAt pos).wrap (fun _ => (eval iter env).wrap (fun v => (foldedSetIterable iter env v).wrap (fun x => (standAt iter.pos).wrap (fun _ => (holding [x] (pyIter x)).wrap (fun it => (runOwn (.forLoop tg it body [] env) env).wrap K H gd lv) H gd lv) H gd lv) H gd lv) H gd lv) H gd lv := by
    rw [exec_For]
    simp only [Sem.bind_eq_wrap', Sem.wrap_wrap, id]
    rfl
  rw [e0]
  refine seg1_wrap (wpAny_standAt (seg1_wrap (wpAny_mono h (fun x s1 h1 => ?_) fun _ _ z => z)))
  rw [hs x]
  show Seg1 M A F c ((standAt iter.pos).wrap _ H gd lv) fs s1
  refine seg1_wrap (wpAny_standAt (seg1_wrap (wpAny_holding (wpAny_mono h1 (fun it s2 h2 => ?_) fun _ _ z => z))))
  exact seg1_call h2
end
section
variable {prog : Program} {w : World} {A : Around} {F : End → Shared → Prop} {fs : List Frame} {s : Shared} {env : Env}
theorem seg1_forLoop {tg : Expr} {it : Value} {body : List Stmt}
    (h : wpAny (model prog w) (A.over (.forLoop tg it body [] env) fs) (pyNext it) (fun r s' => match r with
        | none => Seg1 (model prog w) A F (.block [] env) ((model prog w).den (.block [] env)) fs s'
        | some v => wpAny (model prog w) (A.over (.forLoop tg it body [] env) fs) (letOwnedTupleGo tg it v) (fun _ s1 => wpAny (model prog w) (A.over (.forLoop tg it body [] env) fs) (assign tg env v) (fun _ s2 =>
            Seg1 (model prog w) A F (.forLoop tg it body [] env) ((execs body env).wrap (fun f => match f with
              | .next | .cont => .pure (.again (.forLoop tg it body [] env))
              | .brk => .pure (.done .next)
              | .ret v => .pure (.done (.ret v))) (fun e => (do noteFrame e env; theTreesLotGoes e : Sem Unit).wrap (fun _ => .raise e) .raise id id) id id) fs s2)
              (fun x s' => Seg1 (model prog w) A F (.forLoop tg it body [] env) ((do noteFrame x env; theTreesLotGoes x : Sem Unit).wrap (fun _ => .raise x) .raise id id) fs s') s1)
            (fun x s' => Seg1 (model prog w) A F (.forLoop tg it body [] env) ((do noteFrame x env; theTreesLotGoes x : Sem Unit).wrap (fun _ => .raise x) .raise id id) fs s') s')
      (fun x s' => Seg1 (model prog w) A F (.forLoop tg it body [] env) ((do noteFrame x env; theTreesLotGoes x : Sem Unit).wrap (fun _ => .raise x) .raise id id) fs s') s) :
    Seg1 (model prog w) A F (.forLoop tg it body [] env) ((model prog w).den (.forLoop tg it body [] env)) fs s := by
  show Seg1 _ A F _ ((forTurn tg it body [] env).onRaise (fun x => do noteFrame x env; theTreesLotGoes x)) fs s
  unfold forTurn
  rw [Sem.onRaise_eq_wrap, Sem.bind_eq_wrap', Sem.wrap_wrap]
  refine seg1_wrap (wpAny_standAt ?_)
  rw [Sem.bind_eq_wrap', Sem.wrap_wrap]
  refine seg1_wrap (wpAny_onRaise (wpAny_mono h (fun r s' hr => ?_) fun x s' hx => wpAny_standAt ?_))
  · cases r with
    | none => exact seg1_again rfl hr
    | some v =>
      show Seg1 _ A F _ (Sem.wrap _ _ _ _ (letOwnedTupleGo tg it v >>= fun _ => assign tg env v >>= fun _ => execs body env >>= fun f => _)) fs s'
      rw [Sem.bind_eq_wrap', Sem.wrap_wrap]
      refine seg1_wrap (wpAny_mono hr (fun _ s1 h1 => ?_) fun x s1 hx => ?_)
      · rw [Sem.bind_eq_wrap', Sem.wrap_wrap]
        refine seg1_wrap (wpAny_mono h1 (fun _ s2 h2 => ?_) fun x s2 hx => ?_)
        · rw [Sem.bind_eq_wrap', Sem.wrap_wrap]
          rw [Sem.wrap_congr (execs body env) _ _ (K' := fun f => match f with
              | .next | .cont => .pure (.again (.forLoop tg it body [] env))
              | .brk => .pure (.done .next)
              | .ret v => .pure (.done (.ret v))) (H' := (fun e => (do noteFrame e env; theTreesLotGoes e : Sem Unit).wrap (fun _ => .raise e) .raise id id))
            (fun f => by cases f <;> rfl)
            (fun e => by first | exact Sem.bind_eq_wrap _ _ | (show (do noteFrame e env; theTreesLotGoes e : Sem Unit).bind (fun _ => .raise e) = _; rw [Sem.bind_eq_wrap]))]
          exact h2
        · show Seg1 _ A F _ ((do noteFrame x env; theTreesLotGoes x : Sem Unit).bind fun _ => .raise x) fs s2
          rw [Sem.bind_eq_wrap]; exact hx
      · show Seg1 _ A F _ ((do noteFrame x env; theTreesLotGoes x : Sem Unit).bind fun _ => .raise x) fs s1
        rw [Sem.bind_eq_wrap]; exact hx
  · show Seg1 _ A F _ ((do noteFrame x env; theTreesLotGoes x : Sem Unit).bind fun _ => .raise x) fs s'
    rw [Sem.bind_eq_wrap]; exact hx
theorem seg1_func {body : List Stmt}
    (h : Seg1 (model prog w) A F (.func body env) ((execs body env).wrap (fun f => .pure (.done (.ret (match f with | .ret v => v | _ => .none))))
      (fun e => (leaving env e).wrap (fun _ => .raise e) .raise id id) id id) fs s) :
    Seg1 (model prog w) A F (.func body env) ((model prog w).den (.func body env)) fs s := by
  show Seg1 _ A F _ (.point [] fun _ => ((execs body env).onRaise (leaving env)) >>= _) fs s
  refine seg1_point ?_
  rw [Sem.onRaise_eq_wrap, Sem.bind_eq_wrap', Sem.wrap_wrap]
  rw [Sem.wrap_congr (execs body env) _ _ (K' := fun f => .pure (.done (.ret (match f with | .ret v => v | _ => .none))))
    (H' := fun e => (leaving env e).wrap (fun _ => .raise e) .raise id id) (fun f => by cases f <;> rfl)
    (fun e => by rw [Sem.bind_eq_wrap, Sem.wrap_wrap]; rfl)]
  exact h
end
/-- what a state does when it is woken by next -/
def Wake1 (M : Model) (A : Around) (F : End → Shared → Prop) (gs : GenState) (s : Shared) : Prop :=
  match gs with
  | .fresh c => Seg1 M A F c (M.den c) [] s
  | .suspended k _ c _ fs _ => Seg1 M A F c (k (.send .none)) fs s
  | _ => False
theorem wpAny_resume1 {M : Model} {A : Around} {F : End → Shared → Prop} {E : Value → Shared → Prop} {s : Shared} {g : Nat} {gs : GenState} {l : List Value} {α : Type} {k : GenResult → Sem α} {Q : α → Shared → Prop} (hg : s.gens[g]? = some gs)
    (hgo : Wake1 M A F gs (s.setGen g .running)) (hF : ∀ e s₁, s.gens.size ≤ s₁.gens.size → F e s₁ → e.quiet = true ∧ wpAny M A (k e.result) Q E (s₁.setGen g e.genState)) :
    wpAny M A (.resume g (.send .none) l k) Q E s := by
  intro Γ p hΓ
  rw [Sem.wp_resume]
  have hB : ∀ c, (Γ.wake c p).Woken A := fun c => hΓ.wake c p
  cases gs with
  | fresh c =>
    obtain ⟨e₁, s₁, hr, he⟩ := hgo (Γ.wake c p) p rfl (hB c)
    have hz := runs_gsz hr
    rw [setGen_size] at hz
    obtain ⟨hq, h⟩ := hF e₁ s₁ hz he
    exact ⟨_, _, by unfold Wakes; rw [hg]; exact ⟨e₁, s₁, hr, hq, rfl, rfl⟩, h Γ p hΓ⟩
  | suspended k₀ l₀ c₀ p₀ fs₀ cl =>
    obtain ⟨e₁, s₁, hr, he⟩ := hgo (Γ.wake c₀ p) p₀ rfl (hB c₀)
    have hz := runs_gsz hr
    rw [setGen_size] at hz
    obtain ⟨hq, h⟩ := hF e₁ s₁ hz he
    exact ⟨_, _, by unfold Wakes; rw [hg]; exact ⟨e₁, s₁, hr, hq, rfl, rfl⟩, h Γ p hΓ⟩
  | running => exact hgo.elim
  | finished => exact hgo.elim
section
variable {P : Program} {w : World} {A : Around} {E : Value → Shared → Prop} {s : Shared}
/-- next(g): it hands out, it ends, or an exception leaves it -/
theorem next_gen1 {a : Addr} {g : Nat} {gs : GenState} {F : End → Shared → Prop} {Q : Option Value → Shared → Prop} (hh : A.handled = none) (hl : s.heap.NoLimit) (hroom : A.depth < recursionLimit) (hg : s.heap.IsGen a g) (hgs : s.gens[g]? = some gs)
    (hgo : Wake1 (model P w) A.in1 F gs (s.setGen g .running)) (hF : ∀ e s₁, s.gens.size ≤ s₁.gens.size → F e s₁ → e.quiet = true ∧ match e with
      | .susp v _ _ _ _ _ _ => Q (some v) (s₁.setGen g e.genState)
      | .ret (.ok f) => (f = .ret .none ∨ f = .next) ∧ ∀ h', (∀ b o, s₁.heap.get? b = some o → h'.get? b = some o) → Q none { s₁.setGen g .finished with heap := h' }
      | .ret (.error x) => s₁.heap.IsGen a g ∧ NotStop (model P w) x s₁.heap ∧ E x (s₁.setGen g .finished)) :
    wpAny (model P w) A (pyNext (.ref a)) Q E s := by
  unfold pyNext
  refine wpAny_bind (wpAny_attempt (wpAny_callSpecial?_slot (name := Str.ofString "__next__") hg.typeIs slot_gen_next
    (wpAny_call_entry slot_gen_next hg.typeIs entry_gen_next ?_ (args_gen_next _))))
  show wpAny _ A.in1 (Builtin.Generator.genWake (.ref a) (.send .none)) _ _ s
  unfold Builtin.Generator.genWake
  refine wpAny_bind (wpAny_holding (wpAny_genNumber hg (wpAny_bind (wpAny_genState hgs ?_))))
  cases gs with
  | running => exact hgo.elim
  | finished => exact hgo.elim
  | _ =>
    refine wpAny_bind (wpAny_roomToWake hl hroom ?_)
    show wpAny _ A.in1 (.resume g (.send .none) [] _) _ _ s
    refine wpAny_resume1 hgs hgo fun e s₁ hz he => ?_
    obtain ⟨hq, hm⟩ := hF e s₁ hz he
    refine ⟨hq, ?_⟩
    cases e with
    | susp v g' l' k' c' p' fs' => exact wpAny_pure ⟨v, rfl, wpAny_pure hm⟩
    | ret r =>
      cases r with
      | ok f =>
        obtain ⟨hr, hp⟩ := hm
        have hres : End.result (.ret (.ok f)) = .returned .none := by
          rcases hr with hr | hr <;> rw [hr] <;> rfl
        first | rw [hres] | simp only [hres]
        show wpAny _ A.in1 (newExc (.type "StopIteration") [] >>= _) _ _ _
        refine wpAny_bind ?_
        simp only [newExc, newTuple]
        refine wpAny_bind (wpAny_newObj_type ?_ (by size_fits))
        refine wpAny_bind (m := firstArgMember _ _) (wpAny_of_eq (a := Value.none) (by first | rfl | (simp only [firstArgMember]; rfl)) ?_)
        refine wpAny_newObj_type ?_ (by size_fits)
        simp only [raiseNew]
        refine wpAny_bind (wpAny_bind (wpAny_handled ?_))
        first | rw [show A.in1.handled = none from hh] | rw [hh]
        refine wpAny_throw ?_
        refine wpAny_bind (wpAny_isInstance (T := "StopIteration") (b := true) ⟨_, Heap.get?_push_size _ rfl, rfl⟩ isSubtype_stop ?_)
        exact wpAny_pure (hp _ fun b o hb => Heap.get?_push_of_some _ (Heap.get?_push_of_some _ hb))
      | error x =>
        obtain ⟨hg1, hns, hq'⟩ := hm
        obtain ⟨o, nm, qn, ho, hc, hd, hsl⟩ := hg1
        show wpAny _ A.in1 (Builtin.Generator.genLeft (.ref a) x) _ _ _
        unfold Builtin.Generator.genLeft Builtin.Generator.madeByALambda
        refine wpAny_bind (wpAny_bind (wpAny_load (o := o) ho (wpAny_pure ?_)))
        refine wpAny_bind (hns _ _ _ _ rfl ?_)
        rw [Bool.and_false, if_neg Bool.false_ne_true]
        unfold Builtin.Generator.genEscaped
        first
          | refine wpAny_bind (hns _ _ _ _ rfl ?_)
          | refine wpAny_bind (wpAny_pure (wpAny_bind (hns _ _ _ _ rfl ?_)))
        rw [if_pos (show (!false) = true from rfl)]
        first
          | refine wpAny_throw ?_
          | refine wpAny_bind (wpAny_throw ?_)
        refine wpAny_bind (hns _ _ _ _ rfl ?_)
        rw [if_neg Bool.false_ne_true]
        exact wpAny_throw hq'
end
end My
/-! A generator def's body, whoever takes what it hands out. -/
namespace My
open PySem PySem.Spec PyProof.Rows L2 GenW
/-- the heap's first n objects -/
def cutH (h : Heap) (n : Nat) : Heap := ⟨h.objs.extract 0 n, h.life⟩
theorem cutH_size {h : Heap} {n : Nat} (l : n ≤ h.objs.size) : (cutH h n).objs.size = n := by
  show (h.objs.extract 0 n).size = n
  rw [Array.size_extract]; omega
theorem cutH_get {h : Heap} {n b : Nat} (l : b < n) : (cutH h n).get? b = h.get? b := by
  unfold Heap.get? cutH
  have e : (h.objs.extract 0 n)[b]? = h.objs[b]? := by
    rw [Array.getElem?_extract]
    by_cases hb : b < h.objs.size
    · rw [if_pos (by omega)]; simp
    · rw [if_neg (by omega), Array.getElem?_eq_none (by omega)]
  simp only [e]
theorem cutH_of {h : Heap} {n b : Nat} {o : Obj} (e : (cutH h n).get? b = some o) : b < n ∧ h.get? b = some o := by
  have hl := Heap.lt_size e
  have hl : b < (h.objs.extract 0 n).size := hl
  rw [Array.size_extract] at hl
  have : b < n := by omega
  exact ⟨this, (cutH_get this).symm.trans e⟩
/-- from where a stretch is seen: the objects ahead of the generator's frame as they stand at its wake, the tracked heap, what is pinned -/
structure Root where
  s : Shared
  H : Hp
  pn : List (Addr × Obj)
structure GPar where
  P : Program
  w : World
  K : PySem.W.Frag
  mg : Str → Option Value
  base : Heap
  N : List Str
  qual : Str
  scope : Scope
  f : Addr
  cd : Value
  A : Around
  outer : List Env
  L : Addr
  E : XK
def GPar.env (g : GPar) : Env := envOfC g.qual g.scope g.L g.f g.cd
def GPar.X (g : GPar) (r : Root) : Cx where
  prog := g.P
  w := g.w
  K := g.K
  mg := g.mg
  base := g.base
  A := g.A.deeper (envOfC g.qual g.scope g.L g.f g.cd)
  N := g.N
  s_0 := r.s
  H_0 := r.H
  env := envOfC g.qual g.scope g.L g.f g.cd
  outer := g.outer
  stack := envOfC g.qual g.scope g.L g.f g.cd :: g.outer
  ex := []
  calm := true
  fn := fun _ => true
  pn := r.pn
  xe := fun e s' => wpAny (model g.P g.w) (g.A.deeper (envOfC g.qual g.scope g.L g.f g.cd)) (leaving (envOfC g.qual g.scope g.L g.f g.cd) e)
      (fun _ s'' => CX g.P g.w g.outer r.H r.s g.E e s'' ∧ ∀ p ∈ r.pn, s''.heap.get? p.1 = some p.2) (fun _ _ => False) s'
theorem takes_gX {g : GPar} {r : Root} : Takes (g.X r) (fun cls d _ H' => g.E cls d H') := fun u s' x =>
  XE.leaveG (W := fun cls d _ H' => g.E cls d H') (E := g.E) rfl rfl rfl (fun _ _ _ _ h => h) x
theorem owns_gX {g : GPar} {r : Root} : PassesOwn (model g.P g.w) (g.X r).A (g.X r).env (g.X r).xe :=
  passes_of (X := g.X r) (K := fun e s'' => CX g.P g.w g.outer r.H r.s g.E e s'' ∧ ∀ p ∈ r.pn, s''.heap.get? p.1 = some p.2) (E₁ := fun _ _ => False) rfl
/-- the generator's own state: ip its iterators as they stand -/
structure GInv (g : GPar) (r : Root) (ip : List (Addr × Obj)) (σ : L2.St) (H : Hp) (s : Shared) : Prop where
  size : r.s.heap.objs.size = g.L
  low : ∀ q ∈ ip, g.L ≤ q.1
  apart : ∀ p ∈ r.pn, ∀ q ∈ ip, p.1 ≠ q.1
  inv : Inv (g.X r) ip σ H s
/-- what is handed out at turn i, by the heap at the wake and the heap then; what is promised of the heap at the wake behind turn i -/
structure Prt where
  out : Nat → Hp → V → Hp → Prop
  back : Nat → Hp → Hp → Prop
/-- asleep with i items out: whoever wakes it so .. -/
def PhiG (g : GPar) (T : Prt) (Fn : Nat → Hp → Hp → Prop) : Nat → Nat → Root → End → Shared → Prop
  | 0 => fun i r e s' => match e with
    | .ret (.ok f) => (f = .ret .none ∨ f = .next) ∧ ∃ ip σ H, GInv g r ip σ H s' ∧ Fn i r.H H
    | .ret (.error x) => CX g.P g.w g.outer r.H r.s g.E x s' ∧ ∀ p ∈ r.pn, s'.heap.get? p.1 = some p.2
    | .susp .. => False
  | n + 1 => fun i r e s' => match e with
    | .ret (.ok f) => (f = .ret .none ∨ f = .next) ∧ ∃ ip σ H, GInv g r ip σ H s' ∧ Fn i r.H H
    | .ret (.error x) => CX g.P g.w g.outer r.H r.s g.E x s' ∧ ∀ p ∈ r.pn, s'.heap.get? p.1 = some p.2
    | .susp v gd l k c p fs => (End.susp v gd l k c p fs).quiet = true ∧ ∃ x ip σ H, GInv g r ip σ H s' ∧ RelV x v ∧ T.out i r.H x H ∧
        ∀ r' s'', GInv g r' ip σ r'.H s'' → T.back i H r'.H → Seg1 (model g.P g.w) g.A (PhiG g T Fn n (i + 1) r') c (k (.send .none)) fs s''
theorem phi_end {g : GPar} {T : Prt} {Fn : Nat → Hp → Hp → Prop} {n i : Nat} {r : Root} {f : Flow} {s' : Shared} (h : (f = .ret .none ∨ f = .next) ∧ ∃ ip σ H, GInv g r ip σ H s' ∧ Fn i r.H H) : PhiG g T Fn n i r (.ret (.ok f)) s' := by
  cases n <;> exact h
theorem phi_exc {g : GPar} {T : Prt} {Fn : Nat → Hp → Hp → Prop} {n i : Nat} {r : Root} {x : Value} {s' : Shared} (h : CX g.P g.w g.outer r.H r.s g.E x s' ∧ ∀ p ∈ r.pn, s'.heap.get? p.1 = some p.2) : PhiG g T Fn n i r (.ret (.error x)) s' := by
  cases n <;> exact h
/-- what is wanted behind a statement of a generator: by how many are out -/
structure GEn where
  nx : Nat → Hp → L2.St → Hp → Prop
  rt : Nat → Hp → VK
  bk : Nat → Hp → L2.St → Hp → Prop := fun _ _ _ _ => False
  ct : Nat → Hp → L2.St → Hp → Prop := fun _ _ _ _ => False
def GEn.at (D : GEn) (i : Nat) (Hw : Hp) : Ends := { nx := D.nx i Hw, rt := D.rt i Hw, bk := D.bk i Hw, ct := D.ct i Hw }
abbrev TGg := GEn → Nat → Hp → L2.St → Hp → Prop
def GSQ (g : GPar) (ip : List (Addr × Obj)) (D : GEn) (i : Nat) (f : Flow) (r : Root) (s : Shared) : Prop :=
  match f with
  | .next => ∃ σ H, GInv g r ip σ H s ∧ D.nx i r.H σ H
  | .brk => ∃ σ H, GInv g r ip σ H s ∧ D.bk i r.H σ H
  | .cont => ∃ σ H, GInv g r ip σ H s ∧ D.ct i r.H σ H
  | .ret u => ∃ v σ H, GInv g r ip σ H s ∧ RelV v u ∧ D.rt i r.H v H
structure GCo (g : GPar) (c : Code) (fs : List Frame) (gd : Bool → Bool) : Prop where
  over : g.A.over c fs = g.A.deeper (envOfC g.qual g.scope g.L g.f g.cd)
  split : splitAtGen fs = none
  guard : fs.any Frame.guarded = false
  gd : gd false = false
structure GKo (g : GPar) (T : Prt) (Fn : Nat → Hp → Hp → Prop) (tot : Nat) (ip : List (Addr × Obj)) (c : Code) (fs : List Frame) (K : Flow → Sem PySem.Fin) (J : Value → Sem PySem.Fin) (D : GEn) : Prop where
  ok : ∀ (n i : Nat) (r : Root) (s : Shared) (f : Flow), n + i = tot → GSQ g ip D i f r s → Seg1 (model g.P g.w) g.A (PhiG g T Fn n i r) c (K f) fs s
  exc : ∀ (n i : Nat) (r : Root) (e : Value) (s : Shared), (g.X r).xe e s → Seg1 (model g.P g.w) g.A (PhiG g T Fn n i r) c (J e) fs s
structure GS1 (g : GPar) (T : Prt) (tot : Nat) (st : Stmt) (t : TGg) : Prop where
  run : ∀ (Fn : Nat → Hp → Hp → Prop) (ip : List (Addr × Obj)) (n i : Nat) (r : Root) (c : Code) (fs : List Frame) (K : Flow → Sem PySem.Fin) (J : Value → Sem PySem.Fin) (gd : Bool → Bool) (lv : List Value → List Value) (s : Shared) (σ : L2.St) (H : Hp) (D : GEn),
    GCo g c fs gd → n + i = tot → GKo g T Fn tot ip c fs K J D → GInv g r ip σ H s → t D i r.H σ H → Seg1 (model g.P g.w) g.A (PhiG g T Fn n i r) c ((exec st (envOfC g.qual g.scope g.L g.f g.cd)).wrap K J gd lv) fs s
structure GS1s (g : GPar) (T : Prt) (tot : Nat) (st : List Stmt) (t : TGg) : Prop where
  run : ∀ (Fn : Nat → Hp → Hp → Prop) (ip : List (Addr × Obj)) (n i : Nat) (r : Root) (c : Code) (fs : List Frame) (K : Flow → Sem PySem.Fin) (J : Value → Sem PySem.Fin) (gd : Bool → Bool) (lv : List Value → List Value) (s : Shared) (σ : L2.St) (H : Hp) (D : GEn),
    GCo g c fs gd → n + i = tot → GKo g T Fn tot ip c fs K J D → GInv g r ip σ H s → t D i r.H σ H → Seg1 (model g.P g.w) g.A (PhiG g T Fn n i r) c ((execs st (envOfC g.qual g.scope g.L g.f g.cd)).wrap K J gd lv) fs s
section
variable {g : GPar} {T : Prt} {tot : Nat} {st : Stmt} {rest : List Stmt}
def tPl (t : TS) : TGg := fun D i Hw σ H => t (D.at i Hw) σ H
theorem sp_gsq {ip : List (Addr × Obj)} {r : Root} {s : Shared} {D : GEn} {i : Nat} {f : Flow} (hs : r.s.heap.objs.size = g.L) (hw : ∀ q ∈ ip, g.L ≤ q.1) (ha : ∀ p ∈ r.pn, ∀ q ∈ ip, p.1 ≠ q.1) (h : SP (g.X r) ip (D.at i r.H) f s) : GSQ g ip D i f r s := by
  cases f with
  | next => obtain ⟨σ, H, I, q⟩ := h; exact ⟨σ, H, ⟨hs, hw, ha, I⟩, q⟩
  | brk => obtain ⟨σ, H, I, q⟩ := h; exact ⟨σ, H, ⟨hs, hw, ha, I⟩, q⟩
  | cont => obtain ⟨σ, H, I, q⟩ := h; exact ⟨σ, H, ⟨hs, hw, ha, I⟩, q⟩
  | ret u => obtain ⟨v, σ, H, I, r1, q⟩ := h; exact ⟨v, σ, H, ⟨hs, hw, ha, I⟩, r1, q⟩
theorem g1_ps {t : TS} (h : ∀ r, PS (g.X r) st t) : GS1 g T tot st (tPl t) := by
  refine ⟨fun Fn ip n i r c fs K J gd lv s σ H D gc hn k I ht => ?_⟩
  refine seg1_wrap ?_
  rw [gc.over]
  exact wpAny_mono ((h r).run ip s σ H (D.at i r.H) I.inv ht) (fun f s' hs => k.ok n i r s' f hn (sp_gsq I.size I.low I.apart hs)) fun x s' hx => k.exc n i r x s' hx
theorem g1s_pss {t : TS} (h : ∀ r, PSs (g.X r) rest t) : GS1s g T tot rest (tPl t) := by
  refine ⟨fun Fn ip n i r c fs K J gd lv s σ H D gc hn k I ht => ?_⟩
  refine seg1_wrap ?_
  rw [gc.over]
  exact wpAny_mono ((h r).run ip s σ H (D.at i r.H) I.inv ht) (fun f s' hs => k.ok n i r s' f hn (sp_gsq I.size I.low I.apart hs)) fun x s' hx => k.exc n i r x s' hx
def tG1nil : TGg := fun D i Hw σ H => D.nx i Hw σ H
theorem g1s_nil : GS1s g T tot [] tG1nil := by
  refine ⟨fun Fn ip n i r c fs K J gd lv s σ H D gc hn k I ht => ?_⟩
  exact seg1_execs_nil (k.ok n i r s .next hn ⟨σ, H, I, ht⟩)
def tG1then (t u : TGg) : TGg := fun D i Hw σ H => t { D with nx := fun i' Hw' σ' H' => u D i' Hw' σ' H' } i Hw σ H
theorem g1s_cons {t u : TGg} (a : GS1 g T tot st t) (b : GS1s g T tot rest u) : GS1s g T tot (st :: rest) (tG1then t u) := by
  refine ⟨fun Fn ip n i r c fs K J gd lv s σ H D gc hn k I ht => ?_⟩
  refine seg1_execs_cons ?_
  refine a.run Fn ip n i r c fs _ J gd lv s σ H { D with nx := fun i' Hw' σ' H' => u D i' Hw' σ' H' } gc hn ⟨fun n' i' r' s' f hn' hs => ?_, k.exc⟩ I ht
  cases f with
  | next =>
    obtain ⟨σ', H', I', q⟩ := hs
    exact b.run Fn ip n' i' r' c fs K J gd lv s' σ' H' D gc hn' k I' q
  | brk => exact k.ok n' i' r' s' .brk hn' hs
  | cont => exact k.ok n' i' r' s' .cont hn' hs
  | ret u => exact k.ok n' i' r' s' (.ret u) hn' hs
/-- yield e -/
def tG1yield (T : Prt) (tot : Nat) (te : TE) : TGg := fun D i Hw σ H => i < tot ∧ te σ H fun x H1 => T.out i Hw x H1 ∧ ∀ H2, T.back i H1 H2 → D.nx (i + 1) H2 σ H2
theorem g1_yield {e : Expr} {yp pos : Pos} {te : TE} (he : ∀ r, PE (g.X r) e te) (hco : g.scope.isCoroutine = false := by rfl) (hk : g.scope.kind = .function := by rfl) : GS1 g T tot (.Expr (.Yield (some e) yp) pos) (tG1yield T tot te) := by
  refine ⟨fun Fn ip n i r c fs K J gd lv s σ H D gc hn k I ht => ?_⟩
  obtain ⟨hlt, ht⟩ := ht
  obtain ⟨n, rfl⟩ : ∃ m, n = m + 1 := ⟨n - 1, by omega⟩
  refine seg1_Expr_Yield gc.split ?_ hco (by simp [interactive, envOfC, hk])
  rw [gc.over]
  refine wpAny_mono ((he r).run _ s σ H _ I.inv ht) (fun v s' hv => ?_) fun x s' hx => k.exc _ i r x s' hx
  obtain ⟨x, H1, I1, rv, q1, q2⟩ := hv
  intro l kk hkk p
  refine ⟨?_, x, ip, σ, H1, ⟨I.size, I.low, I.apart, I1⟩, rv, q1, fun r' s'' I' hb => hkk s'' _ ?_⟩
  · show (!(gd false || fs.any Frame.guarded)) = true
    rw [gc.gd, gc.guard]; rfl
  · exact k.ok n (i + 1) r' s'' .next (by omega) ⟨σ, r'.H, I', q2 r'.H hb⟩
theorem gco_loop {c c' : Code} {fs : List Frame} {gd : Bool → Bool} {k : Result → Sem PySem.Fin} {l kp : List Value} {p : Pos} (gc : GCo g c fs gd) (hw : c'.weight = 0) (hu : c'.cUnits = 0) : GCo g c' (.ret k none (gd false) l c p kp :: fs) id where
  over := (over_loop hw hu).trans gc.over
  split := by
    show (splitAtGen fs).map _ = none
    rw [gc.split]; rfl
  guard := by
    show (gd false || fs.any Frame.guarded) = false
    rw [gc.gd, gc.guard]; rfl
  gd := rfl
theorem seg1_cameBack {ip : List (Addr × Obj)} {Fn : Nat → Hp → Hp → Prop} {c : Code} {fs : List Frame} {K : Flow → Sem PySem.Fin} {J : Value → Sem PySem.Fin} {gd : Bool → Bool} {lv : List Value → List Value} {D : GEn} {n i : Nat} {r : Root} {s : Shared} {e : Value}
    (gc : GCo g c fs gd) (k : GKo g T Fn tot ip c fs K J D) (h : cameBackBy (model g.P g.w) (g.X r).A (g.X r).env (g.X r).xe e s) :
    Seg1 (model g.P g.w) g.A (PhiG g T Fn n i r) c (((Sem.raise e : Sem Flow).onRaise (cameBack (envOfC g.qual g.scope g.L g.f g.cd))).wrap K J gd lv) fs s := by
  show Seg1 _ _ _ _ (((cameBack (envOfC g.qual g.scope g.L g.f g.cd) e).bind fun _ => (Sem.raise e : Sem Flow)).wrap K J gd lv) _ _
  rw [Sem.bind_eq_wrap, Sem.wrap_wrap]
  refine seg1_wrap ?_
  rw [gc.over]
  exact wpAny_mono h (fun _ s' hx => k.exc n i r e s' hx) fun x s' hx => k.exc n i r x s' hx
/-- for tg in iter: .. with yields within -/
def tG1for (wi : TI) (gg : TG) (tb : TGg) : TGg := fun D i Hw σ H => wi σ H fun J H1 => ∃ W : Nat → Nat → Nat → Hp → L2.St → Hp → Prop, (∃ m, W 0 m i Hw σ H1) ∧ ∀ j m i Hw σ H, W j m i Hw σ H →
  (J.stop j H ∧ D.nx i Hw σ H) ∨ (J.go j H ∧ ∃ N : Nat → Hp → L2.St → Hp → Prop, (∀ i' Hw' σ' H', N i' Hw' σ' H' → ∃ m', m' < m ∧ W (j + 1) m' i' Hw' σ' H') ∧ ∀ x H', J.yld j H x H' → gg x σ H' fun σ2 H2 => tb { D with nx := N, ct := N, bk := D.nx } i Hw σ2 H2)
theorem g1_for {tg iter : Expr} {body : List Stmt} {pos : Pos} {wi : TI} {gg : TG} {tb : TGg} (hi : ∀ r, PI (g.X r) tg iter wi) (hg : ∀ r, PG (g.X r) tg gg) (hb : GS1s g T tot body tb)
    (hs : ∀ x, foldedSetIterable iter (envOfC g.qual g.scope g.L g.f g.cd) x = pure x := by intro _; rfl) : GS1 g T tot (.For tg iter body [] pos) (tG1for wi gg tb) := by
  refine ⟨fun Fn ip n i r c fs K J gd lv s σ H D gc hn k I ht => ?_⟩
  refine seg1_For hs ?_
  rw [gc.over]
  refine wpAny_mono ((hi r).run ip s σ H _ I.inv ht) (fun v s1 h1 => ?_) fun x s' hx => k.exc n i r x s' hx
  refine wpAny_mono h1 (fun itv s2 h2 p => ?_) fun x s' hx => k.exc n i r x s' hx
  obtain ⟨it, fp, tn, Jt, H2, e, I2, TT, st2, f2, W, ⟨m0, w0⟩, turn⟩ := h2
  subst e
  have gl := fun (kk : Result → Sem PySem.Fin) => gco_loop (k := kk) (c' := .forLoop tg (.ref it) body [] (envOfC g.qual g.scope g.L g.f g.cd)) (l := lv []) (kp := []) (p := p) gc rfl rfl
  have gb := fun (kk : Result → Sem PySem.Fin) => gco_loop (k := kk) (c' := .block [] (envOfC g.qual g.scope g.L g.f g.cd)) (l := lv []) (kp := []) (p := p) gc rfl rfl
  -- what stays true of the iterator's objects
  have fL : ∀ b ∈ fp, g.L ≤ b := fun b hb => by
    obtain ⟨_, _, _, z | z, _⟩ := f2 b hb
    · cases z
    · have z : r.s.heap.objs.size ≤ b := z
      rw [I.size] at z; exact z
  have fNe : ∀ b ∈ fp, b ≠ g.L ∧ b ∉ frs g.outer ∧ (∀ x c, (envOfC g.qual g.scope g.L g.f g.cd).cells.lookup x = some c → c ≠ b) ∧ ∀ q ∈ ip, q.1 ≠ b := fun b hb => by
    obtain ⟨_, z1, z2, _, z3, z4⟩ := f2 b hb
    exact ⟨z1, z2, z3, fun q hq => z4 q (List.mem_append_right _ hq)⟩
  have stat : ∀ {r' : Root} {H' : Hp}, r'.s.heap.objs.size = g.L → (∀ b ∈ fp, H' b = none) → (∀ b ∈ fp, ∀ q ∈ r'.pn, q.1 ≠ b) → ∀ b ∈ fp, FpOk (g.X r') ip H' b := fun {r' H'} hz hn hp b hb => by
    obtain ⟨z1, z2, z3, z4⟩ := fNe b hb
    refine ⟨hn b hb, z1, z2, .inr ?_, z3, fun q hq => (List.mem_append.mp hq).elim (hp b hb q) (z4 q)⟩
    show r'.s.heap.objs.size ≤ b
    rw [hz]; exact fL b hb
  have loop : ∀ (m j n i : Nat) (r : Root) (s : Shared) (σ : L2.St) (H : Hp), n + i = tot → W j m i r.H σ H → GInv g r ip σ H s → tn j s.heap → (∀ b ∈ fp, H b = none) → (∀ b ∈ fp, ∀ q ∈ r.pn, q.1 ≠ b) →
      Seg1 (model g.P g.w) g.A (PhiG g T Fn n i r) (.forLoop tg (.ref it) body [] (envOfC g.qual g.scope g.L g.f g.cd)) ((model g.P g.w).den (.forLoop tg (.ref it) body [] (envOfC g.qual g.scope g.L g.f g.cd)))
        (.ret (fun r => ((match r with | .ok f => (.pure f : Sem Flow) | .error e => .raise e).onRaise (cameBack (envOfC g.qual g.scope g.L g.f g.cd))).wrap K J gd lv) none (gd false) (lv []) c p [] :: fs) s := by
    intro m
    induction m using Nat.strongRecOn with
    | ind m ih =>
      intro j n i r s σ H hn w I st fr fq
      have ee : ∀ (n i : Nat) (r : Root) (x : Value) (s' : Shared), (g.X r).xe x s' → Seg1 (model g.P g.w) g.A (PhiG g T Fn n i r) (.forLoop tg (.ref it) body [] (envOfC g.qual g.scope g.L g.f g.cd))
          ((do noteFrame x (envOfC g.qual g.scope g.L g.f g.cd); theTreesLotGoes x : Sem Unit).wrap (fun _ => .raise x) .raise id id)
          (.ret (fun r => ((match r with | .ok f => (.pure f : Sem Flow) | .error e => .raise e).onRaise (cameBack (envOfC g.qual g.scope g.L g.f g.cd))).wrap K J gd lv) none (gd false) (lv []) c p [] :: fs) s' := fun n i r x s' hx => by
        refine seg1_wrap ?_
        rw [(gl _).over]
        refine wpAny_bind (wpAny_mono (owns_gX x s' hx) (fun _ s'' hcb => wpAny_theTreesLotGoes ?_) fun y s'' hcb => ?_)
        · exact seg1_leaf (.error x) (seg1_cameBack gc k hcb)
        · exact seg1_leaf (.error y) (seg1_cameBack gc k hcb)
      refine seg1_forLoop ?_
      rw [(gl _).over]
      rcases turn j m i r.H σ H w with ⟨stop, qn⟩ | ⟨go, N, hN, step⟩
      · refine wpAny_mono (TT.done (g.X r) rfl rfl rfl rfl j ip s σ H (g.X r).xe I.inv (stat I.size fr fq) st stop) (fun z s4 hz => ?_) fun x s' hx => ee n i r x s' hx
        obtain ⟨hr, I4⟩ := hz
        subst hr
        show Seg1 _ _ _ _ ((execs [] (envOfC g.qual g.scope g.L g.f g.cd)) >>= fun f => .pure (.done f)) _ s4
        exact seg1_leaf (.ok .next) (k.ok n i r s4 .next hn ⟨σ, H, ⟨I.size, I.low, I.apart, I4⟩, qn⟩)
      · refine wpAny_mono (TT.item (g.X r) rfl rfl rfl rfl j ip s σ H (g.X r).xe I.inv (stat I.size fr fq) st go) (fun z s4 hz => ?_) fun x s' hx => ee n i r x s' hx
        obtain ⟨u, hr, h4⟩ := hz
        subst hr
        refine wpAny_mono h4 (fun _ s5 h5 => ?_) fun x s' hx => ee n i r x s' hx
        obtain ⟨x, H5, I5, r5, y5, st5, fr5⟩ := h5
        have f5 := stat (r' := r) I.size fr5 fq
        have I5' := I5.pinned f5 (TT.obj _ _ st5)
        refine wpAny_mono ((hg r).run _ s5 σ H5 x u _ I5' r5 (step x H5 y5)) (fun _ s6 h6 => ?_) fun x s' hx => ee n i r x s' hx
        obtain ⟨σ6, H6, I6, q6⟩ := h6
        have ap6 : ∀ p ∈ r.pn, ∀ q ∈ ip ++ pinsAt fp s5.heap, p.1 ≠ q.1 := fun p hp q hq => (List.mem_append.mp hq).elim (I.apart p hp q) fun z => by
          obtain ⟨z1, _⟩ := of_pinsAt z
          exact fq q.1 z1 p hp
        have low6 : ∀ q ∈ ip ++ pinsAt fp s5.heap, g.L ≤ q.1 := fun q hq => (List.mem_append.mp hq).elim (I.low q) fun z => fL q.1 (of_pinsAt z).1
        refine hb.run Fn (ip ++ pinsAt fp s5.heap) n i r _ _ _ _ id id s6 σ6 H6 { D with nx := N, ct := N, bk := D.nx } (gl _) hn ⟨fun n' i' r' s7 f hn' hs => ?_, fun n' i' r' x s' hx => ee n' i' r' x s' hx⟩ ⟨I.size, low6, ap6, I6⟩ q6
        have un : ∀ {σ7 : L2.St} {H7 : Hp}, GInv g r' (ip ++ pinsAt fp s5.heap) σ7 H7 s7 → GInv g r' ip σ7 H7 s7 ∧ tn (j + 1) s7.heap ∧ (∀ b ∈ fp, H7 b = none) ∧ ∀ b ∈ fp, ∀ q ∈ r'.pn, q.1 ≠ b := fun {σ7 H7} I7 => by
          refine ⟨⟨I7.size, fun q hq => I7.low q (List.mem_append_left _ hq), fun p hp q hq => I7.apart p hp q (List.mem_append_left _ hq), I7.inv.unpinned⟩, TT.keep _ _ _ st5 fun b hb o e => (I7.inv.pin (b, o) (List.mem_append_right _ (List.mem_append_right _ (mem_pinsAt hb e)))).1, fun b hb => ?_, fun b hb q hq => ?_⟩
          · obtain ⟨o, e, d⟩ := TT.obj _ _ st5 b hb
            exact (I7.inv.pin (b, o) (List.mem_append_right _ (List.mem_append_right _ (mem_pinsAt hb e)))).2.1
          · obtain ⟨o, e, d⟩ := TT.obj _ _ st5 b hb
            exact I7.apart q hq (b, o) (List.mem_append_right _ (mem_pinsAt hb e))
        cases f with
        | next =>
          obtain ⟨σ7, H7, I7, n7⟩ := hs
          obtain ⟨m', hm, w7⟩ := hN i' r'.H σ7 H7 n7
          obtain ⟨a1, a2, a3, a4⟩ := un I7
          exact seg1_again rfl (ih m' hm (j + 1) n' i' r' s7 σ7 H7 hn' w7 a1 a2 a3 a4)
        | cont =>
          obtain ⟨σ7, H7, I7, n7⟩ := hs
          obtain ⟨m', hm, w7⟩ := hN i' r'.H σ7 H7 n7
          obtain ⟨a1, a2, a3, a4⟩ := un I7
          exact seg1_again rfl (ih m' hm (j + 1) n' i' r' s7 σ7 H7 hn' w7 a1 a2 a3 a4)
        | brk =>
          obtain ⟨σ7, H7, I7, q7⟩ := hs
          exact seg1_leaf (.ok .next) (k.ok n' i' r' s7 .next hn' ⟨σ7, H7, (un I7).1, q7⟩)
        | ret v =>
          obtain ⟨x7, σ7, H7, I7, r7, q7⟩ := hs
          exact seg1_leaf (.ok (.ret v)) (k.ok n' i' r' s7 (.ret v) hn' ⟨x7, σ7, H7, (un I7).1, r7, q7⟩)
  have fr0 : ∀ b ∈ fp, H2 b = none := fun b hb => (f2 b hb).1
  have fq0 : ∀ b ∈ fp, ∀ q ∈ r.pn, q.1 ≠ b := fun b hb q hq => by
    obtain ⟨_, _, _, _, _, z⟩ := f2 b hb
    exact z q (List.mem_append_left _ hq)
  exact loop m0 0 n i r s2 σ H2 hn w0 ⟨I.size, I.low, I.apart, I2⟩ st2 fr0 fq0
end
end My
/-! Who takes what a generator hands out: the turn of a for or a comprehension. -/
namespace My
open PySem PySem.Spec PyProof.Rows L2 GenW
def cutS (s : Shared) (n : Nat) : Shared := { s with heap := cutH s.heap n }
/-- a generator that a context made -/
def GPar.of (X : Cx) (N : List Str) (qual : Str) (scope : Scope) (f : Addr) (cd : Value) (L : Addr) : GPar := ⟨X.prog, X.w, X.K, X.mg, X.base, N, qual, scope, f, cd, X.A.in1, X.stack, L, fun _ _ _ => False⟩
structure GFit (g : GPar) (X : Cx) : Prop where
  kind : g.scope.kind = .function
  plain : ∀ y ∈ g.scope.names, y.2 ≠ .cell ∧ y.2 ≠ .free
  room : X.A.depth < recursionLimit
  frL : ∀ b ∈ frs X.stack, b < g.L
  szL : X.s_0.heap.objs.size ≤ g.L
  celL : ∀ x c, X.env.cells.lookup x = some c → c < g.L
  locL : X.env.locals < g.L ∨ g.L < X.env.locals
/-- g sleeps, with i items out; fp: its own objects -/
structure GAt (g : GPar) (T : Prt) (Fn : Nat → Hp → Hp → Prop) (tot : Nat) (a gi i : Nat) (Rq : Hp → Prop) (fp : List Addr) (s : Shared) : Prop where
  ex : ∃ (S : GenState) (ip : List (Addr × Obj)) (σ : L2.St) (n : Nat), n + i = tot ∧ s.gens[gi]? = some S ∧ (i ≠ 0 → isSusp S = true) ∧ σ.length = g.N.length ∧
    (∃ m, s.heap.Ns g.L m ∧ ∀ (j : Nat) (x : Str) (v : V), g.N[j]? = some x → σ[j]? = some (some v) → Vis g.scope x → ∃ u, RelV v u ∧ m x = some u) ∧
    (∀ q ∈ ip, s.heap.get? q.1 = some q.2 ∧ q.1 ∈ fp ∧ (∀ v, q.2.data ≠ .cell v) ∧ q.1 ≠ g.L ∧ q.1 ≠ a) ∧
    ∀ r s'', GInv g r ip σ r.H s'' → Rq r.H → Wake1 (model g.P g.w) g.A (PhiG g T Fn n i r) S s''
  gen : s.heap.IsGen a gi
  aL : g.L < a
  ain : a ∈ fp
  Lin : g.L ∈ fp
  low : ∀ b ∈ fp, g.L ≤ b ∧ ∃ o, s.heap.get? b = some o ∧ ∀ v, o.data ≠ .cell v
theorem GAt.keep {g : GPar} {T : Prt} {Fn : Nat → Hp → Hp → Prop} {tot a gi i : Nat} {Rq : Hp → Prop} {fp : List Addr} {s s' : Shared} (h : GAt g T Fn tot a gi i Rq fp s) (hk : ∀ b ∈ fp, ∀ o, s.heap.get? b = some o → s'.heap.get? b = some o)
    (hg : ∀ S, s.gens[gi]? = some S → (i ≠ 0 → isSusp S = true) → s'.gens[gi]? = some S) : GAt g T Fn tot a gi i Rq fp s' := by
  obtain ⟨⟨S, ip, σ, n, h1, h2, h3, h4, ⟨m, hm, hl⟩, h6, h7⟩, hgen, aL, ain, Lin, low⟩ := h
  refine ⟨⟨S, ip, σ, n, h1, hg S h2 h3, h3, h4, ⟨m, ?_, hl⟩, fun q hq => ?_, h7⟩, ?_, aL, ain, Lin, fun b hb => ?_⟩
  · obtain ⟨o, es, ep, ho, r⟩ := hm
    exact ⟨o, es, ep, hk _ Lin o ho, r⟩
  · obtain ⟨z1, z2, z3⟩ := h6 q hq
    exact ⟨hk _ z2 _ z1, z2, z3⟩
  · obtain ⟨o, nm, qn, ho, r⟩ := hgen
    exact ⟨o, nm, qn, hk a ain o ho, r⟩
  · obtain ⟨z1, o, z2, z3⟩ := low b hb
    exact ⟨z1, o, hk b hb o z2, z3⟩
/-- behind a stretch that kept what stood ahead of L -/
theorem inv_back {X : Cx} {pins : List (Addr × Obj)} {σ : L2.St} {H H1 : Hp} {s s1 : Shared} {L : Nat} (I : Inv X pins σ H s) (os : s1.os = s.os) (bare : AllBare s1.gens) (u : Un (frs X.stack) [] H H1 (cutH s.heap L) s1.heap) (hok : HOk X.prog X.w H1 s1.heap)
    (szL : X.s_0.heap.objs.size ≤ L) (celL : ∀ x c, X.env.cells.lookup x = some c → c < L) (locL : X.env.locals < L ∨ (s1.heap.get? X.env.locals = s.heap.get? X.env.locals ∧ H1 X.env.locals = none))
    (pin : ∀ p ∈ X.pn ++ pins, s1.heap.get? p.1 = some p.2 ∧ H1 p.1 = none) : Inv X pins σ H1 s1 := by
  have lt0 : ∀ {b o}, X.s_0.heap.get? b = some o → b < L := fun {b o} e => Nat.lt_of_lt_of_le (Heap.lt_size e) szL
  have cut : ∀ {b o}, s.heap.get? b = some o → b < L → (cutH s.heap L).get? b = some o := fun {b o} e l => (cutH_get l).trans e
  have fsub : ∀ b ∈ X.fs, b ∈ frs X.stack := fun b hb => by
    rcases I.ok.stk with z | ⟨z, _⟩
    · rw [z]; exact hb
    · rw [z]
      show b ∈ List.filterMap (·.frame) (X.env :: X.outer)
      rw [List.filterMap_cons]
      split
      · exact hb
      · exact List.mem_cons_of_mem _ hb
  have nst : ∀ {b o}, X.s_0.heap.get? b = some o → b ∉ X.fs → b ∉ frs X.stack := fun {b o} e hb hm => by
    rcases List.mem_cons.mp (I.stkSub b hm) with z | z
    · have h1 := Heap.lt_size e
      have h2 := I.ok.above
      rw [z] at h1
      exact absurd (Nat.lt_of_lt_of_le h1 h2) (Nat.lt_irrefl _)
    · exact hb z
  have nl : ∀ b : Addr, b ∉ ([] : List Addr) := fun b z => by cases z
  have locK : ∀ m, s.heap.Ns X.env.locals m → s1.heap.Ns X.env.locals m := fun m hm => by
    obtain ⟨o, es, ep, ho, r⟩ := hm
    rcases locL with z | ⟨z, _⟩
    · obtain ⟨sl, e⟩ := u.any (cut ho z) I.free (nl _)
      exact ⟨_, es, ep, e, r⟩
    · exact ⟨o, es, ep, z.trans ho, r⟩
  have cellK : ∀ x c, X.env.cells.lookup x = some c → ∀ v, s.heap.IsCell c v → s1.heap.IsCell c v := fun x c e v hv => by
    obtain ⟨o, ho, hd⟩ := hv
    obtain ⟨sl, q⟩ := u.any (cut ho (celL x c e)) (I.freeC x c e) (nl _)
    exact ⟨_, q, hd⟩
  refine ⟨I.ok, os.trans I.os, bare, ⟨fun b o e n hb hx => ?_, fun b o e n hb hx => ?_, fun b o e n hx => ?_, fun b o e hx => ?_, fun b xs e => u.tups b xs (I.base.tups b xs e), fun b o xs e => u.frzs b o xs (I.base.frzs b o xs e), fun b ps e => ?_⟩, ?_, fun x c e => ?_, ?_, fun x c e => ?_, fun p hp => ?_, hok, I.len⟩
  · exact u.keep b o (cut (I.base.keep b o e n hb hx) (lt0 e)) (I.base.free b o e n hx) (nst e hb) (nl _)
  · obtain ⟨sl, e1⟩ := I.base.slot b o e n hb hx
    obtain ⟨sl', e2⟩ := u.slot b _ (cut e1 (lt0 e)) (I.base.free b o e n hx) (fsub b hb) (nl _)
    exact ⟨sl', e2⟩
  · obtain ⟨o', e1⟩ := I.base.there b o e hx
    exact u.free b o' (cut e1 (lt0 e)) (I.base.free b o e n hx) (nl _)
  · obtain ⟨o', e1⟩ := I.base.there b o e hx
    exact u.there b o' (cut e1 (lt0 e)) (nl _)
  · obtain ⟨m1, e1⟩ := I.base.tbls b ps e
    obtain ⟨m2, e2⟩ := u.tbls b _ e1
    exact ⟨m1 ++ m2, by rw [e2, Array.append_assoc]⟩
  · obtain ⟨m, hn, hl⟩ := I.loc
    refine ⟨m, locK m hn, fun i x v e1 e2 e3 => ?_⟩
    obtain ⟨u', r, l⟩ := hl i x v e1 e2 e3
    refine ⟨u', r, ?_⟩
    rcases l with l | ⟨k, c, e, z⟩
    · exact .inl l
    · exact .inr ⟨k, c, e, cellK x c e _ z⟩
  · obtain ⟨v, z⟩ := I.cell x c e
    exact ⟨v, cellK x c e v z⟩
  · rcases locL with z | ⟨_, z⟩
    · obtain ⟨m, ⟨o, es, ep, ho, r⟩, _⟩ := I.loc
      exact u.free _ o (cut ho z) I.free (nl _)
    · exact z
  · obtain ⟨v, o, ho, hd⟩ := I.cell x c e
    exact u.free c o (cut ho (celL x c e)) (I.freeC x c e) (nl _)
  · obtain ⟨z1, z2, z3, z4, z5⟩ := I.pin p hp
    obtain ⟨y1, y2⟩ := pin p hp
    exact ⟨y1, y2, z3, z4, z5⟩
/-- THE TURN -/
theorem gat_next {X : Cx} {N : List Str} {qual : Str} {scope : Scope} {f : Addr} {cd : Value} {L : Addr} {T : Prt} {Fn : Nat → Hp → Hp → Prop} {tot a gi i : Nat} {Rq : Hp → Prop} {fp : List Addr} {pins : List (Addr × Obj)} {σ : L2.St} {H : Hp} {s : Shared} {Q : Option Value → Shared → Prop} {E : Value → Shared → Prop}
    (ft : GFit (GPar.of X N qual scope f cd L) X) (hc : X.calm = true) (I : Inv X pins σ H s) (G : GAt (GPar.of X N qual scope f cd L) T Fn tot a gi i Rq fp s) (hf : ∀ b ∈ fp, FpOk X pins H b) (hR : Rq H)
    (hout : ∀ u x H' s' fp', Inv X pins σ H' s' → RelV x u → T.out i H x H' → GAt (GPar.of X N qual scope f cd L) T Fn tot a gi (i + 1) (T.back i H') fp' s' → (∀ b ∈ fp', FpOk X pins H' b) → Q (some u) s')
    (hend : ∀ H' s', Inv X pins σ H' s' → Fn i H H' → Q none s') : wpAny (model X.prog X.w) X.A (pyNext (.ref a)) Q E s := by
  obtain ⟨⟨S, ip, σg, n, hn, hgs, hsus, hlen, ⟨m, hm, hl⟩, hip, wake⟩, hgen, aL, ain, Lin, low⟩ := G
  have hLs : L < s.heap.objs.size := by
    obtain ⟨o, es, ep, ho, _⟩ := hm
    exact Heap.lt_size ho
  have hLsz : (cutH s.heap L).objs.size = L := cutH_size (Nat.le_of_lt hLs)
  have fL := hf L Lin
  have fa := hf a ain
  have cells0 : cellsFrom (L + 1) scope.names [] = [] := by
    have key : ∀ (names : List (Str × NameKind)) (k : Nat) (acc : List (Str × Addr)), (∀ y ∈ names, y.2 ≠ .cell) → cellsFrom k names acc = acc := by
      intro names
      induction names with
      | nil => intro k acc _; rfl
      | cons y r ih =>
        intro k acc h
        obtain ⟨nm, kd⟩ := y
        unfold cellsFrom
        have hk : ¬ (kd == NameKind.cell) = true := by
          have := h (nm, kd) List.mem_cons_self
          simpa using this
        rw [if_neg hk]
        exact ih _ _ fun z hz => h z (List.mem_cons_of_mem _ hz)
    exact key scope.names (L + 1) [] fun y hy => (ft.plain y hy).1
  have cells : ∀ x c, (envOfC qual scope L f cd).cells.lookup x = some c → False := fun x c e => by
    have e : (cellsFrom (L + 1) scope.names []).lookup x = some c := e
    rw [cells0] at e
    cases e
  -- what is pinned while it runs
  obtain ⟨oa, nm, qn, hoa, hac, had, has⟩ := id hgen
  obtain ⟨mX, hmX, _⟩ := id I.loc
  obtain ⟨oX, esX, epX, hoX, hdX, _⟩ := id hmX
  let ext : List (Addr × Obj) := if X.env.locals < L then [] else [(X.env.locals, oX)]
  have hext : ∀ p ∈ ext, p = (X.env.locals, oX) ∧ L < X.env.locals := fun p hp => by
    show _ ∧ _
    have hp : p ∈ (if X.env.locals < L then [] else [(X.env.locals, oX)]) := hp
    split at hp
    · cases hp
    · rename_i hlt
      refine ⟨by simpa using hp, ?_⟩
      rcases ft.locL with z | z
      · exact absurd z hlt
      · exact z
  let r : Root := ⟨cutS (s.setGen gi .running) L, H, (X.pn ++ pins) ++ ((a, oa) :: ext)⟩
  have frst : ∀ b, L ≤ b → b ∉ frs X.stack := fun b hb hm => absurd (Nat.lt_of_lt_of_le (ft.frL b hm) hb) (Nat.lt_irrefl _)
  have pinA : ∀ p ∈ r.pn, s.heap.get? p.1 = some p.2 ∧ H p.1 = none ∧ p.1 ≠ L ∧ p.1 ∉ frs X.stack ∧ ∀ v, p.2.data ≠ .cell v := fun p hp => by
    rcases List.mem_append.mp hp with z | z
    · obtain ⟨z1, z2, z3, z4, z5⟩ := I.pin p z
      refine ⟨z1, z2, fL.2.2.2.2.2 p z, fun hm => ?_, z5⟩
      rcases List.mem_cons.mp (I.stkSub p.1 hm) with y | y
      · exact z3 y
      · exact z4 y
    · rcases List.mem_cons.mp z with z | z
      · rw [z]
        exact ⟨hoa, fa.1, Nat.ne_of_gt aL, frst a (Nat.le_of_lt aL), fun v q => by rw [had] at q; cases q⟩
      · obtain ⟨z1, z2⟩ := hext p z
        rw [z1]
        exact ⟨hoX, I.free, Nat.ne_of_gt z2, frst _ (Nat.le_of_lt z2), fun v q => by rw [hdX] at q; cases q⟩
  have apart : ∀ p ∈ r.pn, ∀ q ∈ ip, p.1 ≠ q.1 := fun p hp q hq => by
    obtain ⟨y1, y2, y3, y4, y5⟩ := hip q hq
    obtain ⟨_, fq1, _, _, _, fq5⟩ := hf q.1 y2
    rcases List.mem_append.mp hp with z | z
    · exact fq5 p z
    · rcases List.mem_cons.mp z with z | z
      · rw [z]; exact Ne.symm y5
      · rw [(hext p z).1]; exact Ne.symm fq1
  have bsL : X.base.objs.size ≤ L := Nat.le_trans I.ok.bsz ft.szL
  have cutget : ∀ {b o}, (cutH s.heap L).get? b = some o → b < L ∧ s.heap.get? b = some o := fun {b o} e => cutH_of e
  have okG : ((GPar.of X N qual scope f cd L).X r).Ok := by
    refine ⟨I.ok.mod, ft.kind, rfl, rfl, Nat.le_of_eq hLsz, fun x y c e _ => (cells x c e).elim, fun x hx => ?_, fun x c _ e => (cells x c e).elim, fun _ => I.ok.hd hc, Around.frames_deeper I.ok.frames, .inr ⟨rfl, rfl⟩, (fun b z => by cases z), fun b o e => ?_, ?_, (fun b o _ z => by cases z), (fun b z => by cases z), ?_, fun b hb => ?_⟩
    · have hx : scope.names.lookup x = some .cell ∨ scope.names.lookup x = some .free := hx
      rcases hx with hx | hx
      · exact absurd rfl (ft.plain _ (PySem.mem_of_lookup hx)).1
      · exact absurd rfl (ft.plain _ (PySem.mem_of_lookup hx)).2
    · obtain ⟨z1, z2⟩ := I.bs b o e
      exact ⟨(cutH_get (Nat.lt_of_lt_of_le (Heap.lt_size e) bsL)).trans z1, z2⟩
    · show X.base.objs.size ≤ (cutH s.heap L).objs.size
      rw [hLsz]; exact bsL
    · show (cutH s.heap L).FunFrames X.base X.stack
      have key : ∀ l : List Env, (∀ b ∈ frs l, b < L) → s.heap.FunFrames X.base l → (cutH s.heap L).FunFrames X.base l := by
        intro l
        induction l with
        | nil => intro _ _; trivial
        | cons env rest ih =>
          intro hb h
          obtain ⟨hk, ⟨L', o, hf', hn', ho, hd⟩, hr⟩ := h
          have hmem : ∀ b ∈ frs rest, b ∈ frs (env :: rest) := fun b hb => by
            show b ∈ List.filterMap (·.frame) (env :: rest)
            rw [List.filterMap_cons, hf']
            exact List.mem_cons_of_mem _ hb
          have hL' : L' < L := hb L' (by
            show L' ∈ List.filterMap (·.frame) (env :: rest)
            rw [List.filterMap_cons, hf']
            exact List.mem_cons_self)
          exact ⟨hk, ⟨L', o, hf', hn', (cutH_get hL').trans ho, hd⟩, ih (fun b z => hb b (hmem b z)) hr⟩
      exact key X.stack ft.frL I.stack
    · exact I.stkFree b hb
  have J : GInv (GPar.of X N qual scope f cd L) r ip σg r.H (s.setGen gi .running) := by
    refine ⟨hLsz, fun q hq => (low q.1 (hip q hq).2.1).1, apart, okG, rfl, allBare_setGen I.bare rfl, ⟨fun b o e n hb hx => (cutget e).2, fun b o e n hb hx => ⟨o.slots, (cutget e).2⟩, fun b o e n hx => n, fun b o e hx => ⟨o, (cutget e).2⟩, fun b xs e => e, fun b o u e => e, fun b ps e => ⟨#[], (show H b = _ from e).trans (by simp)⟩⟩,
      ⟨m, hm, fun j x v e1 e2 e3 => ?_⟩, fun x c e => (cells x c e).elim, fL.1, fun x c e => (cells x c e).elim, fun p hp => ?_, I.hok, hlen⟩
    · obtain ⟨u, ru, hu⟩ := hl j x v e1 e2 e3
      refine ⟨u, ru, .inl ⟨?_, hu⟩⟩
      have e3 : scope.names.lookup x = some .local ∨ scope.names.lookup x = some .cell ∨ scope.names.lookup x = some .free := e3
      rcases e3 with z | z | z
      · exact z
      · exact absurd rfl (ft.plain _ (PySem.mem_of_lookup z)).1
      · exact absurd rfl (ft.plain _ (PySem.mem_of_lookup z)).2
    · rcases List.mem_append.mp hp with z | z
      · exact pinA p z
      · obtain ⟨y1, y2, y3, y4, y5⟩ := hip p z
        exact ⟨y1, (hf p.1 y2).1, y4, frst p.1 (low p.1 y2).1, y3⟩
  -- behind the stretch
  have back : ∀ {ip' : List (Addr × Obj)} {σ' : L2.St} {H1 : Hp} {s1 : Shared}, GInv (GPar.of X N qual scope f cd L) r ip' σ' H1 s1 → ∀ s2 : Shared, s2.heap = s1.heap → s2.os = s1.os → AllBare s2.gens → Inv X pins σ H1 s2 := fun {ip' σ' H1 s1} J1 s2 eh eo hb => by
    have pk : ∀ p ∈ r.pn, s1.heap.get? p.1 = some p.2 ∧ H1 p.1 = none := fun p hp => by
      obtain ⟨z1, z2, _⟩ := J1.inv.pin p (List.mem_append_left _ hp)
      exact ⟨z1, z2⟩
    refine inv_back (L := L) I (eo.trans J1.inv.os) hb (by rw [eh]; exact J1.inv.base) (by rw [eh]; exact J1.inv.hok) ft.szL ft.celL ?_ fun p hp => ?_
    · rcases ft.locL with z | z
      · exact .inl z
      · refine .inr ?_
        have hmem : (X.env.locals, oX) ∈ r.pn := by
          refine List.mem_append_right _ (List.mem_cons_of_mem _ ?_)
          show _ ∈ (if X.env.locals < L then [] else [(X.env.locals, oX)])
          rw [if_neg (show ¬ (X.env.locals < L) from Nat.not_lt_of_gt z)]
          exact List.mem_singleton.mpr rfl
        obtain ⟨y1, y2⟩ := pk _ hmem
        rw [eh]
        exact ⟨y1.trans hoX.symm, y2⟩
    · rw [eh]; exact pk p (List.mem_append_left _ hp)
  refine next_gen1 (F := PhiG (GPar.of X N qual scope f cd L) T Fn n i r) (I.ok.hd hc) I.nolimit ft.room hgen hgs (wake r _ J hR) fun e s₁ hz he => ?_
  cases e with
  | ret x =>
    cases x with
    | ok fl =>
      have he : (fl = .ret .none ∨ fl = .next) ∧ ∃ ip σ H', GInv (GPar.of X N qual scope f cd L) r ip σ H' s₁ ∧ Fn i r.H H' := by
        cases n <;> exact he
      obtain ⟨h1, ip', σ', H1, J1, hfin⟩ := he
      refine ⟨rfl, h1, fun h' hk => hend H1 _ ?_ hfin⟩
      exact (back J1 (s₁.setGen gi .finished) rfl rfl (allBare_setGen J1.inv.bare rfl)).kept (t' := s₁.toks) hk
    | error x =>
      have he : CX X.prog X.w X.stack r.H r.s (fun _ _ _ => False) x s₁ ∧ ∀ p ∈ r.pn, s₁.heap.get? p.1 = some p.2 := by
        cases n <;> exact he
      obtain ⟨⟨_, _, _, _, _, _, _, _, _, _, _, _, hF⟩, _⟩ := he
      exact hF.elim
  | susp v gd l k c p fs =>
    cases n with
    | zero => exact he.elim
    | succ n =>
      obtain ⟨hq, x, ip', σ', H1, J1, rv, ho, wk⟩ := he
      refine ⟨hq, ?_⟩
      have bareS : (End.susp v gd l k c p fs).genState.bare = true := End.bare_of_quiet hq
      have hgs1 : ((s₁.setGen gi (End.susp v gd l k c p fs).genState).gens)[gi]? = some (End.susp v gd l k c p fs).genState := by
        refine setGen_at ?_
        obtain ⟨z, _⟩ := Array.getElem?_eq_some_iff.mp hgs
        exact Nat.lt_of_lt_of_le z hz
      have I1 := back J1 (s₁.setGen gi (End.susp v gd l k c p fs).genState) rfl rfl (allBare_setGen J1.inv.bare bareS)
      refine hout v x H1 _ (a :: L :: ip'.map (·.1)) I1 rv ho ?_ ?_
      · obtain ⟨m', hm', hl'⟩ := J1.inv.loc
        obtain ⟨oL, esL, epL, hoL, hdL, _⟩ := id hm'
        have hga := J1.inv.pin (a, oa) (List.mem_append_left _ (List.mem_append_right _ List.mem_cons_self))
        have hpi : ∀ q ∈ ip', s₁.heap.get? q.1 = some q.2 ∧ H1 q.1 = none ∧ q.1 ≠ L ∧ q.1 ∉ frs X.stack ∧ ∀ v, q.2.data ≠ .cell v := fun q hq => J1.inv.pin q (List.mem_append_right _ hq)
        refine ⟨⟨_, ip', σ', n, by omega, hgs1, fun _ => rfl, J1.inv.len, ⟨m', hm', fun j y u e1 e2 e3 => ?_⟩, fun q hq => ?_, fun r' s'' Jw hb => wk r' s'' Jw hb⟩, ⟨oa, nm, qn, hga.1, hac, had, has⟩, aL, List.mem_cons_self, List.mem_cons_of_mem _ List.mem_cons_self, fun b hb => ?_⟩
        · obtain ⟨u', ru, lk⟩ := hl' j y u e1 e2 e3
          refine ⟨u', ru, ?_⟩
          rcases lk with ⟨_, z⟩ | ⟨z, c', e', _⟩
          · exact z
          · exact (cells y c' e').elim
        · obtain ⟨y1, y2, y3, y4, y5⟩ := hpi q hq
          refine ⟨y1, List.mem_cons_of_mem _ (List.mem_cons_of_mem _ (List.mem_map.mpr ⟨q, hq, rfl⟩)), y5, y3, ?_⟩
          exact Ne.symm (J1.apart (a, oa) (List.mem_append_right _ List.mem_cons_self) q hq)
        · rcases List.mem_cons.mp hb with z | z
          · rw [z]
            exact ⟨Nat.le_of_lt aL, oa, hga.1, fun v q => by rw [had] at q; cases q⟩
          · rcases List.mem_cons.mp z with z | z
            · rw [z]
              exact ⟨Nat.le_refl _, oL, hoL, fun v q => by rw [hdL] at q; cases q⟩
            · obtain ⟨q, hq, rfl⟩ := List.mem_map.mp z
              obtain ⟨y1, y2, y3, y4, y5⟩ := hpi q hq
              exact ⟨J1.low q hq, q.2, y1, y5⟩
      · have inX : ∀ b, L ≤ b → H1 b = none → b ≠ X.env.locals → (∀ p ∈ X.pn ++ pins, p.1 ≠ b) → FpOk X pins H1 b := fun b hb hn he hp => by
          refine ⟨hn, he, fun hm => ?_, .inr (Nat.le_trans ft.szL hb), fun y c' e' z => ?_, hp⟩
          · have hm' : b ∈ frs X.stack := by
              rcases I.ok.stk with z | ⟨z, _⟩
              · rw [z]; exact hm
              · rw [z]
                show b ∈ List.filterMap (·.frame) (X.env :: X.outer)
                rw [List.filterMap_cons]
                split
                · exact hm
                · exact List.mem_cons_of_mem _ hm
            exact frst b hb hm'
          · have := ft.celL y c' e'
            rw [z] at this
            exact absurd (Nat.lt_of_lt_of_le this hb) (Nat.lt_irrefl _)
        intro b hb
        rcases List.mem_cons.mp hb with z | z
        · rw [z]
          have hga := J1.inv.pin (a, oa) (List.mem_append_left _ (List.mem_append_right _ List.mem_cons_self))
          exact inX a (Nat.le_of_lt aL) hga.2.1 fa.2.1 fa.2.2.2.2.2
        · rcases List.mem_cons.mp z with z | z
          · rw [z]
            exact inX L (Nat.le_refl _) J1.inv.free fL.2.1 fL.2.2.2.2.2
          · obtain ⟨q, hq, rfl⟩ := List.mem_map.mp z
            obtain ⟨y1, y2, y3, y4, y5⟩ := J1.inv.pin q (List.mem_append_right _ hq)
            refine inX q.1 (J1.low q hq) y2 (fun z => ?_) fun p hp => J1.apart p (List.mem_append_left _ hp) q hq
            rcases ft.locL with w | w
            · rw [← z] at w
              exact absurd (Nat.lt_of_lt_of_le w (J1.low q hq)) (Nat.lt_irrefl _)
            · have hmem : (X.env.locals, oX) ∈ r.pn := by
                refine List.mem_append_right _ (List.mem_cons_of_mem _ ?_)
                show _ ∈ (if X.env.locals < L then [] else [(X.env.locals, oX)])
                rw [if_neg (show ¬ (X.env.locals < L) from Nat.not_lt_of_gt w)]
                exact List.mem_singleton.mpr rfl
              exact J1.apart _ hmem q hq z.symm
end My
/-! for and list comprehensions over a generator. -/
namespace My
open PySem PySem.Spec PyProof.Rows L2 GenW
/-- what a generator does, for its taker: what it wants at its first wake; what it hands out at turn i by the heap at the wake; what it wants at the wake behind turn i; its end -/
structure GSpec where
  start : Hp → Prop
  out : Nat → Hp → V → Hp → Prop
  back : Nat → Hp → Hp → Prop
  fin : Nat → Hp → Hp → Prop
def GSpec.prt (sp : GSpec) : Prt := ⟨sp.out, sp.back⟩
abbrev TIg := L2.St → Hp → (GSpec → Hp → Prop) → Prop
/-- a generator has come -/
def PIGE (X : Cx) (pins : List (Addr × Obj)) (σ : L2.St) (R : GSpec → Hp → Prop) (u : Value) (s : Shared) : Prop :=
  ∃ (N : List Str) (qual : Str) (scope : Scope) (f : Addr) (cd : Value) (L : Addr) (tot a gi : Nat) (fp : List Addr) (sp : GSpec) (H : Hp), u = .ref a ∧ Inv X pins σ H s ∧ GFit (GPar.of X N qual scope f cd L) X ∧ X.env.locals < L ∧ (∀ p ∈ X.pn ++ pins, p.1 < L) ∧
    GAt (GPar.of X N qual scope f cd L) sp.prt sp.fin tot a gi 0 sp.start fp s ∧ (∀ b ∈ fp, FpOk X pins H b) ∧ R sp H
structure PIG (X : Cx) (iter : Expr) (wi : TIg) : Prop where
  run : ∀ (pins : List (Addr × Obj)) (s : Shared) (σ : L2.St) (H : Hp) (R : GSpec → Hp → Prop), Inv X pins σ H s → wi σ H R → wpAny (model X.prog X.w) X.A (eval iter X.env) (PIGE X pins σ R) X.xe s
theorem GAt.iter {g : GPar} {T : Prt} {Fn : Nat → Hp → Hp → Prop} {tot a gi i : Nat} {Rq : Hp → Prop} {fp : List Addr} {s : Shared} (h : GAt g T Fn tot a gi i Rq fp s) {P : Program} {w : World} {A : Around} {Q : Value → Shared → Prop} {E : Value → Shared → Prop} (q : Q (.ref a) s) :
    wpAny (model P w) A (pyIter (.ref a)) Q E s := wpAny_pyIter_gen h.gen q
theorem GAt.go {g : GPar} {T : Prt} {Fn : Nat → Hp → Hp → Prop} {tot a gi i : Nat} {Rq : Hp → Prop} {fp : List Addr} {s : Shared} (h : GAt g T Fn tot a gi i Rq fp s) {M : Model} {A : Around} {tg : Expr} {u : Value} {Q : Unit → Shared → Prop} {E : Value → Shared → Prop} (q : Q () s) :
    wpAny M A (letOwnedTupleGo tg (.ref a) u) Q E s := by
  obtain ⟨o, nm, qn, ho, hc, hd, _⟩ := h.gen
  exact go_of ho hc hd (by decide) q
/-- it stands behind what ran with its objects pinned -/
theorem GAt.slept {X : Cx} {g : GPar} {T : Prt} {Fn : Nat → Hp → Hp → Prop} {tot a gi i : Nat} {Rq : Hp → Prop} {fp : List Addr} {s s1 s' : Shared} {h0 : Heap} {pins : List (Addr × Obj)} {σ : L2.St} {H : Hp} (h : GAt g T Fn tot a gi (i + 1) Rq fp s) (k : Kept s s1 s') (I : Inv X (pins ++ pinsAt fp h0) σ H s1)
    (e0 : ∀ b ∈ fp, s.heap.get? b = h0.get? b) : GAt g T Fn tot a gi (i + 1) Rq fp s' ∧ (∀ b ∈ fp, s'.heap.get? b = h0.get? b) ∧ ∀ b ∈ fp, H b = none := by
  have key : ∀ b ∈ fp, s'.heap.get? b = h0.get? b ∧ H b = none := fun b hb => by
    obtain ⟨_, o, ho, _⟩ := h.low b hb
    rw [e0 b hb] at ho
    obtain ⟨z1, z2, _⟩ := I.pin (b, o) (List.mem_append_right _ (List.mem_append_right _ (mem_pinsAt hb ho)))
    rw [k.heap]
    exact ⟨z1.trans ho.symm, z2⟩
  refine ⟨h.keep (fun b hb o e => ?_) fun S e hs => k.gens gi S e (hs (Nat.succ_ne_zero i)), fun b hb => (key b hb).1, fun b hb => (key b hb).2⟩
  rw [(key b hb).1, ← e0 b hb]; exact e
def tForG (wi : TIg) (g : TG) (tb : TS) : TS := fun D σ H => wi σ H fun sp H1 => sp.start H1 ∧ ∃ W : Nat → Nat → L2.St → Hp → Prop, (∃ m, W 0 m σ H1) ∧ ∀ i m σ H, W i m σ H →
  (∀ H', sp.fin i H H' → D.nx σ H') ∧ ∀ x H', sp.out i H x H' → ∃ N : L2.St → Hp → Prop, (∀ σ' H'', N σ' H'' → sp.back i H' H'' ∧ ∃ m', m' < m ∧ W (i + 1) m' σ' H'') ∧ g x σ H' fun σ2 H2 => tb { D with nx := N, ct := N, bk := D.nx } σ2 H2
section
variable {X : Cx} {tg iter : Expr} {body : List Stmt} {wi : TIg} {g : TG} {tb : TS} {pos : Pos}
theorem ps_forG0 (hx : ∀ e s, X.xe e s → False) (hc : X.calm = true) (hi : PIG X iter wi) (hg : PG X tg g) (hb : PSs X body tb)
    (hs : ∀ x, foldedSetIterable iter X.env x = pure x := by intro _; rfl) : PS X (.For tg iter body [] pos) (tForG wi g tb) := by
  have hp : PassesOwn (model X.prog X.w) X.A X.env X.xe := fun e s' h => (hx e s' h).elim
  refine ⟨fun pins s σ H D I h => ?_⟩
  refine wpAny_For (thn (hi.run pins s σ H _ I h) fun v s1 h1 => ?_) hs
  obtain ⟨N, qual, scope, f, cd, L, tot, a, gi, fp0, sp, H1, e, I1, ft, lL, _, G1, f1, hst, W, ⟨m0, w0⟩, turn⟩ := h1
  subst e
  refine G1.iter ?_
  refine codeAny_forLoop_any (fun n s' => ∃ i σ' H' fp Rq, Inv X pins σ' H' s' ∧ GAt (GPar.of X N qual scope f cd L) sp.prt sp.fin tot a gi i Rq fp s' ∧ Rq H' ∧ (∀ b ∈ fp, FpOk X pins H' b) ∧ W i n σ' H') ?_ m0 ⟨0, σ, H1, fp0, _, I1, G1, hst, f1, w0⟩
  rintro n s3 ⟨i, σ3, H3, fp, Rq, I3, G3, r3, f3, w3⟩
  obtain ⟨tend, tout⟩ := turn i n σ3 H3 w3
  refine wpAny_passesOwn hp (gat_next ft hc I3 G3 f3 r3 (fun u x H4 s4 fp4 I4 rv ho G4 f4 => ?_) fun H4 s4 I4 hf => ?_)
  · refine wpAny_passesOwn hp (G4.go ?_)
    obtain ⟨Nx, hN, q4⟩ := tout x H4 ho
    have ob4 : ∀ b ∈ fp4, ∃ o, s4.heap.get? b = some o ∧ ∀ v, o.data ≠ .cell v := fun b hb => (G4.low b hb).2
    have I4' := I4.pinned f4 ob4
    refine wpAny_passesOwn hp (wpAny_mono (wpAny_asleep (hg.run _ (lulled s4) σ3 H4 x u _ (Inv.lulled I4') rv q4)) (fun _ s6 h6 => ?_) fun e s' ⟨s1, _, z⟩ => (hx e s1 z).elim)
    obtain ⟨s6', k6, σ6, H6, I6, q6⟩ := h6
    obtain ⟨G6, e6, n6⟩ := G4.slept k6 I6 (fun b _ => rfl)
    have I6' := Inv.awake I6 k6 I4.bare
    refine wpAny_passesOwn hp (wpAny_mono (wpAny_asleep (hb.run _ (lulled s6) σ6 H6 _ (Inv.lulled I6') q6)) (fun fl s7 h7 => ?_) fun e s' ⟨s1, _, z⟩ => (hx e s1 z).elim)
    obtain ⟨s7', k7, q7⟩ := h7
    have again : ∀ {σ7 : L2.St} {H7 : Hp}, Inv X (pins ++ pinsAt fp4 s4.heap) σ7 H7 s7' → Nx σ7 H7 → ∃ m, m < n ∧ ∃ i σ' H' fp Rq, Inv X pins σ' H' s7 ∧ GAt (GPar.of X N qual scope f cd L) sp.prt sp.fin tot a gi i Rq fp s7 ∧ Rq H' ∧ (∀ b ∈ fp, FpOk X pins H' b) ∧ W i m σ' H' := fun {σ7 H7} I7 n7 => by
      obtain ⟨hbk, m', hm, w7⟩ := hN σ7 H7 n7
      obtain ⟨G7, _, n7'⟩ := G6.slept k7 I7 e6
      exact ⟨m', hm, i + 1, σ7, H7, fp4, _, (Inv.awake I7 k7 I6'.bare).unpinned, G7, hbk, fun b hb => ⟨n7' b hb, (f4 b hb).2⟩, w7⟩
    cases fl with
    | next => obtain ⟨σ7, H7, I7, n7⟩ := q7; exact again I7 n7
    | cont => obtain ⟨σ7, H7, I7, n7⟩ := q7; exact again I7 n7
    | brk => obtain ⟨σ7, H7, I7, q7⟩ := q7; exact ⟨σ7, H7, (Inv.awake I7 k7 I6'.bare).unpinned, q7⟩
    | ret v => obtain ⟨x7, σ7, H7, I7, r7, q7⟩ := q7; exact ⟨x7, σ7, H7, (Inv.awake I7 k7 I6'.bare).unpinned, r7, q7⟩
  · exact wpAny_execs_nil ⟨σ3, H4, I4, tend H4 hf⟩
theorem ps_nox {st : Stmt} {t : TS} (h : PS X.nox st t) : PS X st t := ⟨fun pins s σ H D I hw =>
  wpAny_mono (h.run pins s σ H D (I.wish _) hw) (fun f s' q => SP.unwish q) fun _ _ z => z.elim⟩
theorem PIG.nox (h : PIG X.nox iter wi) : PIG X iter wi := ⟨fun pins s σ H R I hw => wpAny_mono (h.run pins s σ H R (I.wish _) hw) (fun u s' q => by
  obtain ⟨N, qual, scope, f, cd, L, tot, a, gi, fp, sp, H1, e, I1, r⟩ := q
  exact ⟨N, qual, scope, f, cd, L, tot, a, gi, fp, sp, H1, e, I1.unwish, ⟨r.1.kind, r.1.plain, r.1.room, r.1.frL, r.1.szL, r.1.celL, r.1.locL⟩, r.2⟩) fun _ _ z => z.elim⟩
end
/-- n turns that hand out what Y tells, while Gd stands -/
structure GWalk (sp : GSpec) (n : Nat) (Gd : Hp → Prop) (Y : Nat → Hp → V → Hp → Prop) : Prop where
  st : ∀ H, Gd H → sp.start H
  out : ∀ i H x H', Gd H → sp.out i H x H' → i < n ∧ Y i H x H'
  back : ∀ i H' H'', Gd H'' → sp.back i H' H''
  fin : ∀ i H H', Gd H → sp.fin i H H' → i = n ∧ H' = H
theorem forG_it {sp : GSpec} {n : Nat} {Gd : Hp → Prop} {Y : Nat → Hp → V → Hp → Prop} (w : GWalk sp n Gd Y) {g : TG} {tb : TS} {D : Ends} {σ : L2.St} {H : Hp} (Pv : Nat → L2.St → Hp → Prop) (h0 : Pv 0 σ H) (hG : ∀ i σ H, i ≤ n → Pv i σ H → Gd H)
    (hs : ∀ i x σ H H', i < n → Pv i σ H → Y i H x H' → g x σ H' fun σ2 H2 => tb { D with nx := Pv (i + 1), ct := Pv (i + 1), bk := D.nx } σ2 H2) (hd : ∀ σ H, Pv n σ H → D.nx σ H) :
    sp.start H ∧ ∃ W : Nat → Nat → L2.St → Hp → Prop, (∃ m, W 0 m σ H) ∧ ∀ i m σ H, W i m σ H →
      (∀ H', sp.fin i H H' → D.nx σ H') ∧ ∀ x H', sp.out i H x H' → ∃ N : L2.St → Hp → Prop, (∀ σ' H'', N σ' H'' → sp.back i H' H'' ∧ ∃ m', m' < m ∧ W (i + 1) m' σ' H'') ∧ g x σ H' fun σ2 H2 => tb { D with nx := N, ct := N, bk := D.nx } σ2 H2 := by
  refine ⟨w.st H (hG 0 σ H (Nat.zero_le _) h0), fun i m σ H => m = n - i ∧ i ≤ n ∧ Pv i σ H, ⟨n, by simp, Nat.zero_le _, h0⟩, ?_⟩
  rintro i m σ H ⟨rfl, hi, p⟩
  have q := hG i σ H hi p
  refine ⟨fun H' hf => ?_, fun x H' ho => ?_⟩
  · obtain ⟨e, e'⟩ := w.fin i H H' q hf
    subst e e'
    exact hd σ _ p
  · obtain ⟨hlt, y⟩ := w.out i H x H' q ho
    exact ⟨Pv (i + 1), fun σ' H'' p' => ⟨w.back i H' H'' (hG _ _ _ hlt p'), n - (i + 1), by omega, rfl, hlt, p'⟩, hs i x σ H H' hlt p y⟩
end My
/-! List comprehensions over a generator. -/
namespace My
open PySem PySem.Spec PyProof.Rows L2 GenW
theorem funFrames_cut {h base : Heap} {L : Nat} : ∀ l : List Env, (∀ b ∈ frs l, b < L) → h.FunFrames base l → (cutH h L).FunFrames base l := by
  intro l
  induction l with
  | nil => intro _ _; trivial
  | cons env rest ih =>
    intro hb h
    obtain ⟨hk, ⟨L', o, hf', hn', ho, hd⟩, hr⟩ := h
    have hmem : ∀ b ∈ frs rest, b ∈ frs (env :: rest) := fun b hb => by
      show b ∈ List.filterMap (·.frame) (env :: rest)
      rw [List.filterMap_cons, hf']
      exact List.mem_cons_of_mem _ hb
    have hL' : L' < L := hb L' (by
      show L' ∈ List.filterMap (·.frame) (env :: rest)
      rw [List.filterMap_cons, hf']
      exact List.mem_cons_self)
    exact ⟨hk, ⟨L', o, hf', hn', (cutH_get hL').trans ho, hd⟩, ih (fun b z => hb b (hmem b z)) hr⟩
abbrev Cx.cutAt (X : Cx) (L : Nat) : Cx := { X with s_0 := cutS X.s_0 L, ex := [] }
theorem inv_reroot {X : Cx} {pins : List (Addr × Obj)} {σ : L2.St} {H : Hp} {s : Shared} {L : Nat} (I : Inv X pins σ H s) (hL : L ≤ X.s_0.heap.objs.size) (bsL : X.base.objs.size ≤ L) (frL : ∀ b ∈ X.fs, b < L) (exL : ∀ b ∈ X.ex, L ≤ b) :
    Inv (Cx.cutAt X L) pins σ H s := by
  have hs : (cutH X.s_0.heap L).objs.size = L := cutH_size hL
  have nex : ∀ {b}, b < L → b ∉ X.ex := fun {b} l z => absurd (Nat.lt_of_lt_of_le l (exL b z)) (Nat.lt_irrefl _)
  refine ⟨⟨I.ok.mod, I.ok.kind, I.ok.glob, I.ok.blt, ?_, I.ok.inj, I.ok.has, fun x c h1 h2 => ?_, I.ok.hd, I.ok.frames, I.ok.stk, (fun b z => by cases z), fun b o e => ?_, ?_, (fun b o _ z => by cases z), (fun b z => by cases z), ?_, I.ok.frf⟩, I.os, I.bare,
    ⟨fun b o e n hb _ => ?_, fun b o e n hb _ => ?_, fun b o e n _ => ?_, fun b o e _ => ?_, I.base.tups, I.base.frzs, I.base.tbls⟩, I.loc, I.cell, I.free, I.freeC, I.pin, I.hok, I.len⟩
  · show (cutH X.s_0.heap L).objs.size ≤ X.env.locals
    rw [hs]; exact Nat.le_trans hL I.ok.above
  · show (cutH X.s_0.heap L).objs.size ≤ c
    rw [hs]; exact Nat.le_trans hL (I.ok.cab x c h1 h2)
  · obtain ⟨z1, z2⟩ := I.ok.bs b o e
    exact ⟨(cutH_get (Nat.lt_of_lt_of_le (Heap.lt_size e) bsL)).trans z1, z2⟩
  · show X.base.objs.size ≤ (cutH X.s_0.heap L).objs.size
    rw [hs]; exact bsL
  · exact funFrames_cut X.outer frL I.ok.funs
  · obtain ⟨l, e⟩ := cutH_of e
    exact I.base.keep b o e n hb (nex l)
  · obtain ⟨l, e⟩ := cutH_of e
    exact I.base.slot b o e n hb (nex l)
  · obtain ⟨l, e⟩ := cutH_of e
    exact I.base.free b o e n (nex l)
  · obtain ⟨l, e⟩ := cutH_of e
    exact I.base.there b o e (nex l)
section
variable {X : Cx}
/-- [elt for tg in g(..) if ..]: D the new list -/
def tLcG (wi : TIg) (g : TG) (tt : TT) (te : TE) (vs : List Nat) : TE := fun σ H Q => wi σ H fun sp H1 => ∀ D, H1 D = none → sp.start (upd H1 D (.lst [])) ∧ ∃ W : Nat → Nat → Hp → Prop, (∃ m, W 0 m (upd H1 D (.lst []))) ∧ ∀ i m H, W i m H →
  (∀ H', sp.fin i H H' → Q (.ref D) H') ∧ ∀ x H', sp.out i H x H' → ∃ Nx : Hp → Prop, (∀ H'', Nx H'' → sp.back i H' H'' ∧ ∃ m', m' < m ∧ W (i + 1) m' H'') ∧ g x (wipe σ vs) H' fun σ2 H2 => wipe σ2 vs = wipe σ vs ∧ tt σ2 H2 fun b H3 =>
    if b = true then te σ2 H3 fun y H4 => ∃ acc, H4 D = some (.lst acc) ∧ acc.length < sizeLine ∧ Nx (upd H4 D (.lst (acc ++ [y]))) else Nx H3
theorem lc_coreG {pins : List (Addr × Obj)} {s : Shared} {σ : L2.St} {H : Hp} {Q : VK} {elt tg iter : Expr} {ifs : List Expr} {scope : Scope} {own : List (Str × Nat)} {pos pos' : Pos} {wi : TIg} {g : TG} {tt : TT} {te : TE} {use : Option (Value → Sem Unit)} {Qf : Value → Shared → Prop}
    (hc : X.calm = true) (hN : X.N.Nodup) (I : Inv X pins σ H s) (hi : PIG X iter wi) (ok : BlkOk X.N X.env.scope scope own) (noc : ∀ y ∈ scope.names, y.2 ≠ .cell)
    (hg : ∀ (s : Shared) (H : Hp) (C : Addr) (cl : List (Str × Addr)) (fp : List Addr), PG (X.blk s H scope (compEnvC scope cl C X.env) fp) tg g) (ht : ∀ (s : Shared) (H : Hp) (C : Addr) (cl : List (Str × Addr)) (fp : List Addr), PTs (X.blk s H scope (compEnvC scope cl C X.env) fp) ifs tt)
    (he : ∀ (s : Shared) (H : Hp) (C : Addr) (cl : List (Str × Addr)) (fp : List Addr), PE (X.blk s H scope (compEnvC scope cl C X.env) fp) elt te) (hs : ∀ x, foldedSetIterable iter X.env x = pure x)
    (h : tLcG wi g tt te (own.map (·.2)) σ H Q)
    (hRR : ∀ D C s' m H', Inv X pins σ H' s' → Q (.ref D) H' → s'.heap.Ns C m → FpOk X pins H' C → compPost (model X.prog X.w) X.A X.xe use Qf (.ref D) C (.ok .next) s') :
    wpAny (model X.prog X.w) X.A (comprehension (.ListComp elt [⟨tg, iter, ifs, 0⟩] scope pos) scope X.env pos' (newList []) false (eval iter X.env) use) Qf X.xe s := by
  have hfree : ∀ y ∈ scope.names, y.2 = .free → ∃ c, X.env.cells.lookup y.1 = some c := fun y hy e => by
    rcases ok.free y hy e with k | k
    · exact I.ok.has _ (.inl k)
    · exact I.ok.has _ (.inr k)
  refine wpAny_comprehension_free (use := use) rfl hs (closure_ok hfree) ok.kind (fun y hy e => by rw [ok.uniq y hy, e]) (thn (hi.run pins s σ H _ I h) fun xv s2 hx => ?_)
  obtain ⟨gN, gqual, gscope, gf, gcd, L, tot, a, gi, fp, sp, H2, e, I2, ft, lL, pL, G2, f2, q⟩ := hx
  subst e
  refine G2.iter ?_
  refine wpAny_newObj_type (newEnv_comp ?_) (by show 0 ≤ sizeLine; decide)
  generalize hD : s2.heap.objs.size = D
  have hDn : H2 D = none := I2.hok.fresh (Nat.le_of_eq hD)
  obtain ⟨hst, W, ⟨m0, w0⟩, turn⟩ := q D hDn
  generalize hs3 : ({ s2 with heap := s2.heap.push { cls := .type "list", data := .seq ([] : List Value).toArray } } : Shared) = s3
  have I3 : Inv X pins σ (upd H2 D (.lst [])) s3 := by
    rw [← hs3]
    refine I2.laid (t' := s2.toks) (fun b o e => Heap.get?_push_of_some _ e) (Nat.le_of_eq hD) ⟨Nat.zero_le _, [], 0, .nil, ?_⟩
    rw [← hD]
    exact Heap.get?_push_size _ rfl
  have h3 : s3.heap = s2.heap.push { cls := .type "list", data := .seq ([] : List Value).toArray } := by rw [← hs3]
  have g3 : s3.gens = s2.gens := by rw [← hs3]
  have sz : ∀ b ∈ fp, b < s2.heap.objs.size := fun b hb => by
    obtain ⟨_, o, e, _⟩ := G2.low b hb
    exact Heap.lt_size e
  have f3 : ∀ b ∈ fp, FpOk X pins (upd H2 D (.lst [])) b ∧ b < s3.heap.objs.size := fun b hb => by
    have hlt := sz b hb
    refine ⟨⟨?_, (f2 b hb).2⟩, by rw [h3, Heap.size_push]; exact Nat.lt_succ_of_lt hlt⟩
    rw [upd_ne (by rw [← hD]; exact Nat.ne_of_lt hlt)]
    exact (f2 b hb).1
  have G3 : GAt (GPar.of X gN gqual gscope gf gcd L) sp.prt sp.fin tot a gi 0 sp.start fp s3 := G2.keep (fun b _ o e => by rw [h3]; exact Heap.get?_push_of_some _ e) fun S e _ => by rw [g3]; exact e
  have hL3 : L < s3.heap.objs.size := (f3 L G2.Lin).2
  have I4 := block_start I3 ok hN f3
  have pg := hg (cutS s3 L) (upd H2 D (.lst [])) s3.heap.objs.size (cellsFrom (s3.heap.objs.size + 1) scope.names (cloFrom X.env.cells scope.names [])) []
  have pt := ht (cutS s3 L) (upd H2 D (.lst [])) s3.heap.objs.size (cellsFrom (s3.heap.objs.size + 1) scope.names (cloFrom X.env.cells scope.names [])) []
  have pe := he (cutS s3 L) (upd H2 D (.lst [])) s3.heap.objs.size (cellsFrom (s3.heap.objs.size + 1) scope.names (cloFrom X.env.cells scope.names [])) []
  show codeAny _ _ (.compStart (.ListComp elt [⟨tg, iter, ifs, 0⟩] scope pos) 0 (.ref a) (.ref D) (compEnvC scope (cellsFrom (s3.heap.objs.size + 1) scope.names (cloFrom X.env.cells scope.names [])) s3.heap.objs.size X.env)) (compPost (model X.prog X.w) X.A X.xe use Qf (.ref D) s3.heap.objs.size) { s3 with heap := pushCells (s3.heap.push { cls := .type "dict", data := .dict #[] }) scope.names }
  have ccl : ∀ x c, (compEnvC scope (cellsFrom (s3.heap.objs.size + 1) scope.names (cloFrom X.env.cells scope.names [])) s3.heap.objs.size X.env).cells.lookup x = some c → c < L := fun x c e => by
    have e : (cellsFrom (s3.heap.objs.size + 1) scope.names (cloFrom X.env.cells scope.names [])).lookup x = some c := e
    rw [← Heap.size_push s3.heap { cls := .type "dict", data := .dict #[] }] at e
    rcases cells_mem (PySem.mem_of_lookup e) with hm | ⟨z, _⟩
    · rcases cloFrom_mem hm with hm | ⟨h1, rfl⟩
      · cases hm
      · obtain ⟨c, hc⟩ := hfree _ h1 rfl
        rw [hc]
        exact ft.celL x c hc
    · exact absurd rfl (noc _ z)
  generalize hce : compEnvC scope (cellsFrom (s3.heap.objs.size + 1) scope.names (cloFrom X.env.cells scope.names [])) s3.heap.objs.size X.env = ce at I4 pg pt pe ccl ⊢
  have cL : ce.locals = s3.heap.objs.size := by subst hce; rfl
  generalize hH3 : upd H2 D (.lst []) = H3 at I3 I4 pg pt pe w0 f3 hst
  generalize hs4 : ({ s3 with heap := pushCells (s3.heap.push { cls := .type "dict", data := .dict #[] }) scope.names } : Shared) = s4 at I4 ⊢
  have g4 : s4.gens = s3.gens := by rw [← hs4]
  have G4 : GAt (GPar.of X gN gqual gscope gf gcd L) sp.prt sp.fin tot a gi 0 sp.start fp s4 := G3.keep (fun b _ o e => by rw [← hs4]; exact pushCells_keeps _ _ _ _ (Heap.get?_push_of_some _ e)) fun S e _ => by rw [g4]; exact e
  have bsL : X.base.objs.size ≤ L := Nat.le_trans I3.ok.bsz ft.szL
  have I5 : Inv (X.blk (cutS s3 L) H3 scope ce []) [] (wipe σ (own.map (·.2))) H3 s4 := inv_reroot I4 (Nat.le_of_lt hL3) bsL ft.frL fun b hb => (G2.low b hb).1
  have fB : GFit (GPar.of (X.blk (cutS s3 L) H3 scope ce []) gN gqual gscope gf gcd L) (X.blk (cutS s3 L) H3 scope ce []) := ⟨ft.kind, ft.plain, ft.room, ft.frL, Nat.le_of_eq (cutH_size (Nat.le_of_lt hL3)), ccl, .inr (by show L < ce.locals; rw [cL]; exact hL3)⟩
  have nfr : ∀ b, L ≤ b → b ∉ frs X.stack := fun b hb hm => absurd (Nat.lt_of_lt_of_le (ft.frL b hm) hb) (Nat.lt_irrefl _)
  have f5 : ∀ b ∈ fp, FpOk (X.blk (cutS s3 L) H3 scope ce []) [] H3 b := fun b hb => by
    refine ⟨(f3 b hb).1.1, ?_, nfr b (G2.low b hb).1, .inr ?_, fun x c e z => ?_, fun p hp => absurd (show p ∈ ([] : List (Addr × Obj)) ++ [] from hp) (by simp)⟩
    · show b ≠ ce.locals
      rw [cL]; exact Nat.ne_of_lt (f3 b hb).2
    · show (cutH s3.heap L).objs.size ≤ b
      rw [cutH_size (Nat.le_of_lt hL3)]; exact (G2.low b hb).1
    · have := ccl x c e
      rw [z] at this
      exact absurd (Nat.lt_of_lt_of_le this (G2.low b hb).1) (Nat.lt_irrefl _)
  have loop : codeAny (model X.prog X.w) X.A (.compLoop (.ListComp elt [⟨tg, iter, ifs, 0⟩] scope pos) 0 (.ref a) (.ref D) ce) (compPost (model X.prog X.w) X.A X.xe use Qf (.ref D) s3.heap.objs.size) s4 := by
    refine compLoop_any (fun n s' => ∃ i H' fp Rq, Inv (X.blk (cutS s3 L) H3 scope ce []) [] (wipe σ (own.map (·.2))) H' s' ∧ GAt (GPar.of X gN gqual gscope gf gcd L) sp.prt sp.fin tot a gi i Rq fp s' ∧ Rq H' ∧ (∀ b ∈ fp, FpOk (X.blk (cutS s3 L) H3 scope ce []) [] H' b) ∧ W i n H') ?_ m0 ⟨0, H3, fp, _, I5, G4, hst, f5, w0⟩
    rintro n s5 ⟨i, H5, fp5, Rq, I5, G5, r5, f5, w5⟩
    obtain ⟨tend, tout⟩ := turn i n H5 w5
    refine gat_next (X := X.blk (cutS s3 L) H3 scope ce []) fB hc I5 G5 f5 r5 (fun u x H6 s6 fp6 I6 rv ho G6 f6 => ?_) fun H6 s6 I6 hfin => ?_
    · refine G6.go ?_
      obtain ⟨Nx, hNx, q6⟩ := tout x H6 ho
      have ob6 : ∀ b ∈ fp6, ∃ o, s6.heap.get? b = some o ∧ ∀ v, o.data ≠ .cell v := fun b hb => (G6.low b hb).2
      have I6' := I6.pinned f6 ob6
      refine thnF (wpAny_mono (wpAny_asleep (pg.run _ (lulled s6) _ H6 x u _ (Inv.lulled I6') rv q6)) (fun _ _ z => z) fun e s' ⟨s1, _, z⟩ => z.elim) fun _ s8 h8 => ?_
      obtain ⟨s8', k8, σ8, H8, I8, hw8, q8⟩ := h8
      obtain ⟨G8, e8, n8⟩ := G6.slept k8 I8 (fun b _ => rfl)
      have I8' := Inv.awake I8 k8 I6.bare
      refine thnF (wpAny_mono (wpAny_asleep (pt.run _ (lulled s8) σ8 H8 _ (Inv.lulled I8') q8)) (fun _ _ z => z) fun e s' ⟨s1, _, z⟩ => z.elim) fun b s9 h9 => ?_
      obtain ⟨s9', k9, H9, I9, q9⟩ := h9
      obtain ⟨G9, e9, n9⟩ := G8.slept k9 I9 e8
      have I9' := Inv.awake I9 k9 I8'.bare
      have fin : ∀ {s' s'' : Shared} {H' : Hp} {s0 : Shared}, GAt (GPar.of X gN gqual gscope gf gcd L) sp.prt sp.fin tot a gi (i + 1) (sp.prt.back i H6) fp6 s' → Inv (X.blk (cutS s3 L) H3 scope ce []) ([] ++ pinsAt fp6 s6.heap) σ8 H' s' → (∀ b ∈ fp6, H' b = none) → Nx H' →
          ∃ m, m < n ∧ ∃ i H' fp Rq, Inv (X.blk (cutS s3 L) H3 scope ce []) [] (wipe σ (own.map (·.2))) H' s' ∧ GAt (GPar.of X gN gqual gscope gf gcd L) sp.prt sp.fin tot a gi i Rq fp s' ∧ Rq H' ∧ (∀ b ∈ fp, FpOk (X.blk (cutS s3 L) H3 scope ce []) [] H' b) ∧ W i m H' := fun {s' s'' H' s0} G' I' n' nx => by
        obtain ⟨hbk, m', hm, w'⟩ := hNx H' nx
        have hl : (wipe σ (own.map (·.2))).length = σ8.length := by rw [← hw8, wipe_length]
        refine ⟨m', hm, i + 1, H', fp6, _, (I'.unpinned (pins := [])).weak hl (fun j v e => ?_), G', hbk, fun b hb => ⟨n' b hb, (f6 b hb).2⟩, w'⟩
        rw [← hw8] at e
        exact (wipe_some e).1
      cases b with
      | false =>
        simp only [Bool.false_eq_true, if_false] at q9 ⊢
        exact fin (s'' := s9) (s0 := s9) G9 I9' n9 q9
      | true =>
        simp only [if_true] at q9 ⊢
        refine thnF (wpAny_mono (wpAny_asleep (pe.run _ (lulled s9) σ8 H9 _ (Inv.lulled I9') q9)) (fun _ _ z => z) fun e s' ⟨s1, _, z⟩ => z.elim) fun z s10 h10 => ?_
        obtain ⟨s10', k10, yv, H10, I10, r10, acc, hD10, hz10, nx⟩ := h10
        obtain ⟨G10, e10, n10⟩ := G9.slept k10 I10 e9
        have I10' := Inv.awake I10 k10 I9'.bare
        refine thnF (wpAny_mono (wpAny_asleep (app_ok (X := X.blk (cutS s3 L) H3 scope ce []) (E := fun _ _ => False) (Q := fun _ s' => Inv (X.blk (cutS s3 L) H3 scope ce []) ([] ++ pinsAt fp6 s6.heap) σ8 (upd H10 D (.lst (acc ++ [yv]))) s') (Inv.lulled I10') hD10 hz10 r10 fun s11 I11 => I11)) (fun _ _ z => z) fun e s' ⟨s1, _, z⟩ => z.elim) fun _ s11 h11 => ?_
        obtain ⟨s11', k11, I11⟩ := h11
        obtain ⟨G11, e11, n11⟩ := G10.slept k11 I11 e10
        exact fin (s'' := s11) (s0 := s11) G11 (Inv.awake I11 k11 I10'.bare) n11 nx
    · have qq := tend H6 hfin
      have u6 : Un (frs X.stack) [] H3 H6 (cutH s3.heap L) s6.heap := I6.base
      have I7 : Inv X pins σ H6 s6 := by
        refine inv_back (L := L) I3 I6.os I6.bare u6 I6.hok ft.szL ft.celL (.inl lL) fun p hp => ?_
        obtain ⟨z1, z2, z3, z4, z5⟩ := I3.pin p hp
        have zc : (cutH s3.heap L).get? p.1 = some p.2 := (cutH_get (pL p hp)).trans z1
        refine ⟨u6.keep p.1 p.2 zc z2 (fun hm => ?_) (fun z => by cases z), u6.free p.1 p.2 zc z2 (fun z => by cases z)⟩
        rcases List.mem_cons.mp (I3.stkSub p.1 hm) with y | y
        · exact z3 y
        · exact z4 y
      have nC : H6 s3.heap.objs.size = none := by
        have z : H6 ce.locals = none := I6.free
        rw [cL] at z
        exact z
      obtain ⟨m, hn, _⟩ := I6.loc
      have hn : s6.heap.Ns ce.locals m := hn
      rw [cL] at hn
      exact hRR D s3.heap.objs.size s6 m H6 I7 qq hn (I3.fpOk (Nat.le_refl _) nC)
  exact codeAny_compStart_list loop (G4.iter loop)
/-- as a value -/
theorem pe_lcG {elt tg iter : Expr} {ifs : List Expr} {scope : Scope} {own : List (Str × Nat)} {pos : Pos} {wi : TIg} {g : TG} {tt : TT} {te : TE} (hc : X.calm = true) (hN : X.N.Nodup) (hi : PIG X iter wi) (ok : BlkOk X.N X.env.scope scope own) (noc : ∀ y ∈ scope.names, y.2 ≠ .cell)
    (hg : ∀ (s : Shared) (H : Hp) (C : Addr) (cl : List (Str × Addr)) (fp : List Addr), PG (X.blk s H scope (compEnvC scope cl C X.env) fp) tg g) (ht : ∀ (s : Shared) (H : Hp) (C : Addr) (cl : List (Str × Addr)) (fp : List Addr), PTs (X.blk s H scope (compEnvC scope cl C X.env) fp) ifs tt)
    (he : ∀ (s : Shared) (H : Hp) (C : Addr) (cl : List (Str × Addr)) (fp : List Addr), PE (X.blk s H scope (compEnvC scope cl C X.env) fp) elt te) (hs : ∀ x, foldedSetIterable iter X.env x = pure x := by intro _; rfl) :
    PE X (.ListComp elt [⟨tg, iter, ifs, 0⟩] scope pos) (tLcG wi g tt te (own.map (·.2))) := by
  refine ⟨fun pins s σ H Q I h => ?_⟩
  rw [eval_ListComp]
  refine lc_coreG hc hN I hi ok noc hg ht he hs h fun D C s' m H' I' q hn f => ⟨m, hn, fun h'' sb => ?_⟩
  obtain ⟨f0, f1, f2, f3, f4, f5⟩ := f
  exact ⟨.ref D, H', I'.turned (t' := s'.toks) (fun b o hb e => (sb.2 b hb).trans e) f0 f1 f3 f4 f5, rfl, q⟩
/-- name = [..] on one line, the name a local -/
theorem ps_setLcG {i : Nat} {y : Str} {py : Pos} {elt tg iter : Expr} {ifs : List Expr} {scope : Scope} {own : List (Str × Nat)} {pos spos : Pos} {wi : TIg} {g : TG} {tt : TT} {te : TE} (hc : X.calm = true) (hN : X.N.Nodup) (hy : X.N[i]? = some y) (hyl : X.env.scope.names.lookup y = some .local)
    (hsw : swapsWith (.ListComp elt [⟨tg, iter, ifs, 0⟩] scope pos) (some (.Name y py)) spos.line X.env = pure true) (hi : PIG X iter wi) (ok : BlkOk X.N X.env.scope scope own) (noc : ∀ y ∈ scope.names, y.2 ≠ .cell)
    (hg : ∀ (s : Shared) (H : Hp) (C : Addr) (cl : List (Str × Addr)) (fp : List Addr), PG (X.blk s H scope (compEnvC scope cl C X.env) fp) tg g) (ht : ∀ (s : Shared) (H : Hp) (C : Addr) (cl : List (Str × Addr)) (fp : List Addr), PTs (X.blk s H scope (compEnvC scope cl C X.env) fp) ifs tt)
    (he : ∀ (s : Shared) (H : Hp) (C : Addr) (cl : List (Str × Addr)) (fp : List Addr), PE (X.blk s H scope (compEnvC scope cl C X.env) fp) elt te) (hs : ∀ x, foldedSetIterable iter X.env x = pure x := by intro _; rfl) :
    PS X (.Assign [.Name y py] (.ListComp elt [⟨tg, iter, ifs, 0⟩] scope pos) spos) (tAsg (tLcG wi g tt te (own.map (·.2))) (gName i)) := by
  refine ⟨fun pins s σ H D I h => ?_⟩
  rw [exec_Assign_Name_used _ _ _ _ hsw]
  refine wpAny_bind (wpAny_standAt (wpAny_bind ?_))
  show wpAny _ X.A (do let _ ← comprehension (.ListComp elt [⟨tg, iter, ifs, 0⟩] scope pos) scope X.env (firstIterPos [⟨tg, iter, ifs, 0⟩] pos) (newList []) false (eval iter X.env) (some (assign (.Name y py) X.env))) _ _ s
  have h : tLcG wi g tt te (own.map (·.2)) σ H (fun x H1 => gName i x σ H1 D.nx) := h
  refine wpAny_bind (thn (lc_coreG (Qf := fun _ s' => SP X pins D .next s') hc hN I hi ok noc hg ht he hs h fun L C s' m H' I' q hn f => ?_) fun _ s' hq => wpAny_pure (wpAny_pure hq))
  show wpAny _ _ (assign (.Name y py) X.env (.ref L)) _ _ _
  refine wpAny_assign_Name (store_ok2 (v := V.ref L) I' hN hy (.inl hyl) rfl (fun s2 I2 ⟨a, sb, ha⟩ => ?_) (.inr hyl))
  obtain ⟨f0, f1, f2, f3, f4, f5⟩ := f
  have haC : C ≠ a := by
    rcases ha with z | z
    · rw [z]; exact f1
    · exact fun e => f4 y a z e.symm
  refine ⟨m, hn.sameBut sb haC, fun h3 sb3 => ?_⟩
  exact ⟨_, H', I2.turned (t' := s2.toks) (fun b o hb e => (sb3.2 b hb).trans e) f0 f1 f3 f4 f5, q⟩
end
theorem lcG_it {sp : GSpec} {n : Nat} {Gd : Hp → Prop} {Y : Nat → Hp → V → Hp → Prop} (w : GWalk sp n Gd Y) {g : TG} {tt : TT} {te : TE} {vs : List Nat} {σ : L2.St} {H1 : Hp} {D : Addr} {Qd : Hp → Prop} (Pv : Nat → Hp → Prop) (h0 : Pv 0 (upd H1 D (.lst []))) (hG : ∀ i H, i ≤ n → Pv i H → Gd H)
    (hs : ∀ i x H H', i < n → Pv i H → Y i H x H' → g x (wipe σ vs) H' fun σ2 H2 => wipe σ2 vs = wipe σ vs ∧ tt σ2 H2 fun b H3 =>
      if b = true then te σ2 H3 fun y H4 => ∃ acc, H4 D = some (.lst acc) ∧ acc.length < sizeLine ∧ Pv (i + 1) (upd H4 D (.lst (acc ++ [y]))) else Pv (i + 1) H3) (hd : ∀ H, Pv n H → Qd H) :
    sp.start (upd H1 D (.lst [])) ∧ ∃ W : Nat → Nat → Hp → Prop, (∃ m, W 0 m (upd H1 D (.lst []))) ∧ ∀ i m H, W i m H →
      (∀ H', sp.fin i H H' → Qd H') ∧ ∀ x H', sp.out i H x H' → ∃ Nx : Hp → Prop, (∀ H'', Nx H'' → sp.back i H' H'' ∧ ∃ m', m' < m ∧ W (i + 1) m' H'') ∧ g x (wipe σ vs) H' fun σ2 H2 => wipe σ2 vs = wipe σ vs ∧ tt σ2 H2 fun b H3 =>
        if b = true then te σ2 H3 fun y H4 => ∃ acc, H4 D = some (.lst acc) ∧ acc.length < sizeLine ∧ Nx (upd H4 D (.lst (acc ++ [y]))) else Nx H3 := by
  refine ⟨w.st _ (hG 0 _ (Nat.zero_le _) h0), fun i m H => m = n - i ∧ i ≤ n ∧ Pv i H, ⟨n, by simp, Nat.zero_le _, h0⟩, ?_⟩
  rintro i m H ⟨rfl, hi, p⟩
  have q := hG i H hi p
  refine ⟨fun H' hf => ?_, fun x H' ho => ?_⟩
  · obtain ⟨e, e'⟩ := w.fin i H H' q hf
    subst e e'
    exact hd _ p
  · obtain ⟨hlt, y⟩ := w.out i H x H' q ho
    exact ⟨Pv (i + 1), fun H'' p' => ⟨w.back i H' H'' (hG _ _ hlt p'), n - (i + 1), by omega, rfl, hlt, p'⟩, hs i x H H' hlt p y⟩
end My
/-! A generator def by its body; its calls. -/
namespace My
open PySem PySem.Spec PyProof.Rows L2 GenW
/-- a generator def's promise: what it does when it is called with these -/
abbrev SpGn := List V → GSpec → Prop
structure GDef (P : Program) (w : World) (K : PySem.W.Frag) (mg : Str → Option Value) (base : Heap) (k : Nat) (f : Addr) (fd : FuncData) (ps : List Str) (sp : SpGn) : Prop where
  len : ∀ vs s, sp vs s → vs.length = ps.length
  run : ∀ (X : Cx) (pins : List (Addr × Obj)) (σ : L2.St) (H : Hp) (s : Shared) (args : Args) (us : List Value) (vs : List V) (gs : GSpec), X.prog = P → X.w = w → X.K = K → X.mg = mg → X.base = base → X.calm = true → Room k X.A → Inv X pins σ H s → BindsTo s fd args (ps.zip us) → Vals vs us → sp vs gs →
    codeAny (model P w) X.A (.call (.ref f) args) (fun r s' => match r with | .ok (.ret u) => PIGE X pins σ (fun g' H' => g' = gs ∧ H' = H) u s' | _ => False) s
theorem gdef_of {P : Program} {w : World} {K : PySem.W.Frag} {mg : Str → Option Value} {base : Heap} {k : Nat} {f : Addr} {name qual : Str} {params : Arguments} {body : List Stmt} {scope : Scope} {dV kV doc pm cdv ct oc : Value} {an od : Option Addr}
    {osl : Array (Option Value)} {N ps : List Str} {sp : SpGn} (lk : K.lookup f = some ⟨oc, od, .func (PySem.W.fnOf name qual params body scope dV kV doc pm an cdv ct), osl⟩) (hcd : PySem.W.codeIn K cdv qual = true) (S : GScope N ps scope) (noc : ∀ y ∈ scope.names, y.2 ≠ .cell)
    (len : ∀ vs s, sp vs s → vs.length = ps.length)
    (hbody : ∀ (A : Around) (outer : List Env) (L : Addr) (vs : List V) (gs : GSpec), Room k (A.deeper (envOfC qual scope L f cdv)) → sp vs gs →
      ∃ tot t, GS1s ⟨P, w, K, mg, base, N, qual, scope, f, cdv, A, outer, L, fun _ _ _ => False⟩ gs.prt tot body t ∧ ∀ H, gs.start H → t { nx := fun i Hw _ H' => gs.fin i Hw H', rt := fun i Hw v H' => v = .non ∧ gs.fin i Hw H' } 0 H (start N vs) H) :
    GDef P w K mg base (k + 2) f (PySem.W.fnOf name qual params body scope dV kV doc pm an cdv ct) ps sp := by
  refine ⟨len, fun X pins σ H s args us vs gs hP hw hK hmg hba hc hr I hb r hsp => ?_⟩
  subst hP hw hK hmg hba
  have e0 := I.env0
  have hl := len _ _ hsp
  have KX : X.K.In s.heap := I.kIn
  have hkind : ∀ y ∈ ps.zip us, scope.names.lookup y.1 = some .local ∨ (scope.names.lookup y.1 = some .cell ∧ ((cellsFrom (s.heap.objs.size + 1) scope.names []).lookup y.1).isSome = true) := fun ⟨n, v⟩ hy => by
    rcases S.par n (List.of_mem_zip hy).1 with q | q
    · exact .inl q
    · exact absurd rfl (noc _ (PySem.mem_of_lookup q))
  refine codeAny_call_generator hr.depth (KX _ _ lk) rfl S.co S.gen rfl (PySem.W.codeRec_of KX hcd) (hb _ _ _ _ ?_)
  refine wpAny_newFunctionEnv_cells S.kind hkind fun env he s1 x => ?_
  subst he
  have lim1 : s1.heap.NoLimit := I.nolimit.keeps x.toInCall.keep
  refine ⟨lim1, ?_⟩
  obtain ⟨h1, tk, es1, hk1⟩ := x.done
  have os1 : s1.os = s.os := by rw [es1]
  have gen1 : s1.gens = s.gens := by rw [es1]
  have lt1 : s.heap.objs.size < s1.heap.objs.size := x.toInCall.ns.lt
  have kp1 : ∀ b o, s.heap.get? b = some o → s1.heap.get? b = some o := x.toInCall.keep
  have I1 : Inv (gcxOf X.prog X.w X.K X.mg X.base N qual scope f cdv X.A X.stack s H (fun _ _ _ => False) []) [] (start N vs) H s1 := inv_startG S hr.hd e0 hl r x
  have main : ∀ (go : Obj) (nm qn : Value) (tk2 : Nat), go.cls = .type "generator" → go.data = .fields #[.int s1.gens.size 0, nm, qn] → go.slots = #[] → (∀ h : Heap, (h.push go).get? h.objs.size = some go) →
      PIGE X pins σ (fun g' H' => g' = gs ∧ H' = H) (.ref s1.heap.objs.size) { s1 with gens := s1.gens.push (.fresh (.func body (envOfC qual scope s.heap.objs.size f cdv))), toks := tk2, heap := s1.heap.push go } := by
    intro go nm qn tk2 hgc hgd0 hgs hgp
    have hpushed : (s1.heap.push go).get? s1.heap.objs.size = some go := hgp _
    have kp2 : ∀ b o, s.heap.get? b = some o → (s1.heap.push go).get? b = some o := fun b o e => Heap.get?_push_of_some _ (kp1 b o e)
    obtain ⟨tot, t, ht, hq⟩ := hbody X.A.in1 X.stack s.heap.objs.size vs gs ((hr.in1).deeper _) hsp
    obtain ⟨m, hm, hlk⟩ := I1.loc
    obtain ⟨oL, esL, epL, hoL, hdL, hrL⟩ := id hm
    have hoL' : (s1.heap.push go).get? s.heap.objs.size = some oL := Heap.get?_push_of_some _ hoL
    have ltS : ∀ b o, s.heap.get? b = some o → b < s.heap.objs.size := fun b o e => Heap.lt_size e
    have fpk : ∀ b, s.heap.objs.size ≤ b → FpOk X pins H b := fun b hb => I.fpOk hb (I.hok.fresh hb)
    refine ⟨N, qual, scope, f, cdv, s.heap.objs.size, tot, s1.heap.objs.size, s1.gens.size, [s1.heap.objs.size, s.heap.objs.size], gs, H, rfl, ?_, ?_, I.lt, fun p hp => ltS _ _ (I.pin p hp).1, ?_, fun b hb => ?_, rfl, rfl⟩
    · exact I.call' (ch := []) (s' := { s1 with gens := s1.gens.push (.fresh (.func body (envOfC qual scope s.heap.objs.size f cdv))), toks := tk2, heap := s1.heap.push go }) os1 (Un.kept kp2) (I.hok.kept kp2) (AllBare.push (by rw [gen1]; exact I.bare) rfl) fun b z => by simp at z
    · refine ⟨S.kind, fun y hy => ⟨noc y hy, S.nofree y hy⟩, hr.depth, fun b hb => ?_, I.sz, fun y c e => ?_, .inl I.lt⟩
      · obtain ⟨_, o, ho, _⟩ := I.stack.mem hb
        exact ltS b o ho
      · obtain ⟨v, o, ho, _⟩ := I.cell y c e
        exact ltS c o ho
    · refine ⟨⟨_, [], start N vs, tot, Nat.add_zero _, Array.getElem?_push_size .., fun z => absurd rfl z, I1.len, ⟨m, ⟨oL, esL, epL, hoL', hdL, hrL⟩, fun j y v e1 e2 e3 => ?_⟩, fun q hq => absurd hq (by simp), fun rt s'' Jw hst => ?_⟩, ⟨go, nm, qn, hpushed, hgc, hgd0, hgs⟩, lt1, List.mem_cons_self, List.mem_cons_of_mem _ List.mem_cons_self, fun b hb => ?_⟩
      · obtain ⟨u', ru, lk'⟩ := hlk j y v e1 e2 e3
        refine ⟨u', ru, ?_⟩
        rcases lk' with ⟨_, z⟩ | ⟨z, c', e', _⟩
        · exact z
        · have z : scope.names.lookup y = some .cell ∨ scope.names.lookup y = some .free := z
          rcases z with z | z
          · exact absurd rfl (noc _ (PySem.mem_of_lookup z))
          · exact absurd rfl (S.nofree _ (PySem.mem_of_lookup z))
      · show Seg1 _ _ _ (.func body (envOfC qual scope s.heap.objs.size f cdv)) ((model X.prog X.w).den (.func body (envOfC qual scope s.heap.objs.size f cdv))) [] s''
        refine seg1_func ?_
        refine ht.run gs.fin [] tot 0 rt _ [] _ _ id id s'' (start N vs) rt.H _ ⟨over_func, rfl, rfl, rfl⟩ (Nat.add_zero _) ⟨fun n i r' s' fl hn hs => ?_, fun n i r' e s' hx => ?_⟩ Jw (hq rt.H hst)
        · cases fl with
          | next =>
            obtain ⟨σ', H', J', hQ⟩ := hs
            exact seg1_end (.ok (.ret .none)) (phi_end ⟨.inl rfl, [], σ', H', J', hQ⟩)
          | brk => obtain ⟨_, _, _, q⟩ := hs; exact False.elim q
          | cont => obtain ⟨_, _, _, q⟩ := hs; exact False.elim q
          | ret u =>
            obtain ⟨v, σ', H', J', rv, ev, hQ⟩ := hs
            subst ev
            have eu : u = Value.none := rv
            subst eu
            exact seg1_end (.ok (.ret .none)) (phi_end ⟨.inl rfl, [], σ', H', J', hQ⟩)
        · refine seg1_wrap ?_
          rw [over_func]
          refine wpAny_mono (show wpAny (model X.prog X.w) (X.A.in1.deeper (envOfC qual scope s.heap.objs.size f cdv)) (leaving (envOfC qual scope s.heap.objs.size f cdv) e) (fun _ s'' => CX X.prog X.w X.stack r'.H r'.s (fun _ _ _ => False) e s'' ∧ ∀ p ∈ r'.pn, s''.heap.get? p.1 = some p.2) (fun _ _ => False) s' from hx) (fun _ s3 q => ?_) fun _ s3 q => q.elim
          exact seg1_end (.error e) (phi_exc q)
      · rcases List.mem_cons.mp hb with z | z
        · rw [z]
          exact ⟨Nat.le_of_lt lt1, go, hpushed, fun v q => by rw [hgd0] at q; cases q⟩
        · rw [List.mem_singleton.mp z]
          exact ⟨Nat.le_refl _, oL, hoL', fun v q => by rw [hdL] at q; cases q⟩
    · rcases List.mem_cons.mp hb with z | z
      · rw [z]; exact fpk _ (Nat.le_of_lt lt1)
      · rw [List.mem_singleton.mp z]; exact fpk _ (Nat.le_refl _)
  exact main _ _ _ _ rfl rfl rfl fun h => Heap.get?_push_size _ rfl
section
variable {X : Cx} {k : Nat} {f C : Addr} {fd : FuncData} {ps : List Str} {sp : SpGn} {dvs : List V} {ds : List Value} {x m : Str} {p pos pos' apos : Pos} {o : Expr} {ta : TE}
theorem run_gdef {pins : List (Addr × Obj)} {σ : L2.St} {H : Hp} {s : Shared} {us : List Value} {vs : List V} {gs : GSpec} {R : GSpec → Hp → Prop} {E1 : Value → Shared → Prop} (F : GDef X.prog X.w X.K X.mg X.base k f fd ps sp) (hc : X.calm = true) (hr : Room k X.A) (hb : Binds X.K fd ps ds) (hd : Vals dvs ds)
    (I : Inv X pins σ H s) (r : Vals vs us) (h : sp (vs ++ dvs) gs) (q : R gs H) : wpAny (model X.prog X.w) X.A (call (.ref f) us) (PIGE X pins σ R) E1 s := by
  have r2 : Vals (vs ++ dvs) (us ++ ds) := r.append hd
  have hl2 : (us ++ ds).length = ps.length := by rw [← r2.length]; exact F.len _ _ h
  refine wpAny_call (codeAny_mono (F.run X pins σ H s ⟨us, []⟩ (us ++ ds) (vs ++ dvs) gs rfl rfl rfl rfl rfl hc hr I (hb s us I.kIn hl2) r2 h) fun r s' hq => ?_)
  cases r with
  | error e => exact False.elim hq
  | ok fl =>
    cases fl with
    | ret u =>
      obtain ⟨N, qual, scope, f', cd, L, tot, a, gi, fp, sp', H1, a1, a2, a3, a4, a5, a6, a7, e1, e2⟩ := hq
      exact ⟨N, qual, scope, f', cd, L, tot, a, gi, fp, sp', H1, a1, a2, a3, a4, a5, a6, a7, by rw [e1, e2]; exact q⟩
    | next => exact False.elim hq
    | brk => exact False.elim hq
    | cont => exact False.elim hq
def iMethG (C : Addr) (m : Str) (sp : SpGn) (dvs : List V) (ta : TE) (t : TA) : TIg := fun σ H R => ta σ H fun x H1 => ∃ a dx fs, x = .ref a ∧ H1 a = some (.ins C dx fs) ∧ fs.lookup m = none ∧ t σ H1 fun vs H2 => ∃ gs, sp (x :: (vs ++ dvs)) gs ∧ R gs H2
/-- o.m() of a generator method -/
theorem pig_meth0 {pl : Sem Bool} (he : PE X o ta) (hc : X.calm = true) (c : Cls X.K C) (hm : Meth X.K C m f) (F : GDef X.prog X.w X.K X.mg X.base k f fd ps sp) (hr : Room k X.A) (hb : Binds X.K fd ps ds) (hd : Vals dvs ds)
    (ht : eval (.Call (.Attribute o m apos) [] [] pos') X.env = (do
      let ov ← eval o X.env
      standAt apos.atName
      let (f, first) ← holding [ov] (getMethod ov m pl)
      callWith pos' f first (backTo pos' (starEach [] X.env)) (backToKw pos' (keywordEach [] X.env))) := by rfl) :
    PIG X (.Call (.Attribute o m apos) [] [] pos') (iMethG C m sp dvs ta tNil) := by
  refine ⟨fun pins s σ H R I h => ?_⟩
  refine PySem.W.methodCall_KW (pl := pl) (thn (he.run pins s σ H _ I h) fun u s1 ⟨x, H1, I1, rx, a, dx, fs, ex, ea, l, q⟩ => ?_) ht
  subst ex
  obtain rfl : u = Value.ref a := rx
  refine getmeth_ok I1 ea c hm l ?_
  obtain ⟨gs, q1, q2⟩ := q
  exact PySem.W.callWith_K0 (first := [.ref a]) I1.kIn hm.kp (run_gdef (us := [.ref a]) (vs := [.ref a]) F hc hr hb hd I1 (.cons rfl .nil) q1 q2)
/-- o.m(e, ..) of a generator method -/
theorem pig_meth {pl : Sem Bool} {e : Expr} {es : List Expr} {t : TA} (he : PE X o ta) (hc : X.calm = true) (c : Cls X.K C) (hm : Meth X.K C m f) (F : GDef X.prog X.w X.K X.mg X.base k f fd ps sp) (hr : Room k X.A) (hb : Binds X.K fd ps ds) (hd : Vals dvs ds) (ha : PA X (e :: es) t)
    (hst : starEach (e :: es) X.env = (false, eval e X.env) :: starEach es X.env := by rfl) (hpl : (backTo pos' (starEach es X.env)).any (·.1) = false := by rfl)
    (ht : eval (.Call (.Attribute o m apos) (e :: es) [] pos') X.env = (do
      let ov ← eval o X.env
      standAt apos.atName
      let (f, first) ← holding [ov] (getMethod ov m pl)
      callWith pos' f first (backTo pos' (starEach (e :: es) X.env)) (backToKw pos' (keywordEach [] X.env))) := by rfl) :
    PIG X (.Call (.Attribute o m apos) (e :: es) [] pos') (iMethG C m sp dvs ta t) := by
  refine ⟨fun pins s σ H R I h => ?_⟩
  refine PySem.W.methodCall_KW (pl := pl) (thn (he.run pins s σ H _ I h) fun u s1 ⟨x, H1, I1, rx, a, dx, fs, ex, ea, l, q⟩ => ?_) ht
  subst ex
  obtain rfl : u = Value.ref a := rx
  refine getmeth_ok I1 ea c hm l ?_
  refine PySem.W.callWith_K (first := [.ref a]) (h₀ := X.base) I1.ok.mod.kin hm.kp (thn (ha.run pos' pins s1 σ H1 _ I1 q) fun us s2 ⟨vs, H2, I2, r, gs, q1, q2⟩ => ⟨I2.kIn, ?_⟩) hst hpl
  exact run_gdef (us := .ref a :: us) (vs := .ref a :: vs) F hc hr hb hd I2 (.cons rfl r) q1 q2
def iCallG (sp : SpGn) (dvs : List V) (t : TA) : TIg := fun σ H R => t σ H fun vs H1 => ∃ gs, sp (vs ++ dvs) gs ∧ R gs H1
/-- f(e, ..) of a generator def -/
theorem pig_call {e : Expr} {es : List Expr} {t : TA} (F : GDef X.prog X.w X.K X.mg X.base k f fd ps sp) (hc : X.calm = true) (hr : Room k X.A) (hg : Gl X x) (hm : X.mg x = some (.ref f)) (hk : PySem.W.keepIn X.K (.ref f) = true) (hb : Binds X.K fd ps ds) (hd : Vals dvs ds)
    (ha : PA X (e :: es) t) (hdb : (x == ("__debug__" : Str)) = false := by decide) (he : starEach (e :: es) X.env = (false, eval e X.env) :: starEach es X.env := by rfl) (hpl : (backTo pos' (starEach es X.env)).any (·.1) = false := by rfl) :
    PIG X (.Call (.Name x p) (e :: es) [] pos') (iCallG sp dvs t) := by
  refine ⟨fun pins s σ H R I h => ?_⟩
  refine wpAny_Call_Name_kw (ld_glob I hg hm ?_ hdb)
  refine PySem.W.callWith_K (h₀ := X.base) I.ok.mod.kin hk (thn (ha.run pos' pins s σ H _ I h) fun us s1 ⟨vs, H1, I1, r, gs, q1, q2⟩ => ⟨I1.kIn, ?_⟩) he hpl
  exact run_gdef F hc hr hb hd I1 r q1 q2
end
end My
/-! Generator methods and defs by name; a generator that hands out what stands in a tuple. -/
namespace My
open PySem PySem.Spec PyProof.Rows L2
structure GMeth (P : Program) (w : World) (K : PySem.W.Frag) (mg : Str → Option Value) (base : Heap) (k : Nat) (C : Addr) (m : Str) (sp : SpGn) : Prop where
  ex : ∃ f fd, Meth K C m f ∧ GDef P w K mg base k f fd ["self"] sp ∧ L2.Binds K fd ["self"] []
theorem pig_m0 {X : Cx} {k : Nat} {C : Addr} {m : Str} {sp : SpGn} {o : Expr} {ta : TE} {pos' apos : Pos} {pl : Sem Bool} (M : GMeth X.prog X.w X.K X.mg X.base k C m sp) (hc : X.calm = true) (c : Cls X.K C) (hr : Room k X.A) (he : PE X o ta)
    (ht : eval (.Call (.Attribute o m apos) [] [] pos') X.env = (do
      let ov ← eval o X.env
      standAt apos.atName
      let (f, first) ← holding [ov] (getMethod ov m pl)
      callWith pos' f first (backTo pos' (starEach [] X.env)) (backToKw pos' (keywordEach [] X.env))) := by rfl) :
    PIG X (.Call (.Attribute o m apos) [] [] pos') (iMethG C m sp [] ta tNil) := by
  obtain ⟨f, fd, hm, F, hb⟩ := M.ex
  exact pig_meth0 he hc c hm F hr hb .nil ht
/-- it hands out what stands in the tuple at t, while the tuple stands -/
def tupG (S0 : Hp → Prop) (t : Addr) (zs : List V) : GSpec := ⟨fun H => S0 H ∧ H t = some (.tup zs), fun i Hw x H' => H' = Hw ∧ zs[i]? = some x, fun _ _ H'' => H'' t = some (.tup zs), fun i Hw H' => H' = Hw ∧ i = zs.length⟩
theorem walk_tupG {S0 : Hp → Prop} {t : Addr} {zs : List V} : GWalk (tupG S0 t zs) zs.length (fun H => S0 H ∧ H t = some (.tup zs)) (YAt zs) :=
  ⟨fun H h => h, fun i H x H' _ h => ⟨(List.getElem?_eq_some_iff.mp h.2).1, h⟩, fun i H' H'' h => h.2, fun i H H' _ h => ⟨h.2, h.1⟩⟩
/-- the reading of «for x in t: yield x» -/
theorem for_tupG {K : PySem.W.Frag} {t : Addr} {zs : List V} {S0 : Hp → Prop} {D : GEn} {σ : L2.St} {H : Hp} (ix : Nat) (h0 : H t = some (.tup zs)) (nx : ∀ σ Hw, D.nx zs.length Hw σ Hw) (hl : ix < σ.length) :
    ∃ W : Nat → Nat → Nat → Hp → L2.St → Hp → Prop, (∃ m, W 0 m 0 H σ H) ∧ ∀ j m i Hw σ H, W j m i Hw σ H →
      ((Itt K t).stop j H ∧ D.nx i Hw σ H) ∨ ((Itt K t).go j H ∧ ∃ N : Nat → Hp → L2.St → Hp → Prop, (∀ i' Hw' σ' H', N i' Hw' σ' H' → ∃ m', m' < m ∧ W (j + 1) m' i' Hw' σ' H') ∧ ∀ x H', (Itt K t).yld j H x H' → gName ix x σ H' fun σ2 H2 =>
        (tG1then (tG1yield (tupG S0 t zs).prt zs.length (tVar ix)) tG1nil) { D with nx := N, ct := N, bk := D.nx } i Hw σ2 H2) := by
  refine ⟨fun j m i Hw σ H => m = zs.length - j ∧ j ≤ zs.length ∧ i = j ∧ Hw = H ∧ H t = some (.tup zs) ∧ ix < σ.length, ⟨zs.length, by simp, Nat.zero_le _, rfl, rfl, h0, hl⟩, ?_⟩
  intro j m i Hw σ H hw
  obtain ⟨e1, hj, e2, e3, ht, hl⟩ := hw
  subst e1 e2 e3
  by_cases hlt : i < zs.length
  · refine .inr ⟨⟨zs, zs[i], SqT.of ht, by simp [hlt]⟩, fun i' Hw' σ' H' => i' = i + 1 ∧ Hw' = H' ∧ H' t = some (.tup zs) ∧ ix < σ'.length, fun i' Hw' σ' H' h => ⟨zs.length - (i + 1), by omega, rfl, hlt, h.1, h.2.1, h.2.2.1, h.2.2.2⟩, fun x H' y => ?_⟩
    obtain ⟨e, y⟩ := y
    subst e
    have hx := y zs (SqT.of ht)
    refine ⟨hlt, x, ?_, ⟨rfl, hx⟩, fun H2 hb => ?_⟩
    · rw [List.getElem?_set_self hl]
    · exact ⟨rfl, rfl, hb, by rw [List.length_set]; exact hl⟩
  · have e : i = zs.length := by omega
    subst e
    exact .inl ⟨⟨zs, SqT.of ht, Nat.le_refl _⟩, nx σ _⟩
end My
/-! len(x), x[i] = v of an instance with its own __len__, __setitem__; a property whose body reckons. -/
namespace My
open PySem PySem.Spec PySem.Calls PyProof.Rows L2
section
variable {X : Cx} {CX : CXT} {k : Nat} {C : Addr} {ps : List Str} {sp : Sp} {E : XK}
def rLenO (C : Addr) (sp : Sp) (E : XK) : List V → Hp → VK → Prop := fun xs H Q => ∃ a dx fs, xs = [.ref a] ∧ H a = some (.ins C dx fs) ∧ sp [.ref a] H (fun v H' => ∃ n : Int, v = .int n ∧ 0 ≤ n ∧ n < 2 ^ 63 ∧ Q v H') E
theorem call_lenO (M : CmpAt X.prog X.w X.K X.mg X.base CX k C "__len__" ps sp) (hr : Room (k + 1) X.A) (hx : Passes CX X E) : CallR X (.builtin "len") (rLenO C sp E) := by
  intro pins s σ H xs us Q I r h
  obtain ⟨f, fd, hs, hf, F, hb⟩ := M.ex
  obtain ⟨a, dx, fs, rfl, ha, hsp⟩ := h
  obtain ⟨u, rfl, r1⟩ := vals1 r
  obtain rfl : u = Value.ref a := r1
  obtain ⟨ox, od, J, _⟩ := ins_plain I ha
  obtain ⟨m', hF⟩ := I.fr
  have U : Und X k X.A.in1 := (Und.here hr).in1
  refine PySem.W.len_K hF I.ok.mod.kin J hs hf (wpAny_mono (run_at (vs := [.ref a]) F hb hx U I (.cons rfl .nil) hsp) (fun v s' z => ?_) fun _ _ z => z)
  obtain ⟨z, H', I', rz, n, rfl, h0, h1, q⟩ := z
  obtain ⟨t, e⟩ := (show ∃ t, v = Value.int n t from rz)
  subst e
  exact ⟨⟨h0, h1⟩, .int n, H', I'.tok _, ⟨_, rfl⟩, q⟩
/-- x[i] = v by an own __setitem__ -/
def rSetO (C : Addr) (sp : Sp) (E : XK) : TSet := fun o i v H Q => ∃ a dx fs, o = .ref a ∧ H a = some (.ins C dx fs) ∧ sp [o, i, v] H (fun _ H' => Q H') E
theorem set_own (M : CmpAt X.prog X.w X.K X.mg X.base CX k C "__setitem__" ps sp) (nq : PySem.W.noSeq X.K C = true) (hr : Room k X.A) (hx : Passes CX X E) : PSet X (rSetO C sp E) := by
  intro pins s σ H o i v ov iv u Q I ro ri rv h
  obtain ⟨f, fd, hs, hf, F, hb⟩ := M.ex
  obtain ⟨a, dx, fs, rfl, ha, hsp⟩ := h
  obtain rfl : ov = Value.ref a := ro
  obtain ⟨ox, od, J, _⟩ := ins_plain I ha
  obtain ⟨m', hF⟩ := I.fr
  refine PySem.W.ksp_setItem hF I.ok.mod.kin J nq hs hf (wpAny_mono (run_at (vs := [.ref a, i, v]) F hb hx (Und.here hr) I (.cons rfl (.cons ri (.cons rv .nil))) hsp) (fun _ s' z => ?_) fun _ _ z => z)
  obtain ⟨_, H', I', _, q⟩ := z
  exact ⟨H', I', q⟩
/-- x.f of a property whose getter is a def like any other -/
structure PropR (P : Program) (w : World) (K : PySem.W.Frag) (mg : Str → Option Value) (base : Heap) (CX : CXT) (k : Nat) (C : Addr) (x : Str) (sp : Sp) : Prop where
  ex : ∃ p g fd, PropOf K C x p g ∧ FnOk P w K mg base CX k g fd ["self"] sp ∧ L2.Binds K fd ["self"] []
theorem pe_propR {e : Expr} {f : Str} {pos : Pos} {ta : TE} (M : PropR X.prog X.w X.K X.mg X.base CX k C f sp) (c : Cls X.K C) (hr : Room (k + 1) X.A) (hx : Passes CX X.nox E) (he : PE X e ta) (hab : attributeBase e f X.env (eval e X.env) = eval e X.env := by rfl) :
    PE X (.Attribute e f pos) (tProp C sp [] E ta) := by
  obtain ⟨p, g, fd, hp, F, hb⟩ := M.ex
  exact pe_prop he c hp F hr hb .nil hx hab
end
end My
/-! An own error class E(Base(ValueError)) whose __init__ says super().__init__(f, g), self.f = f and self.g = g. -/
namespace Sup
open PySem PySem.W PySem.Calls PyProof.Rows PySem.HandSPX
def a2 (f g : Str) (p1 p2 p3 : Pos) : Arguments :=
  { posonlyargs := [], args := [{ arg := "self", annotation := none, pos := p1 }, { arg := f, annotation := none, pos := p2 }, { arg := g, annotation := none, pos := p3 }], vararg := none, kwonlyargs := [], kw_defaults := [], kwarg := none, defaults := [] }
def b2 (f g : Str) (q1 q2 q3 q4 q7 q5 q6 r1 r2 r3 r4 t1 t2 t3 t4 : Pos) : List Stmt :=
  [.Expr (.Call (.Attribute (.Call (.Name "super" q1) [] [] q2) "__init__" q3) [.Name f q4, .Name g q7] [] q5) q6, .Assign [.Attribute (.Name "self" r1) f r2] (.Name f r3) r4, .Assign [.Attribute (.Name "self" t1) g t2] (.Name g t3) t4]
def s2 (f g : Str) : Scope :=
  { kind := .function, names := [(PySem.Str.ofString "self", .local), (f, .local), (g, .local), (PySem.Str.ofString "__class__", .free), (PySem.Str.ofString "super", .globalImplicit)], isGenerator := false, isCoroutine := false, more := [] }
structure Nm2 (f g : Str) : Prop where
  f1 : (f == ("self" : Str)) = false
  f2 : (("__class__" : Str) == f) = false
  f3 : (("super" : Str) == f) = false
  f4 : (f == ("__debug__" : Str)) = false
  g1 : (g == ("self" : Str)) = false
  g2 : (("__class__" : Str) == g) = false
  g3 : (("super" : Str) == g) = false
  g4 : (g == ("__debug__" : Str)) = false
  fg : (f == g) = false
  gf : (g == f) = false
  bd : ∀ (qual : Str) (body : List Stmt) (doc pm : Value) (an : Option Addr) (cdv ct : Value) (cc : Addr) (p1 p2 p3 : Pos) (a b c : Value),
    bindArgs (ksFn "__init__" qual (a2 f g p1 p2 p3) body (s2 f g) .none .none doc pm an cdv ct cc) ⟨[a, b, c], []⟩ = pure [(("self" : Str), a), (f, b), (g, c)]
/-- what the top has written of the class x, at C, and of its __init__, at fI -/
structure Err2 (prog : Program) (K : Frag) (mg : Str → Option Value) (x f g : Str) (C fI : Addr) : Prop where
  gC : mg x = some (.ref C)
  ox : L2.OexC K C
  rd : L2.XfC K C
  nf : findIn K (.ref C) f = some none
  ng : findIn K (.ref C) g = some none
  nm : Nm2 f g
  iC : findIn K (.ref C) "__init__" = some (some (.ref fI))
  tI : typeIn K (.ref fI) = some (.type "function")
  fn : ∃ (qual : Str) (oc : Value) (od : Option Addr) (doc pm : Value) (an : Option Addr) (cda : Addr) (ct : Value) (cc : Addr) (osl : Array (Option Value)) (p1 p2 p3 q1 q2 q3 q4 q7 q5 q6 r1 r2 r3 r4 t1 t2 t3 t4 : Pos),
    K.lookup fI = some ⟨oc, od, .func (ksFn "__init__" qual (a2 f g p1 p2 p3) (b2 f g q1 q2 q3 q4 q7 q5 q6 r1 r2 r3 r4 t1 t2 t3 t4) (s2 f g) .none .none doc pm an (.ref cda) ct cc), osl⟩ ∧ codeIn K (.ref cda) qual = true ∧
    (∃ cl cld csl, K.lookup cc = some ⟨cl, cld, .cell (some (.ref C)), csl⟩) ∧ ∃ ccl cdd vs ccs file tf, K.lookup cda = some ⟨ccl, cdd, .fields vs, ccs⟩ ∧ vs[2]? = some (.str file tf) ∧ ((prog.main.file : Str) == file) = true ∧ (q3.endLine == q5.line) = true
  su : ks_superIn K C C "__init__" = some (some (.builtin "ValueError.__init__"))
  sV : subIn K (.ref C) (.type "ValueError") = some true
  sC : mroIn K C (.ref C) = some true
  gS : mg "super" = none
  oq : nsIn K cStatics "thirdparty.any" = some none
  top : (prog.main.scope.names.lookup ("super" : Str)).isSome = false
/-- what __init__ leaves of a fresh exception at x -/
structure End2 (h h' : Heap) (f g : Str) (x C dx t1 : Addr) (v u : Value) : Prop where
  keep : ∀ b o, b ≠ x → h.get? b = some o → h'.get? b = some o
  obj : h'.get? x = some { cls := .ref C, dict := some dx, data := .fields #[.ref t1, .none, .none, .none, .bool false, .none] }
  dbig : h.objs.size ≤ dx
  dne : dx ≠ x
  ns : h'.Ns1 dx (fun y => if y = g then some u else if y = f then some v else none)
theorem flip {a b : Str} (h : (a == b) = false) : (b == a) = false := by
  rw [Bool.eq_false_iff] at h ⊢
  intro y
  exact h (by rw [beq_iff_eq] at y ⊢; exact y.symm)
theorem lk2f {f g : Str} (N : Nm2 f g) : (s2 f g).names.lookup f = some .local := by
  simp only [s2, List.lookup, N.f1, beq_self_eq_true]
theorem lk2g {f g : Str} (N : Nm2 f g) : (s2 f g).names.lookup g = some .local := by
  simp only [s2, List.lookup, N.g1, N.gf, beq_self_eq_true]
theorem lk2c {f g : Str} (N : Nm2 f g) : (s2 f g).names.lookup ("__class__" : Str) = some .free := by
  have e : (("__class__" : Str) == ("self" : Str)) = false := by decide +kernel
  have e2 : (("__class__" : Str) == ("__class__" : Str)) = true := by decide +kernel
  simp only [s2, List.lookup, N.f2, N.g2, e, e2]
theorem lk2s {f g : Str} (N : Nm2 f g) : (s2 f g).names.lookup ("super" : Str) = some .globalImplicit := by
  have e : (("super" : Str) == ("self" : Str)) = false := by decide +kernel
  have e2 : (("super" : Str) == ("__class__" : Str)) = false := by decide +kernel
  have e3 : (("super" : Str) == ("super" : Str)) = true := by decide +kernel
  simp only [s2, List.lookup, N.f3, N.g3, e, e2, e3]
theorem meth_eq2 {o : Expr} {name f g : Str} {q3 q4 q7 q5 : Pos} {env : Env} (hp : (q3.endLine == q5.line) = true) :
    eval (.Call (.Attribute o name q3) [.Name f q4, .Name g q7] [] q5) env = (do
      let ov ← attributeBase o name env (eval o env)
      standAt q3.atName
      let (k, first) ← holding [ov] (getMethod ov name (do return (← importBound o env).getD true))
      callWith q5 k first (backTo q5 (starEach [.Name f q4, .Name g q7] env)) []) := by
  rw [arm_eval_Call]
  have hf : methodCallForm ([Expr.Name f q4, Expr.Name g q7].length + ([] : List Keyword).length) (backTo q5 (starEach [.Name f q4, .Name g q7] env)) (backToKw q5 (keywordEach [] env)) = true := rfl
  have e : ∀ ov, methodCall o name q3 q5 env ov ([Expr.Name f q4, Expr.Name g q7].length + ([] : List Keyword).length) (backTo q5 (starEach [.Name f q4, .Name g q7] env)) (backToKw q5 (keywordEach [] env)) = (do
      let (k, first) ← holding [ov] (getMethod ov name (do return (← importBound o env).getD true))
      callWith q5 k first (backTo q5 (starEach [.Name f q4, .Name g q7] env)) []) := fun ov => by
    unfold methodCall
    rw [hf]
    unfold calleeOf methodCallPos
    simp only [hp, Bool.not_true, Bool.false_or, if_true]
    rfl
  simp only [e]
section
variable {prog : Program} {w : World} {A : Around} {E : Value → Shared → Prop} {R : Result → Shared → Prop} {s : Shared} {K : Frag} {mg : Str → Option Value} {x f g : Str} {C fI : Addr}
theorem init2 (T : Err2 prog K mg x f g C fI) {e t0 : Addr} {v u : Value} (X : K.In s.heap) (hlim : s.heap.NoLimit) (hg : s.heap.Ns mainGlobals mg) (hb : ∃ mb, s.heap.Ns builtinsNs mb ∧ ∀ x : Str, x ≠ "__name__" → mb x = bootBuiltins x)
    (he : s.heap.get? e = some (excO C t0)) (hnx : K.lookup e = none) (hroom : A.depth < recursionLimit)
    (hq : ∀ h' tk dx t1, End2 s.heap h' f g e C dx t1 v u → R (.ok (.ret .none)) { s with heap := h', toks := tk }) :
    codeAny (model prog w) A (.call (.ref fI) ⟨[.ref e, v, u], []⟩) R s := by
  obtain ⟨qual, oc, od, doc, pm, an, cda, ct, cc, osl, p1, p2, p3, q1, q2, q3, q4, q7, q5, q6, r1, r2, r3, r4, j1, j2, j3, j4, ho, hcd, ⟨cl, cld, csl, hcell⟩, ccl, cdd, vs, ccs, file, tf, hcode, hvs, hfile, hqq⟩ := T.fn
  obtain ⟨nm, q, N, bs, bm, sn, sub, ab, col, dd, k0, k1, k2, k3, k5, hC, hbm⟩ := T.ox.cls
  obtain ⟨mb, hb1, hb2⟩ := hb
  have hcl : clsIn K C = some { name := nm, bases := bs, mro := .ref C :: bm, ns := N, qualname := q, hasDict := true, slotNames := sn, subclasses := sub, abstract := ab, collection := col, hasDel := false } := by unfold clsIn; rw [hC] <;> rfl
  have hloc : ∀ y ∈ [(("self" : Str), Value.ref e), (f, v), (g, u)], (s2 f g).names.lookup y.1 = some .local := fun y hy => by
    rcases List.mem_cons.mp hy with z | z
    · rw [z]; rfl
    · rcases List.mem_cons.mp z with z | z
      · rw [z]; exact lk2f T.nm
      · rw [List.mem_singleton.mp z]; exact lk2g T.nm
  have hsu : alongIn K "__init__" ((((Value.ref C :: bm) : List Value).dropWhile (· != .ref C)).drop 1) = some (some (.builtin "ValueError.__init__")) := by
    have z := T.su
    unfold ks_superIn at z
    rw [hcl] at z
    exact z
  refine ks_codeAny_call_defAt (fd := ksFn "__init__" qual (a2 f g p1 p2 p3) (b2 f g q1 q2 q3 q4 q7 q5 q6 r1 r2 r3 r4 j1 j2 j3 j4) (s2 f g) .none .none doc pm an (.ref cda) ct cc) (binds := [("self", .ref e), (f, v), (g, u)]) hroom (X _ _ ho) rfl hlim (codeRec_of X hcd) rfl (BindsTo.of_eq (T.nm.bd _ _ _ _ _ _ _ _ _ _ _ _ _ _))
    (by intro y hy; simp only [s2, List.mem_cons, List.mem_nil_iff, or_false] at hy; rcases hy with z | z | z | z | z <;> rw [z] <;> exact (fun w => nomatch w)) hloc (fun h1 hns kp => ?_)
  have X1 : K.In h1 := X.keeps kp
  have he1 := kp _ _ he
  have hC1 := X1 _ _ hC
  have hx0 : e ≠ C := fun z => by
    have y := X _ _ hC
    rw [← z, he] at y
    cases y
  have mself : ([(("self" : Str), Value.ref e), (f, v), (g, u)].reverse.lookup ("self" : Str)) = some (.ref e) := by
    simp only [List.reverse_cons, List.reverse_nil, List.nil_append, List.cons_append, List.lookup, flip T.nm.f1, flip T.nm.g1, beq_self_eq_true]
  have mf : ([(("self" : Str), Value.ref e), (f, v), (g, u)].reverse.lookup f) = some v := by
    simp only [List.reverse_cons, List.reverse_nil, List.nil_append, List.cons_append, List.lookup, T.nm.fg, beq_self_eq_true]
  have mg' : ([(("self" : Str), Value.ref e), (f, v), (g, u)].reverse.lookup g) = some u := by
    simp only [List.reverse_cons, List.reverse_nil, List.nil_append, List.cons_append, List.lookup, beq_self_eq_true]
  show _root_.PySem.wpAt _ _ _ (execs (b2 f g q1 q2 q3 q4 q7 q5 q6 r1 r2 r3 r4 j1 j2 j3 j4) _) _ _ _
  unfold b2
  refine ks_wpAt_execs_cons (ks_wpAt_Expr_any (ks_wpAt_MethodCall (ks_wpAt_super_base (lk2s T.nm) (lk2c T.nm) (by decide +kernel) rfl (X1 _ _ ho) rfl rfl rfl (X1 _ _ hcode) rfl hvs hfile T.top ?_) (meth_eq2 hqq)))
  refine ks_loadName_global rfl (lk2s T.nm) (loadGlobal_builtin (hg.keeps kp) T.gS (hb1.keeps kp) ((hb2 _ (by decide +kernel)).trans (by decide +kernel : bootBuiltins "super" = some (.type "super"))) ⟨rfl, ?_⟩)
  refine wpAny_loadName_free rfl (lk2c T.nm) rfl ⟨_, X1 _ _ hcell, rfl⟩ ?_
  refine wpAny_loadName_local rfl rfl hns mself ?_
  refine ks_wpAny_isType_cls hC1 rfl ⟨rfl, ?_⟩
  refine ks_wpAny_call_super hC1 rfl he1 rfl (fun c z => nomatch z) (looks_mroIn X1 T.sC) (fun h2 hso k2 => ?_)
  have X2 : K.In h2 := X1.keeps k2
  have he2 := k2 _ _ he1
  have I2 : InstAt h2 e (excO C t0) C none := ⟨he2, rfl, rfl, trivial⟩
  refine kxs_getMethod kxs_ValueError hso (looks_opaque X2 T.oq) (l₀ := .ref C :: bm) (fun A Q E s k q => wpAny_bind ((looks_clsIn X2 hcl) A _ E s k (wpAny_pure q))) rfl X2 hsu (I2.type.andThen (looks_subIn X2 T.sV)) hx0 (by decide +kernel) ?_
  refine kxs_callWith (i := "ValueError.__init__") (x := e) rfl ?_
  have hns2 := hns.keeps k2
  have k3 : ∀ b o, h2.get? b = some o → (h2.push (kxs_mw "ValueError.__init__" e)).get? b = some o := fun b o z => Heap.get?_push_of_some _ z
  refine evalArgs_plain (Calls.spliced_cons (ldc rfl (lk2f T.nm) (hns2.keeps k3) mf (Calls.spliced_cons (ldc rfl (lk2g T.nm) (hns2.keeps k3) mg' (Calls.spliced_nil ⟨Heap.get?_push_size _ rfl, ?_⟩) T.nm.g4)) T.nm.f4))
  show wpAny _ _ (call (.ref h2.objs.size) [v, u]) _ _ _
  refine call_mw (X2.keeps k3 _ _ hC) (k3 _ _ he2) (Heap.get?_push_size _ rfl) (by rw [sizeLine_eq]; exact (by decide : 2 ≤ 16777216)) fun h4 t1 k4 he4 => ?_
  have kall : ∀ b o, b ≠ e → s.heap.get? b = some o → h4.get? b = some o := fun b o hb z => k4 b o hb (k3 b o (k2 b o (kp b o z)))
  have X4 : K.In h4 := fun a o z => kall a o (fun y => by rw [y, hnx] at z; cases z) (X a o z)
  have hL : s.heap.objs.size ≠ e := Nat.ne_of_gt (Heap.lt_size he)
  have hns4 : h4.Ns s.heap.objs.size (fun y => [(("self" : Str), Value.ref e), (f, v), (g, u)].reverse.lookup y) := by
    obtain ⟨oL, es, ep, hoL, r⟩ := hns2
    exact ⟨oL, es, ep, k4 _ _ hL (k3 _ _ hoL), r⟩
  show _root_.PySem.wpAt _ _ _ (execs [.Assign [.Attribute (.Name "self" r1) f r2] (.Name f r3) r4, .Assign [.Attribute (.Name "self" j1) g j2] (.Name g j3) j4] _) _ _ _
  refine wpAt_of_wpAny (wpAny_execs_cons (plainObj_wpAny_Assign_Attribute (ldc rfl (lk2f T.nm) hns4 mf (ldc rfl rfl hns4 mself ?_) T.nm.f4)))
  refine set_plain X4 (ox := excO C t1) (od := none) ⟨he4, rfl, rfl, trivial⟩ T.ox.sa ?_
  refine exc_osa X4 he4 hcl (show refsVE (.ref C :: bm) = true from hbm) rfl T.nf (fun h5 tk5 dx k5 dn dne hx5 hn5 => ?_)
  have z1 : s.heap.objs.size ≤ h1.objs.size := Nat.le_of_lt hns.lt
  have z2 := hns4.lt
  have dbig : s.heap.objs.size ≤ dx := Nat.le_trans (Nat.le_of_lt z2) dn
  have X5 : K.In h5 := fun a o z => k5 a o (fun y => by rw [y, hnx] at z; cases z) (X4 a o z)
  have hns5 : h5.Ns s.heap.objs.size (fun y => [(("self" : Str), Value.ref e), (f, v), (g, u)].reverse.lookup y) := by
    obtain ⟨oL, es, ep, hoL, r⟩ := hns4
    exact ⟨oL, es, ep, k5 _ _ hL hoL, r⟩
  have hw5 : Within (fun y => if y = f then some v else none) [f] := fun y hy => by
    by_cases c : y = f
    · rw [c]
      exact List.mem_singleton.mpr rfl
    · exact absurd (show (if y = f then some v else none) = none from if_neg c) hy
  obtain ⟨oD, esD, epD, hoD, hdD, hcD⟩ := hn5.count hw5
  refine wpAny_execs_cons (plainObj_wpAny_Assign_Attribute (ldc rfl (lk2g T.nm) hns5 mg' (ldc rfl rfl hns5 mself ?_) T.nm.g4))
  refine set_plain X5 (od := some oD) ⟨hx5, rfl, rfl, hoD⟩ T.ox.sa ?_
  refine PySem.OEX.osa_old X5 hx5 hn5 hw5 (by show 1 ≤ 1000; decide) hcl (show refsVE (.ref C :: bm) = true from hbm) rfl T.ng (fun h6 tk6 k6 hn6 => ?_)
  refine wpAny_execs_nil (hq h6 tk6 dx t1 ⟨fun b o hb z => k6 b o (Nat.ne_of_lt (Nat.lt_of_lt_of_le (Heap.lt_size z) dbig)) (k5 b o hb (kall b o hb z)), k6 _ _ (Ne.symm dne) hx5, dbig, dne, hn6⟩)
/-- a made error -/
structure Made2 (h h' : Heap) (f g : Str) (e C d : Addr) (v u : Value) : Prop where
  keep : ∀ b o, h.get? b = some o → h'.get? b = some o
  new : h.objs.size ≤ e
  obj : ∃ oe vs, h'.get? e = some oe ∧ oe.cls = .ref C ∧ oe.dict = some d ∧ oe.data = .fields vs ∧ vs[1]? = some .none
  dbig : h.objs.size ≤ d
  dne : d ≠ e
  ns : h'.Ns1 d (fun y => if y = g then some u else if y = f then some v else none)
theorem made2 (T : Err2 prog K mg x f g C fI) {v u : Value} (X : K.In s.heap) (hlim : s.heap.NoLimit) (hg : s.heap.Ns mainGlobals mg) (hb : ∃ mb, s.heap.Ns builtinsNs mb ∧ ∀ x : Str, x ≠ "__name__" → mb x = bootBuiltins x) (hroom : A.depth + 1 < recursionLimit)
    (hq : ∀ h' tk e d, Made2 s.heap h' f g e C d v u → R (.ok (.ret (.ref e))) { s with heap := h', toks := tk }) :
    codeAny (model prog w) A (.call (.ref C) ⟨[v, u], []⟩) R s := by
  obtain ⟨nm, q, N, bs, bm, sn, sub, ab, col, dd, k0, k1, k2, k3, k5, hC, hbm⟩ := T.ox.cls
  obtain ⟨hp, gg, dr, tk, os⟩ := s
  have kp : ∀ b o, hp.get? b = some o → ((hp.push (kdv_tup [v, u])).push (excO C hp.objs.size)).get? b = some o := fun b o z => Heap.get?_push_of_some _ (Heap.get?_push_of_some _ z)
  have hget : ((hp.push (kdv_tup [v, u])).push (excO C hp.objs.size)).get? (hp.objs.size + 1) = some (excO C hp.objs.size) := by heap_get
  have hnx : K.lookup (hp.objs.size + 1) = none := by
    cases z : K.lookup (hp.objs.size + 1) with
    | none => rfl
    | some o => exact absurd (Nat.lt_of_succ_lt (Heap.lt_size (X _ _ z))) (Nat.lt_irrefl _)
  refine call_own F.excBase_ValueError (fun Y => refsVE_contains Y bm hbm) (X _ _ hC) (looks_findIn X T.iC) (fun self => bind_fn X self T.tI) (by rw [sizeLine_eq]; exact (by decide : 2 ≤ 16777216)) ?_
  obtain ⟨mb, hb1, hb2⟩ := hb
  refine init2 (s := ⟨(hp.push (kdv_tup [v, u])).push (excO C hp.objs.size), gg, dr, tk, os⟩) T (X.keeps kp) (hlim.keeps kp) (hg.keeps kp) ⟨mb, hb1.keeps kp, hb2⟩ hget hnx ?_ fun h' tk' dx t1 ⟨k', hx, dn, dne, hns⟩ => ?_
  · show A.depth + 1 < recursionLimit
    exact hroom
  · have old : ∀ b o, hp.get? b = some o → h'.get? b = some o := fun b o z => k' b o (Nat.ne_of_lt (Nat.lt_succ_of_lt (Heap.lt_size z))) (kp b o z)
    have z : hp.objs.size + 1 + 1 ≤ dx := by
      have y := dn
      first
        | (rw [Heap.size_push, Heap.size_push] at y; exact y)
        | exact y
    exact ⟨rfl, hq h' tk' (hp.objs.size + 1) dx ⟨old, Nat.le_succ _, ⟨_, _, hx, rfl, rfl, rfl, rfl⟩, Nat.le_trans (Nat.le_trans (Nat.le_succ _) (Nat.le_succ _)) z, dne, hns⟩⟩
end
end Sup
namespace L2
open PySem PySem.Spec PyProof.Rows
theorem relO_two {v u : V} {v' u' : Value} {f g : Str} (gf : (g == f) = false) (rv : RelV v v') (ru : RelV u u') (y : Str) : RelO (List.lookup y [(f, v), (g, u)]) (if y = g then some u' else if y = f then some v' else none) := by
  by_cases hw : y = g
  · rw [if_pos hw, hw]
    have z : List.lookup g [(f, v), (g, u)] = some u := by simp [List.lookup, gf]
    rw [z]
    exact ru
  · rw [if_neg hw]
    by_cases hf : y = f
    · rw [if_pos hf, hf]
      have z : List.lookup f [(f, v), (g, u)] = some v := by simp [List.lookup]
      rw [z]
      exact rv
    · rw [if_neg hf]
      have y1 : (y == f) = false := by simpa using hf
      have y2 : (y == g) = false := by simpa using hw
      have z : List.lookup y [(f, v), (g, u)] = none := by simp [List.lookup, y1, y2]
      rw [z]
      trivial
section
variable {X : Cx} {C fI : Addr} {x f g : Str}
/-- E(e, e2) -/
def tMk2 (C : Addr) (f g : Str) (ta : TA) : St → Hp → XK → Prop := fun σ H Q => ta σ H fun vs H1 => ∃ v u, vs = [v, u] ∧ ∀ d, H1 d = none → Q (.ref C) (some d) (upd H1 d (.xd [(f, v), (g, u)]))
theorem pmk_2 {a b : Expr} {ta : TA} {p pos : Pos} {k : Nat} (T : Sup.Err2 X.prog X.K X.mg x f g C fI) (hr : Room k X.A) (ha : PA X [a, b] ta) (hg : Gl X x := by rfl) (hdb : (x == ("__debug__" : Str)) = false := by decide)
    (hs : starEach (a :: [b]) X.env = (false, eval a X.env) :: starEach [b] X.env := by rfl) (hpl : (backTo pos (starEach [b] X.env)).any (·.1) = false := by rfl) :
    PMk X (.Call (.Name x p) [a, b] [] pos) (tMk2 C f g ta) := by
  intro pins s σ H Q I h
  refine wpAny_Call_Name_kw (ld_glob I hg T.gC ?_ hdb)
  refine PySem.W.callWith_K (h₀ := X.base) I.ok.mod.kin T.ox.kC (thn (ha.run pos pins s σ H _ I h) fun us s1 hh => ?_) hs hpl
  obtain ⟨vs, H1, I1, r1, v, u, ev, q1⟩ := hh
  subst ev
  refine ⟨I1.kIn, ?_⟩
  cases r1 with
  | cons rv rn =>
    rename_i v' us'
    cases rn with
    | cons ru rn =>
      rename_i u' us'
      cases rn
      show wpAny _ _ (call (.ref C) [v', u']) _ _ _
      have hlim := I1.nolimit
      obtain ⟨mb, hb1, hb2⟩ := I1.mod.blt
      have bk1 := I1.bk
      have gl1 := I1.mod.glob
      obtain ⟨hp, g0, dr, tk, os⟩ := s1
      refine wpAny_call (Sup.made2 T I1.kIn hlim (gl1.keeps bk1) ⟨mb, hb1.keeps bk1, hb2⟩ (by have := hr.dp; omega) fun h' tk' e d M => ?_)
      show MkP X pins σ Q (.ref e) ⟨h', g0, dr, tk', os⟩
      obtain ⟨oe, fv, hoe, hc, hd, hdat, h1⟩ := M.obj
      have hns := M.ns
      obtain ⟨G', g1, g2⟩ := restrict h' fun b => decide (b ≠ e)
      have gk : ∀ b, b ≠ e → G'.get? b = h'.get? b := fun b hb => g1 b (decide_eq_true hb)
      have ge : G'.get? e = none := g2 e (by simp)
      have old : ∀ b o, hp.get? b = some o → G'.get? b = some o := fun b o z => (gk b (Nat.ne_of_lt (Nat.lt_of_lt_of_le (Heap.lt_size z) M.new))).trans (M.keep b o z)
      have ob : ObjOk X.prog X.w (upd H1 d (.xd [(f, v), (g, u)])) G' d (.xd [(f, v), (g, u)]) :=
        ⟨_, hns.at (fun o z => (gk d M.dne).trans z), fun y => relO_two T.nm.gf rv ru y⟩
      have J : Inv X pins σ (upd H1 d (.xd [(f, v), (g, u)])) ⟨G', g0, dr, tk', os⟩ := I1.laid (t' := tk') old M.dbig ob
      refine ⟨e, oe, fv, ⟨G', g0, dr, tk', os⟩, _, .ref C, some d, rfl, J, fun b o z => ?_, ge, hoe, ⟨hc, hd⟩, hdat, h1, ?_, rfl, I1.bare, raises_own T.ox.exC T.ox.tyC, q1 d (I1.hok.fresh M.dbig)⟩
      · by_cases hb : b = e
        · have z' : G'.get? b = some o := z
          rw [hb, ge] at z'; cases z'
        · exact (gk b hb).symm.trans z
      · rw [upd_ne (Ne.symm M.dne)]
        exact I1.hok.fresh M.new
/-- raise E(e, e2) -/
def tRaise2 (C : Addr) (f g : Str) (W : WX) (ta : TA) : TS := fun _ σ H => tMk2 C f g ta σ H fun cls d H' => W cls d σ H'
theorem ps_raise2 {a b : Expr} {ta : TA} {W : WX} {p pos pos2 : Pos} {k : Nat} (hc : X.calm = true) (T : Sup.Err2 X.prog X.K X.mg x f g C fI) (hr : Room k X.A) (tk : Takes X W) (ha : PA X [a, b] ta) (hg : Gl X x := by rfl) (hdb : (x == ("__debug__" : Str)) = false := by decide)
    (hs : starEach (a :: [b]) X.env = (false, eval a X.env) :: starEach [b] X.env := by rfl) (hpl : (backTo pos (starEach [b] X.env)).any (·.1) = false := by rfl) :
    PS X (.Raise (some (.Call (.Name x p) [a, b] [] pos)) none pos2) (tRaise2 C f g W ta) := ps_raise hc tk (pmk_2 T hr ha hg hdb hs hpl)
end
end L2
/-! Values of other kinds, ints shown, what stays where the pen and the tables change. -/
namespace My
open PySem PySem.Spec PyProof.Rows L2
/-! ### values of other kinds -/
/-- the built-in kind of a value -/
inductive Ty0 (H : Hp) : V → String → Prop where
  | non : Ty0 H .non "NoneType"
  | bl (b : Bool) : Ty0 H (.bl b) "bool"
  | int (i : Int) : Ty0 H (.int i) "int"
  | str (x : Str) : Ty0 H (.str x) "str"
  | lst {a : Addr} {xs : List V} (e : H a = some (.lst xs)) : Ty0 H (.ref a) "list"
  | tup {a : Addr} {xs : List V} (e : H a = some (.tup xs)) : Ty0 H (.ref a) "tuple"
  | dK {a : Addr} {kvs : List (Key × V)} (e : H a = some (.dK kvs)) : Ty0 H (.ref a) "dict"
theorem Ty0.tyx {K : PySem.W.Frag} {H : Hp} {v : V} {t : String} (h : Ty0 H v t) : TyX K H v (.type t) := by
  cases h with
  | non => exact .base .non
  | bl b => exact .base (.bl b)
  | int i => exact .base (.int i)
  | str x => exact .base (.str x)
  | lst e => exact .base (.lst e)
  | tup e => exact .base (.tup e)
  | dK e => exact .base (.dK e)
def isI : V → Bool
  | .int _ => true
  | _ => false
theorem isI_int {v : V} (h : isI v = true) : ∃ i, v = .int i := by
  cases v with
  | int i => exact ⟨i, rfl⟩
  | _ => cases h
def isT (t : String) : Bool := t == "int"
theorem Ty0.isI {H : Hp} {v : V} {t : String} (h : Ty0 H v t) : My.isI v = isT t := by cases h <;> rfl
theorem Ty0.kint {K : PySem.W.Frag} {H : Hp} {v : V} {t : String} (h : Ty0 H v t) : ∃ b, PySem.W.kitOne K (.type t) (.type "int") = some b ∧ (b = true → ∃ c, PySem.W.kitOne K (.type t) (.type "bool") = some c ∧ My.isI v = !c) ∧ (b = false → My.isI v = false) := by
  cases h with
  | non => exact ⟨false, kit_ty (by decide +kernel), (fun z => Bool.noConfusion z), fun _ => rfl⟩
  | bl b => exact ⟨true, kit_ty (by decide +kernel), fun _ => ⟨true, kit_ty (by decide +kernel), rfl⟩, (fun z => Bool.noConfusion z)⟩
  | int i => exact ⟨true, kit_ty (by decide +kernel), fun _ => ⟨false, kit_ty (by decide +kernel), rfl⟩, (fun z => Bool.noConfusion z)⟩
  | str x => exact ⟨false, kit_ty (by decide +kernel), (fun z => Bool.noConfusion z), fun _ => rfl⟩
  | lst e => exact ⟨false, kit_ty (by decide +kernel), (fun z => Bool.noConfusion z), fun _ => rfl⟩
  | tup e => exact ⟨false, kit_ty (by decide +kernel), (fun z => Bool.noConfusion z), fun _ => rfl⟩
  | dK e => exact ⟨false, kit_ty (by decide +kernel), (fun z => Bool.noConfusion z), fun _ => rfl⟩
theorem Ty0.keep {H H' : Hp} {v : V} {t : String} (h : Ty0 H v t) (k : ∀ b o, H b = some o → (∀ p, v = .ref p → p = b → H' b = some o)) : Ty0 H' v t := by
  cases h with
  | non => exact .non
  | bl b => exact .bl b
  | int i => exact .int i
  | str x => exact .str x
  | lst e => exact .lst (k _ _ e _ rfl rfl)
  | tup e => exact .tup (k _ _ e _ rfl rfl)
  | dK e => exact .dK (k _ _ e _ rfl rfl)
theorem Ty0.same {H H' : Hp} {v : V} {t : String} (h : Ty0 H v t) (k : Same H H') : Ty0 H' v t := h.keep fun b o e _ _ _ => k b o e
theorem same_new {H : Hp} {p : Addr} {o : HO} (h : H p = none) : Same H (upd H p o) := fun b u e => by rw [upd_ne (ne_of_none e h)]; exact e
/-- a value of a built-in kind, or an instance of the class at C -/
def TyL (C : Addr) (H : Hp) (v : V) : Prop := (∃ t, Ty0 H v t) ∨ ∃ a dx fs, v = .ref a ∧ H a = some (.ins C dx fs)
theorem TyL.same {C : Addr} {H H' : Hp} {v : V} (h : TyL C H v) (k : Same H H') : TyL C H' v := by
  rcases h with ⟨t, h⟩ | ⟨a, dx, fs, e, h⟩
  · exact .inl ⟨t, h.same k⟩
  · exact .inr ⟨a, dx, fs, e, k _ _ h⟩
theorem TyL.int (C : Addr) (H : Hp) (i : Int) : TyL C H (.int i) := .inl ⟨_, .int i⟩
theorem pen_ne {H : Hp} {pn l : Addr} {n : Nat} (hp : PenAt H pn n) (hl : H l = none) : l ≠ pn := by
  obtain ⟨cl, ns, a, r, g1, _⟩ := hp
  exact (ne_of_none g1 hl).symm
theorem but_same {pn : Addr} {H H' : Hp} (s : Same H H') : But pn H H' := fun b o e _ => s b o e
theorem pen_same {pn : Addr} {H H' : Hp} {n : Nat} (hp : PenAt H pn n) (k : Same H H') : PenAt H' pn n := by
  obtain ⟨cl, ns, a, r, g1, g2, g3⟩ := hp
  exact ⟨cl, ns, a, r, k _ _ g1, k _ _ g2, g3⟩
theorem mem_ints {v : V} {zs : List Int} (h : v ∈ zs.map V.int) : ∃ z, v = .int z ∧ z ∈ zs := by
  obtain ⟨z, hz, e⟩ := List.mem_map.mp h
  exact ⟨z, e.symm, hz⟩
theorem num_len {i : Int} (h : i.natAbs.log2 < 1920) : ((toString i : String) : Str).length ≤ 1921 := by
  have e := int_text_length_le (k := 1920) (by decide) h
  show (Str.ofString (toString i)).length ≤ 1921
  rw [PySem.ofString_length]
  exact e
theorem app_len (x y : Str) : (x ++ y).length = x.length + y.length := PySem.Str.length_append x y
/-- an int of less than 300 bits -/
def Sm (z : Int) : Prop := z.natAbs < 2 ^ 300
theorem Sm.mul {a b : Int} {i j : Nat} (ha : a.natAbs < 2 ^ i) (hb : b.natAbs < 2 ^ j) (h0 : 0 < i := by decide) (h1 : 0 < j := by decide) (h : i + j ≤ 1000000 := by decide) : CMulW a b := wide_mul ha hb h0 h1 h
theorem Sm.log {z : Int} (h : Sm z) : z.natAbs.log2 < 1920 := Nat.lt_of_lt_of_le (PySem.Flt.log2_lt_of (k := 300) (by decide) h) (by decide)
theorem shown_sum : ∀ (ns : List Int), (∀ z ∈ ns, z.natAbs.log2 < 1920) → ((PyData.shownAll (ns.map PyData.int)).map (·.length)).sum ≤ 1921 * ns.length ∧ (PyData.shownAll (ns.map PyData.int)).length = ns.length
  | [], _ => ⟨Nat.le_refl _, rfl⟩
  | n :: ns, h => by
    obtain ⟨h1, h2⟩ := shown_sum ns fun z hz => h z (List.mem_cons_of_mem _ hz)
    have e2 := num_len (h n List.mem_cons_self)
    refine ⟨?_, ?_⟩
    · show ((toString n : String) : Str).length + ((PyData.shownAll (ns.map PyData.int)).map (·.length)).sum ≤ 1921 * (ns.length + 1)
      omega
    · show (PyData.shownAll (ns.map PyData.int)).length + 1 = ns.length + 1
      omega
theorem showable_ints : ∀ (ns : List Int), (∀ z ∈ ns, z.natAbs.log2 < 1920) → PyData.showableAll (ns.map PyData.int) = true
  | [], _ => rfl
  | n :: ns, h => by
    show (decide (n.natAbs.log2 < 1920) && PyData.showableAll (ns.map PyData.int)) = true
    rw [showable_ints ns fun z hz => h z (List.mem_cons_of_mem _ hz), decide_eq_true (h n List.mem_cons_self)]
    rfl
/-- a list of ints shown -/
theorem ints_show {K : PySem.W.Frag} {H : Hp} {l : Addr} (ns : List Int) (hz : ∀ z ∈ ns, z.natAbs.log2 < 1920) (hl : ns.length ≤ 1000) (h : H l = some (.lst (ns.map V.int))) : Dr K H (.ref l) (.list (ns.map PyData.int)) ∧ (PyData.list (ns.map PyData.int)).showable = true ∧ (PyData.list (ns.map PyData.int)).depth ≤ 60 ∧ (PyData.list (ns.map PyData.int)).shown.length ≤ sizeLine := by
  refine ⟨.inl (.lst (SqL.of h) (dp_ints ns)), showable_ints ns hz, ?_, ?_⟩
  · show PyData.depthAll (ns.map PyData.int) + 1 ≤ 60
    rw [dep_ints]
    decide
  · have h1 := listText_len_le (PyData.shownAll (ns.map PyData.int))
    obtain ⟨h2, h3⟩ := shown_sum ns hz
    show (listText (PyData.shownAll (ns.map PyData.int))).length ≤ sizeLine
    rw [sizeLine_eq]
    omega
theorem yes_go {σ : L2.St} {H : Hp} {A B : Hp → Prop} (h : A H) : tYes σ H (fun b H3 => if b = true then A H3 else B H3) := by
  show (if true = true then A H else B H)
  rw [if_pos rfl]
  exact h
theorem take1 {α : Type} {ls : List α} {i : Nat} {y : α} (h : ls[i]? = some y) : ls.take (i + 1) = ls.take i ++ [y] := by rw [List.take_add_one, h]; rfl
theorem at_int {ls : List Int} {i : Nat} {v : V} (h : (ls.map V.int)[i]? = some v) : ∃ y, ls[i]? = some y ∧ v = .int y := by
  rw [List.getElem?_map] at h
  cases e : ls[i]? with
  | none => rw [e] at h; cases h
  | some y => rw [e] at h; cases h; exact ⟨y, rfl, rfl⟩
/-! ### tables of code objects, the pen, and all else -/
/-- all but the pen and the tables stays, the tables are tables -/
structure Kp (pn : Addr) (TS : List (Addr × Str)) (H H' : Hp) : Prop where
  keep : ∀ b o, H b = some o → b ≠ pn → (∀ ps, o ≠ .tbl ps) → H' b = some o
  tabs : LamX.Tabs TS H'
theorem Kp.trans {pn : Addr} {TS : List (Addr × Str)} {H H1 H2 : Hp} (a : Kp pn TS H H1) (b : Kp pn TS H1 H2) : Kp pn TS H H2 := ⟨fun c o h n m => b.keep c o (a.keep c o h n m) n m, b.tabs⟩
theorem tabs_but {pn : Addr} {TS : List (Addr × Str)} {H H' : Hp} {n : Nat} (t : LamX.Tabs TS H) (hp : PenAt H pn n) (k : But pn H H') : LamX.Tabs TS H' := fun p hp' => by
  obtain ⟨ps, h1, h2, h3⟩ := t p hp'
  obtain ⟨cl, ns, a, r, g1, _⟩ := hp
  refine ⟨ps, k _ _ h1 (ne_of h1 g1 (by intro z; cases z)), h2, fun pos cv hc => ?_⟩
  obtain ⟨c, e1, e2⟩ := h3 pos cv hc
  exact ⟨c, e1, k _ _ e2 (ne_of e2 g1 (by intro z; unfold LamX.CodeO at z; cases z))⟩
theorem Kp.but {pn : Addr} {TS : List (Addr × Str)} {H H' : Hp} {n : Nat} (t : LamX.Tabs TS H) (hp : PenAt H pn n) (k : But pn H H') : Kp pn TS H H' := ⟨fun b o h nb _ => k b o h nb, tabs_but t hp k⟩
theorem Kp.same {pn : Addr} {TS : List (Addr × Str)} {H H' : Hp} (t : LamX.Tabs TS H) (k : Same H H') : Kp pn TS H H' := ⟨fun b o h _ _ => k b o h, t.ext k⟩
theorem Kp.ext {pn : Addr} {TS : List (Addr × Str)} {H H' : Hp} (t : LamX.Tabs TS H') (k : LamX.ExtN H H') : Kp pn TS H H' := ⟨fun b o h _ m => k b o h m, t⟩
theorem pen_ext {pn : Addr} {H H' : Hp} {n : Nat} (hp : PenAt H pn n) (k : LamX.ExtN H H') : PenAt H' pn n := by
  obtain ⟨cl, ns, a, r, g1, g2, g3⟩ := hp
  exact ⟨cl, ns, a, r, k _ _ g1 (by intro ps z; cases z), k _ _ g2 (by intro ps z; cases z), g3⟩
/-- a def whose code object stands at c -/
structure FunC (K : PySem.W.Frag) (x qual : Str) (st : Stmt) (f : Addr) (fd : FuncData) (c : Addr) : Prop where
  ex : ∃ (oc : Value) (od : Option Addr) (kV doc pm : Value) (an : Option Addr) (ct : Value) (osl : Array (Option Value)),
    fd = PySem.W.fnOf x qual (defArgs st) (defBody st) (defScope st) .none kV doc pm an (.ref c) ct ∧ K.lookup f = some ⟨oc, od, .func fd, osl⟩ ∧ PySem.W.codeIn K (.ref c) qual = true
  kp : PySem.W.keepIn K (.ref f) = true
theorem okGc {P : Program} {w : World} {K : PySem.W.Frag} {mg : Str → Option Value} {base : Heap} {x qual : Str} {st : Stmt} {f c : Addr} {fd : FuncData} {N ps : List Str} {k : Nat} {sp : Sp} (F : FunC K x qual st f fd c) (S : FnScope N ps (defScope st)) (len : ∀ vs H Q E, sp vs H Q E → vs.length = ps.length)
    (hbody : ∀ (A : Around) (outer : List Env) (s : Shared) (H : Hp) (vs : List V) (Q : VK) (E : XK), A.guards = some [] → Room k (A.deeper (envOfC qual (defScope st) s.heap.objs.size f (.ref c))) → sp vs H Q E →
      ∃ t, PSs (cxOf CX0 P w K mg base N qual (defScope st) f (.ref c) A outer s H E).nox (defBody st) t ∧ t { nx := fun _ H' => Q .non H', rt := Q } (start N vs) H) : FnG P w K mg base CX0 (k + 1) f fd ps sp := by
  obtain ⟨oc, od, kV, doc, pm, an, ct, osl, rfl, lk, hcd⟩ := F.ex
  refine ⟨len, fun A outer s H args us vs Q E hg hr e0 hb r hsp => LamX.run_ofS lk hcd S hr e0 hb r (len _ _ _ _ hsp) fun hr' => ?_⟩
  obtain ⟨t, h, q⟩ := hbody A outer s H vs Q E hg hr' hsp
  exact ⟨t, h.nox, q⟩
theorem ty_ext {H H' : Hp} {v : V} {t : String} (h : Ty0 H v t) (k : LamX.ExtN H H') : Ty0 H' v t := by
  cases h with
  | non => exact .non
  | bl b => exact .bl b
  | int i => exact .int i
  | str x => exact .str x
  | lst e => exact .lst (k _ _ e (by intro ps z; cases z))
  | tup e => exact .tup (k _ _ e (by intro ps z; cases z))
  | dK e => exact .dK (k _ _ e (by intro ps z; cases z))
theorem ext_same {H H' : Hp} (s : Same H H') : LamX.ExtN H H' := fun b o h _ => s b o h
theorem ext_put {Ha Hx : Hp} {lh : Addr} {o : HO} (n : Ha lh = none) (x : LamX.ExtN Ha Hx) : LamX.ExtN Ha (upd Hx lh o) := fun b u e m => by
  rw [upd_ne (ne_of_none e n)]
  exact x b u e m
theorem tabs_put {TS : List (Addr × Str)} {H : Hp} {lh : Addr} {xs : List V} {o : HO} (t : LamX.Tabs TS H) (h : H lh = some (.lst xs)) : LamX.Tabs TS (upd H lh o) := fun p hp => by
  obtain ⟨ps, h1, h2, h3⟩ := t p hp
  refine ⟨ps, by rw [upd_ne (ne_of h1 h (by intro z; cases z))]; exact h1, h2, fun pos cv hc => ?_⟩
  obtain ⟨c, e1, e2⟩ := h3 pos cv hc
  exact ⟨c, e1, by rw [upd_ne (ne_of e2 h (by intro z; unfold LamX.CodeO at z; cases z))]; exact e2⟩
theorem TyL.ext {C : Addr} {H H' : Hp} {v : V} (h : TyL C H v) (k : LamX.ExtN H H') : TyL C H' v := by
  rcases h with ⟨t, h⟩ | ⟨a, dx, fs, e, h⟩
  · exact .inl ⟨t, ty_ext h k⟩
  · exact .inr ⟨a, dx, fs, e, k _ _ h (by intro ps z; cases z)⟩
end My
/-! raise C() of an own error class without own __init__. -/
namespace My
open PySem PySem.Spec PySem.Calls PyProof.Rows L2
section
variable {X : Cx} {C : Addr} {bmB : List Value} {B newId initId : String} {x : Str} {p pos : Pos}
theorem pmk_nil (F : ExcBaseFacts B newId initId bmB) (q : PySem.W.excIn X.K C bmB newId = true) (gC : X.mg x = some (.ref C)) (kC : PySem.W.keepIn X.K (.ref C) = true) (r : Raises X (.ref C)) (hg : Gl X x) (hdb : (x == ("__debug__" : Str)) = false := by decide) :
    PMk X (.Call (.Name x p) [] [] pos) (fun σ H Q => Q (.ref C) none H) := by
  intro pins s σ H Q I h
  refine wpAny_Call_Name_kw (ld_glob I hg gC ?_ hdb)
  refine PySem.W.callWith_K0 (first := []) I.kIn kC ?_
  show wpAny _ _ (call (.ref C) []) _ _ _
  obtain ⟨bm, N, nm, qn, bs, hdct, sn, sub, ab, col, dd, k0, k1, k2, k3, k5, mN, hC, hN, hni, T⟩ := exc_obj I.kIn q
  refine wpAny_call_exc_subT F T hC hN hni (fun h' e hm => ?_) (Nat.zero_le _)
  exact mk_of I hm r h (I.hok.gone hm.new)
end
end My
/-! Several own classes beside one another. -/
namespace My
open PySem PySem.Spec PyProof.Rows L2
/-- an own class whose instances are no ints -/
structure Own (K : PySem.W.Frag) (C : Addr) : Prop where
  cl : Cls K C
  ha : PySem.W.findIn K (.ref C) "__class__" = some (some (.builtin "object.__class__"))
  hn : PySem.W.specialIn K (.builtin "object.__class__") "__get__" = some (some (.builtin "getset_descriptor.__get__"))
  ht : PySem.W.takesIn K (.builtin "object.__class__") = some true
  hm : PySem.W.mroIn K C (.type "object") = some true
  me : PySem.W.kitOne K (.ref C) (.ref C) = some true
  noInt : PySem.W.kitOne K (.ref C) (.type "int") = some false
  kn : ∀ t ∈ ["int", "tuple", "NoneType", "str", "list", "bool", "dict"], PySem.W.kitOne K (.type t) (.ref C) = some false ∧ PySem.W.notFirst K C (.type t) = true
  sf : PySem.W.notFirst K C (.ref C) = true
/-- the family of the own classes -/
structure Fam (K : PySem.W.Frag) (Cs : List Addr) : Prop where
  own : ∀ C ∈ Cs, Own K C
  cross : ∀ C ∈ Cs, ∀ D ∈ Cs, C ≠ D → PySem.W.kitOne K (.ref C) (.ref D) = some false ∧ PySem.W.notFirst K D (.ref C) = true
/-- a value of a built-in kind, or an instance of the family -/
def AnyF (Cs : List Addr) (H : Hp) (v : V) : Prop := (∃ t, Ty0 H v t) ∨ ∃ C ∈ Cs, ∃ a dx fs, v = .ref a ∧ H a = some (.ins C dx fs)
theorem AnyF.same {Cs : List Addr} {H H' : Hp} {v : V} (h : AnyF Cs H v) (k : Same H H') : AnyF Cs H' v := by
  rcases h with ⟨t, h⟩ | ⟨C, hC, a, dx, fs, e, h⟩
  · exact .inl ⟨t, h.same k⟩
  · exact .inr ⟨C, hC, a, dx, fs, e, k _ _ h⟩
theorem AnyF.ext {Cs : List Addr} {H H' : Hp} {v : V} (h : AnyF Cs H v) (k : LamX.ExtN H H') : AnyF Cs H' v := by
  rcases h with ⟨t, h⟩ | ⟨C, hC, a, dx, fs, e, h⟩
  · exact .inl ⟨t, ty_ext h k⟩
  · exact .inr ⟨C, hC, a, dx, fs, e, k _ _ h (by intro ps z; cases z)⟩
theorem AnyF.int (Cs : List Addr) (H : Hp) (i : Int) : AnyF Cs H (.int i) := .inl ⟨_, .int i⟩
theorem Ty0.mem {H : Hp} {v : V} {t : String} (h : Ty0 H v t) : t ∈ ["int", "tuple", "NoneType", "str", "list", "bool", "dict"] := by cases h <;> decide
theorem Own.ty {K : PySem.W.Frag} {C : Addr} (h : Own K C) {H : Hp} {a dx : Addr} {fs : List (Str × V)} (e : H a = some (.ins C dx fs)) : TyX K H (.ref a) (.ref C) := .base (.ins e h.cl h.ha h.hn h.ht h.hm)
/-- isinstance(v, D) and how v stands beside a D -/
theorem Fam.isi {K : PySem.W.Frag} {Cs : List Addr} (F : Fam K Cs) {D : Addr} (hD : D ∈ Cs) {H : Hp} {v : V} (h : AnyF Cs H v) (no : ∀ a dx fs, v = .ref a → H a ≠ some (.ins D dx fs)) : ∃ t, TyX K H v t ∧ PySem.W.kitOne K t (.ref D) = some false ∧ PySem.W.notFirst K D t = true := by
  rcases h with ⟨t, h⟩ | ⟨C, hC, a, dx, fs, rfl, h⟩
  · exact ⟨_, h.tyx, ((F.own D hD).kn t h.mem).1, ((F.own D hD).kn t h.mem).2⟩
  · have ne : C ≠ D := fun z => no a dx fs rfl (by rw [← z]; exact h)
    exact ⟨_, (F.own C hC).ty h, (F.cross C hC D hD ne).1, (F.cross C hC D hD ne).2⟩
/-- isinstance(v, int), and of a bool -/
theorem Fam.kint {K : PySem.W.Frag} {Cs : List Addr} (F : Fam K Cs) {H : Hp} {v : V} (h : AnyF Cs H v) : ∃ t b, TyX K H v t ∧ PySem.W.kitOne K t (.type "int") = some b ∧ (b = true → ∃ c, PySem.W.kitOne K t (.type "bool") = some c ∧ My.isI v = !c) ∧ (b = false → My.isI v = false) := by
  rcases h with ⟨t, h⟩ | ⟨C, hC, a, dx, fs, rfl, h⟩
  · obtain ⟨b, e⟩ := h.kint (K := K)
    exact ⟨_, b, h.tyx, e⟩
  · exact ⟨_, false, (F.own C hC).ty h, (F.own C hC).noInt, (fun z => Bool.noConfusion z), fun _ => rfl⟩
/-- an error of the class C with the field f = v -/
def Errs (E : XK) (C : Addr) (f : Str) (v : V) (H : Hp) : Prop := ∀ (d : Addr) (H' : Hp), H d = none → H' d = some (.xd [(f, v)]) → Same H H' → E (.ref C) (some d) H'
theorem Errs.go {E : XK} {C : Addr} {f : Str} {v : V} {H : Hp} (h : Errs E C f v H) {d : Addr} (hd : H d = none) : E (.ref C) (some d) (upd H d (.xd [(f, v)])) := h d _ hd upd_same (same_new hd)
theorem Errs.up {E : XK} {C : Addr} {f : Str} {v : V} {H H1 : Hp} (h : Errs E C f v H) (s : Same H H1) : Errs E C f v H1 := fun d H' hd hx s' => h d H' (s.free hd) hx (s.trans s')
/-- is_whole(v) -/
def spWh (Cs : List Addr) : Sp := fun vs H Q _ => ∃ (v : V), vs = [v] ∧ AnyF Cs H v ∧ Q (.bl (isI v)) H
end My
/-! For the end: generator methods, properties that reckon, errors of two fields, a family of two. -/
namespace My
open PySem PySem.Spec PyProof.Rows L2 He
/-- the class has the property -/
structure HasP (K : PySem.W.Frag) (C : Addr) (x qual : Str) (st : Stmt) : Prop where
  ex : ∃ p g fd, PropOf K C x p g ∧ Fun K x qual st g fd
section
variable {P : Program} {w : World} {K : PySem.W.Frag} {mg : Str → Option Value} {base : Heap} {CX : CXT} {k : Nat} {x y m qual : Str} {st : Stmt} {ps ks : List Str} {sp : Sp} {C : Addr} {dvs : List V}
theorem propR_at (A : HasP K C x qual st) (ok : ∀ f fd, Fun K x qual st f fd → FnOk P w K mg base CX k f fd ["self"] sp) (b : BindW x qual st ["self"]) : PropR P w K mg base CX k C x sp := by
  obtain ⟨p, g, fd, h1, F⟩ := A.ex
  exact ⟨p, g, fd, h1, ok g fd F, F.binds b⟩
theorem gmeth_at {sp : SpGn} (A : HasM K C m qual st) (ok : ∀ (f : Addr) (oc : Value) (od : Option Addr) (kV doc pm : Value) (an : Option Addr) (cdv ct : Value) (osl : Array (Option Value)), K.lookup f = some ⟨oc, od, .func (PySem.W.fnOf m qual (defArgs st) (defBody st) (defScope st) .none kV doc pm an cdv ct), osl⟩ → PySem.W.codeIn K cdv qual = true →
    GDef P w K mg base k f (PySem.W.fnOf m qual (defArgs st) (defBody st) (defScope st) .none kV doc pm an cdv ct) ["self"] sp) (b : BindW m qual st ["self"]) : GMeth P w K mg base k C m sp := by
  obtain ⟨f, fd, h1, h2, F⟩ := A.ex
  have F' := F
  have kp := F.kp
  obtain ⟨oc, od, kV, doc, pm, an, cdv, ct, osl, rfl, lk, hcd⟩ := F.ex
  exact ⟨f, _, ⟨h1, h2, kp⟩, ok f _ _ _ _ _ _ _ _ _ lk hcd, F'.binds b⟩
end
theorem fam2 {K : PySem.W.Frag} {a b : Addr} (oa : Own K a) (ob : Own K b) (ab : PySem.W.kitOne K (.ref a) (.ref b) = some false ∧ PySem.W.notFirst K b (.ref a) = true) (ba : PySem.W.kitOne K (.ref b) (.ref a) = some false ∧ PySem.W.notFirst K a (.ref b) = true) : Fam K [a, b] := by
  refine ⟨fun C hC => ?_, fun C hC D hD ne => ?_⟩
  · simp only [List.mem_cons, List.mem_nil_iff, or_false] at hC
    rcases hC with rfl | rfl <;> assumption
  · simp only [List.mem_cons, List.mem_nil_iff, or_false] at hC hD
    rcases hC with rfl | rfl <;> rcases hD with rfl | rfl
    · exact absurd rfl ne
    · exact ab
    · exact ba
    · exact absurd rfl ne
theorem nm2_what_most : Sup.Nm2 "what" "most" := ⟨by decide, by decide, by decide, by decide, by decide, by decide, by decide, by decide, by decide, by decide, fun _ _ _ _ _ _ _ _ _ _ _ _ _ _ => rfl⟩
section
variable {K : PySem.W.Frag} {h : Heap} {mg : Str → Option Value}
theorem hasPM {C : Addr} {x qual : Str} {st : Stmt} (e : fv K (pAt K C x) = some (x, qual, defArgs st, .stmts (defBody st), defScope st)) (c : (propB K C x && fdB K (pAt K C x) qual []) = true) : HasP K C x qual st := by
  obtain ⟨c1, c2⟩ := ba c
  obtain ⟨fd, F⟩ := funM e c2
  exact ⟨_, _, fd, propB_ok c1, F⟩
/-- an error of two fields -/
def err2B (P : Program) (K : PySem.W.Frag) (x f g qual : Str) : Bool := err1B P K x f qual && eqO (PySem.W.findIn K (.ref (ga K x)) g) (some none)
theorem err2_ok {P : Program} (X : K.In h) (G : h.Ns mainGlobals mg) {x f g qual : Str} {st : Stmt} (nm : Sup.Nm2 f g) (c : err2B P K x f g qual = true) (e : fv K (ma K (ga K x) "__init__") = (some (("__init__" : Str), qual, defArgs st, FuncBody.stmts (defBody st), defScope st) : FV))
    (ha : ∃ p1 p2 p3, defArgs st = Sup.a2 f g p1 p2 p3) (hb : ∃ q1 q2 q3 q4 q7 q5 q6 r1 r2 r3 r4 t1 t2 t3 t4, defBody st = Sup.b2 f g q1 q2 q3 q4 q7 q5 q6 r1 r2 r3 r4 t1 t2 t3 t4 ∧ (q3.endLine == q5.line) = true) (hs : defScope st = Sup.s2 f g) (top : (P.main.scope.names.lookup ("super" : Str)).isSome = false) :
    Sup.Err2 P K mg x f g (ga K x) (ma K (ga K x) "__init__") := by
  obtain ⟨c, c0⟩ := ba c
  obtain ⟨c1, c⟩ := ba c
  obtain ⟨c2, c⟩ := ba c
  obtain ⟨c3, c⟩ := ba c
  obtain ⟨c4, c⟩ := ba c
  obtain ⟨c5, c⟩ := ba c
  obtain ⟨c6, c⟩ := ba c
  obtain ⟨c7, c⟩ := ba c
  obtain ⟨c8, c⟩ := ba c
  obtain ⟨c9, c⟩ := ba c
  obtain ⟨c10, c⟩ := ba c
  obtain ⟨c11, c⟩ := ba c
  obtain ⟨c12, c13⟩ := ba c
  obtain ⟨oc, od, doc, pm, an, cda, ct, cc, osl, lk, hcd, hcell⟩ := fdC_ok e c7
  obtain ⟨p1, p2, p3, ha⟩ := ha
  obtain ⟨q1, q2, q3, q4, q7, q5, q6, r1, r2, r3, r4, t1, t2, t3, t4, hb, hq⟩ := hb
  have hf := fileB_ok c8
  rw [cAt_eq lk rfl] at hf
  rw [ha, hb, hs] at lk
  obtain ⟨ccl, cdd, vs, ccs, file, tf, f1, f2, f3⟩ := hf
  exact ⟨glo_ok X G c1, excO_ok c2, xfB_ok c3, eqO_ok c4, eqO_ok c0, nm, eqO_ok c5, of_decide_eq_true c6, ⟨qual, oc, od, doc, pm, an, cda, ct, cc, osl, p1, p2, p3, q1, q2, q3, q4, q7, q5, q6, r1, r2, r3, r4, t1, t2, t3, t4, lk, hcd, hcell, ccl, cdd, vs, ccs, file, tf, f1, f2, f3, hq⟩, eqO_ok c9, of_decide_eq_true c10, of_decide_eq_true c11, free_ok X G c12, eqO_ok c13, top⟩
/-- C.f is this constant -/
theorem valM1 {C : Addr} {f : Str} {v : Dv} (c : (creadB K C && cvalB K C f v) = true) : ∃ mc u, ClX.CRead K C mc ∧ ClX.CVal K C mc f (v.v K) u := by
  obtain ⟨c1, c2⟩ := ba c
  obtain ⟨u, h⟩ := cvalB_ok c2
  exact ⟨_, u, creadB_ok c1, h⟩
end
end My
/-! super().m(x) in a def of an own class, the method found being a def of an own class too. -/
namespace SupM
open PySem PySem.Spec PySem.W PySem.Calls PyProof.Rows L2 ClX
/-- what the top has of super().m in the class C: the def at f2 -/
structure SupOf (P : Program) (K : PySem.W.Frag) (mg : Str → Option Value) (C f2 : Addr) (m : Str) : Prop where
  cd : ∃ cd, clsIn K C = some cd
  sC : mroIn K C (.ref C) = some true
  su : ks_superIn K C C m = some (some (.ref f2))
  tI : typeIn K (.ref f2) = some (.type "function")
  fi : fnIn K f2 = true
  gS : mg "super" = none
  oq : nsIn K cStatics "thirdparty.any" = some none
  top : (P.main.scope.names.lookup ("super" : Str)).isSome = false
/-- .. and of the def at f that says it: its closure, its code object -/
structure SaysS (P : Program) (K : PySem.W.Frag) (C f cda cc : Addr) (fd : FuncData) : Prop where
  lk : ∃ oc od osl, K.lookup f = some ⟨oc, od, .func fd, osl⟩
  cell : ∃ cl cld csl, K.lookup cc = some ⟨cl, cld, .cell (some (.ref C)), csl⟩
  code : ∃ ccl cdd vs ccs file tf, K.lookup cda = some ⟨ccl, cdd, .fields vs, ccs⟩ ∧ vs[2]? = some (.str file tf) ∧ ((P.main.file : Str) == file) = true
/-- the running context is that of such a def -/
structure InS (X : Cx) (C f cda cc : Addr) (fd : FuncData) : Prop where
  says : SaysS X.prog X.K C f cda cc fd
  fn : X.env.func = some f
  code : X.env.code = .ref cda
  cell : X.env.cells.lookup ("__class__" : Str) = some cc
  ks : X.env.scope.names.lookup ("super" : Str) = some .globalImplicit
  kc : X.env.scope.names.lookup ("__class__" : Str) = some .free
  kk : X.env.scope.names.lookup ("self" : Str) = some .local
  hp : ∃ ar, (fd.params.posonlyargs ++ fd.params.args).head? = some ar ∧ ar.arg = ("self" : Str)
  n0 : X.N[0]? = some ("self" : Str)
def PSsAt (X : Cx) (c : Code) (st : List Stmt) (t : TS) : Prop := ∀ (pins : List (Addr × Obj)) (s : Shared) (σ : L2.St) (H : Hp) (D : Ends), Inv X pins σ H s → t D σ H → PySem.wpAt (model X.prog X.w) X.A c (execs st X.env) (SP X pins D) X.xe s
def tSup (C : Addr) (sp : Sp) (j : Nat) (E : XK) (t : TS) : TS := fun D σ H => ∃ (a : Addr) (dv : V) (dx : Addr) (fs : List (Str × V)), σ[0]? = some (some (.ref a)) ∧ σ[j]? = some (some dv) ∧ H a = some (.ins C dx fs) ∧ sp [.ref a, dv] H (fun _ H' => t D σ H') E
section
variable {X : Cx} {c : Code} {st : Stmt} {rest : List Stmt} {t u : TS}
theorem psat_of (h : PSs X rest t) : PSsAt X c rest t := fun pins s σ H D I q => wpAt_of_wpAny (h.run pins s σ H D I q)
theorem psat_cons (h1 : PS X st t) (h2 : PSsAt X c rest u) : PSsAt X c (st :: rest) (tSeq t u) := fun pins s σ H D I h => by
  refine ks_wpAt_execs_cons (wpAt_of_wpAny (thn (h1.run pins s σ H { D with nx := u D } I h) fun f s1 q => ?_))
  cases f with
  | next =>
    obtain ⟨σ', H', I', q⟩ := q
    exact h2 pins s1 σ' H' D I' q
  | ret v => exact q
  | brk => exact q
  | cont => exact q
/-- super().m(d), and what follows -/
theorem psat_sup {C f f2 cda cc : Addr} {fd : FuncData} {m d : Str} {j k : Nat} {sp : Sp} {CX : CXT} {E : XK} {body : List Stmt} {q1 q2 q3 q4 q5 q6 : Pos} (T : SupOf X.prog X.K X.mg C f2 m) (S : InS X C f cda cc fd) (F : FnR X.prog X.w X.K X.mg X.base CX k f2 sp) (hr : Room k X.A) (hx : Passes CX X E)
    (hm : (m == ("__class__" : Str)) = false) (hq : (q3.endLine == q5.line) = true) (hd : PE X (.Name d q4) (tVar j)) (h : PSsAt X (.func body X.env) rest t) :
    PSsAt X (.func body X.env) (.Expr (.Call (.Attribute (.Call (.Name "super" q1) [] [] q2) m q3) [.Name d q4] [] q5) q6 :: rest) (tSup C sp j E t) := fun pins s σ H D I hw => by
  obtain ⟨a, dv, dx, fs, ha, hdv, hin, hsp⟩ := hw
  obtain ⟨cd, hcd⟩ := T.cd
  obtain ⟨⟨oc, od, osl, lk⟩, ⟨cl, cld, csl, lcell⟩, ccl, cdd, vs, ccs, file, tf, lcode, hvs, hfile⟩ := S.says
  obtain ⟨ar, hp, har⟩ := S.hp
  have KX := I.kIn
  obtain ⟨oD, hD1, hD2⟩ : ∃ oD, s.heap.get? C = some oD ∧ oD.data = .cls cd := by
    unfold clsIn at hcd
    split at hcd
    · rename_i c d cd' sl ho
      cases hcd
      exact ⟨_, KX _ _ ho, rfl⟩
    · cases hcd
  obtain ⟨_, _, _, hinst, _⟩ := (show ObjOk X.prog X.w H s.heap a (.ins C dx fs) from I.hok a _ hin)
  obtain ⟨mm, hns, hl⟩ := I.loc
  obtain ⟨u, ru, hlook⟩ := hl 0 "self" (.ref a) S.n0 ha (.inl S.kk)
  obtain rfl : u = Value.ref a := ru
  have mself : mm ar.arg = some (.ref a) := by
    rw [har]
    rcases hlook with ⟨_, z⟩ | ⟨z, _⟩
    · exact z
    · rcases z with z | z <;> exact absurd ((show X.env.scope.names.lookup ("self" : Str) = _ from z).symm.trans S.kk) (by simp)
  have hka : X.env.scope.names.lookup ar.arg = some .local := by rw [har]; exact S.kk
  obtain ⟨mb, hb1, hb2⟩ := I.mod.blt
  refine ks_wpAt_execs_cons (ks_wpAt_Expr_any (ks_wpAt_MethodCall (ks_wpAt_super_base S.ks S.kc hm S.fn (KX _ _ lk) rfl hp S.code (KX _ _ lcode) rfl hvs hfile T.top ?_) (Sup.meth_eq hq)) I.quiet)
  refine ks_loadName_global I.ok.kind S.ks (loadGlobal_builtin (by rw [I.ok.glob]; exact I.mod.glob.keeps I.bk) T.gS (by rw [I.ok.blt]; exact hb1.keeps I.bk) ((hb2 _ (by decide +kernel)).trans (by decide +kernel : bootBuiltins "super" = some (.type "super"))) ⟨rfl, ?_⟩)
  refine wpAny_loadName_free I.ok.kind S.kc S.cell ⟨_, KX _ _ lcell, rfl⟩ ?_
  refine wpAny_loadName_local I.ok.kind hka hns mself ?_
  refine ks_wpAny_isType_cls hD1 hD2 ⟨rfl, ?_⟩
  obtain ⟨hh, g, dr, tk, os⟩ := s
  refine ks_wpAny_call_super hD1 hD2 hinst rfl (fun c z => nomatch z) (looks_mroIn KX T.sC) (fun h2 hso k2 => ?_)
  have I2 : Inv X pins σ H ⟨h2, g, dr, tk, os⟩ := I.kept k2
  have X2 := I2.kIn
  have su := T.su
  unfold ks_superIn at su
  rw [hcd] at su
  obtain ⟨of, hof, hofc⟩ : ∃ of, h2.get? f2 = some of ∧ of.cls = .type "function" := by
    have ht' : (X.K.lookup f2).map (·.cls) = some (.type "function") := T.tI
    cases z : X.K.lookup f2 with
    | none => rw [z] at ht'; cases ht'
    | some of => rw [z] at ht'; exact ⟨of, X2 _ _ z, Option.some.inj ht'⟩
  have hne : a ≠ C := fun z => by
    rw [z] at hinst
    have e := hD1.symm.trans hinst
    cases e
    cases hD2
  refine ks_wpAny_getMethod_super hso (looks_opaque X2 T.oq) (l₀ := cd.mro) (fun A Q E s k q => wpAny_bind ((looks_clsIn X2 hcd) A _ E s k (wpAny_pure q))) rfl X2 su hof hofc hne hm ?_
  have I3 := met_new (g := f2) (C := a) I2
  refine callwith_cm I3 (base_none I2 (Nat.le_refl _)) T.fi (thn ((pa_cons hd pa_nil).run q5 _ _ σ H (fun vs H' => vs = [dv] ∧ H' = H) I3 ⟨dv, hdv, rfl, rfl⟩) fun us s3 ⟨vs, H2, I4, rv, q2⟩ => ⟨⟨pin_at I4, I4.kIn⟩, ?_⟩) rfl rfl
  obtain ⟨e1, e2⟩ := q2
  subst e1
  rw [e2] at I4
  exact thn (run_cm F hr hx I4 rv hsp) fun v s4 ⟨v', H5, I5, _, q5⟩ => h pins s4 σ H5 D I5 q5
end
open NdefX in
abbrev nfOf (st : Stmt) (nm qual : Str) (cda cc : Addr) : NF := ⟨nm, qual, defArgs st, defBody st, defScope st, [("__class__", cc)], cda⟩
open NdefX in
/-- a def of a class, its closure being the class alone -/
theorem fn_sup {P : Program} {w : World} {K : PySem.W.Frag} {mg : Str → Option Value} {base : Heap} {CX : CXT} {N ps : List Str} {st : Stmt} {C f cda cc : Addr} {nm qual : Str} {dV kV doc pm ct oc : Value} {an od : Option Addr} {osl : Array (Option Value)} {sp : Sp} {k : Nat}
    (lk : K.lookup f = some ⟨oc, od, .func (ksFn nm qual (defArgs st) (defBody st) (defScope st) dV kV doc pm an (.ref cda) ct cc), osl⟩) (hcd : PySem.W.codeIn K (.ref cda) qual = true) (S : SaysS P K C f cda cc (ksFn nm qual (defArgs st) (defBody st) (defScope st) dV kV doc pm an (.ref cda) ct cc))
    (NS : NScope N ps ["__class__"] (defScope st)) (len : ∀ vs H Q E, sp vs H Q E → vs.length = ps.length)
    (hbody : ∀ (A : Around) (outer : List Env) (s : Shared) (H : Hp) (vs : List V) (Q : VK) (E : XK), Room k (A.deeper (envF (nfOf st nm qual cda cc) f s.heap.objs.size)) → sp vs H Q E →
      ∃ t, PSsAt (ncx CX P w K mg base N (nfOf st nm qual cda cc) f A outer s H E) (.func (defBody st) (envF (nfOf st nm qual cda cc) f s.heap.objs.size)) (defBody st) t ∧ t { nx := fun _ H' => Q .non H', rt := Q } (startF N vs [none]) H) :
    FnOk P w K mg base CX (k + 1) f (ksFn nm qual (defArgs st) (defBody st) (defScope st) dV kV doc pm an (.ref cda) ct cc) ps sp := by
  refine ⟨len, fun A outer s H args us vs Q E hr e0 hb r hsp => ?_⟩
  have hl := len _ _ _ _ hsp
  have KX : K.In s.heap := e0.mod.kin.keeps fun b o e => (e0.bs b o e).1
  have lim : s.heap.NoLimit := e0.mod.nolimit.keeps fun b o e => (e0.bs b o e).1
  obtain ⟨cl, cld, csl, lcell⟩ := S.cell
  refine ks_codeAny_call_defAt hr.depth (KX _ _ lk) rfl lim (PySem.W.codeRec_of KX hcd) rfl hb NS.nocell (fun ⟨n, _⟩ hy => NS.par n (List.of_mem_zip hy).1) (fun h₁ hns kp => ?_) NS.co NS.gen NS.kind
  have hC : CellsAt [(("__class__" : Str), cc)] ["__class__"] [none] s.heap H := by
    have z : ∀ y c, List.lookup y [(("__class__" : Str), cc)] = some c → y = "__class__" ∧ c = cc := fun y c e => by
      have := PySem.mem_of_lookup e
      simp only [List.mem_singleton, Prod.mk.injEq] at this
      exact this
    refine ⟨rfl, fun y c e => ?_, fun x y c e1 e2 => (z x c e1).1.trans (z y c e2).1.symm, fun i y hy => ?_⟩
    · obtain ⟨_, rfl⟩ := z y c e
      exact ⟨(e0.bs _ _ (e0.mod.kin _ _ lcell)).2, _, _, KX _ _ lcell, rfl⟩
    · cases i with
      | zero =>
        cases hy
        exact ⟨cc, by simp [List.lookup], fun v hv => by cases hv⟩
      | succ i => cases hy
  obtain ⟨t, ht, hq⟩ := hbody A outer s H vs Q E (hr.deeper _) hsp
  have I : Inv (ncx CX P w K mg base N (nfOf st nm qual cda cc) f A outer s H E) [] (startF N vs [none]) H { s with heap := h₁, toks := s.toks + (ps.zip us).length } := inv_startN NS hr.hd e0 hl r hC hns kp
  refine PySem.wpAt_mono (ht [] _ (startF N vs [none]) H _ I hq) (fun fl s' hs => ?_) fun e s' hs => hs
  have fin : ∀ {σ' : L2.St} {H' : Hp} {v : V} {u : Value}, Inv (ncx CX P w K mg base N (nfOf st nm qual cda cc) f A outer s H E) [] σ' H' s' → L2.RelV v u → Q v H' → CE outer P w H s Q u s' :=
    fun {σ' H' v u} J rv q => ⟨v, H', J.os, J.bare, J.base, J.hok, rv, q⟩
  cases fl with
  | ret u =>
    obtain ⟨v, σ', H', J, rv, q⟩ := hs
    exact fin J rv q
  | next =>
    obtain ⟨σ', H', J, q⟩ := hs
    exact fin (v := V.non) (u := Value.none) J rfl q
  | brk =>
    obtain ⟨_, _, _, q⟩ := hs
    exact False.elim q
  | cont =>
    obtain ⟨_, _, _, q⟩ := hs
    exact False.elim q
end SupM
/-! A def that says super().m(x), from what the top has written. -/
namespace My
open PySem PySem.Spec PyProof.Rows L2 He
/-- a method with its class in its closure, and defaults -/
structure HasX (P : Program) (K : PySem.W.Frag) (C : Addr) (m qual : Str) (st : Stmt) (dvs : List V) : Prop where
  ex : ∃ (f : Addr) (oc : Value) (od : Option Addr) (dV doc pm : Value) (an : Option Addr) (cda : Addr) (ct : Value) (cc : Addr) (osl : Array (Option Value)), PySem.W.findIn K (.ref C) m = some (some (.ref f)) ∧ PySem.W.isFn K (.ref f) = true ∧
    K.lookup f = some ⟨oc, od, .func (PySem.W.ksFn m qual (defArgs st) (defBody st) (defScope st) dV .none doc pm an (.ref cda) ct cc), osl⟩ ∧ PySem.W.codeIn K (.ref cda) qual = true ∧ DflV K dV dvs ∧ SupM.SaysS P K C f cda cc (PySem.W.ksFn m qual (defArgs st) (defBody st) (defScope st) dV .none doc pm an (.ref cda) ct cc)
def fdXB (K : PySem.W.Frag) (a : Addr) (qual : Str) (C : Addr) (dvs : List V) : Bool := match K.lookup a with
  | some ⟨_, _, .func fd, _⟩ => decide (fd.globals = mainGlobals) && (decide (fd.builtins = builtinsNs) && (PySem.W.codeIn K fd.code qual && (dflB K fd.defaults dvs && (decide (fd.kwdefaults = .none) && (match fd.closure with
    | [(x, cc)] => decide (x = ("__class__" : Str)) && (match K.lookup cc with
      | some ⟨_, _, .cell (some (.ref C')), _⟩ => decide (C' = C)
      | _ => false)
    | _ => false)))))
  | _ => false
theorem fdXB_ok {K : PySem.W.Frag} {a C : Addr} {nm qual : Str} {st : Stmt} {dvs : List V} (e : fv K a = some (nm, qual, defArgs st, .stmts (defBody st), defScope st)) (h : fdXB K a qual C dvs = true) : ∃ oc od dV doc pm an cda ct cc osl,
    K.lookup a = some ⟨oc, od, .func (PySem.W.ksFn nm qual (defArgs st) (defBody st) (defScope st) dV .none doc pm an (.ref cda) ct cc), osl⟩ ∧ PySem.W.codeIn K (.ref cda) qual = true ∧ DflV K dV dvs ∧ ∃ cl cld csl, K.lookup cc = some ⟨cl, cld, .cell (some (.ref C)), csl⟩ := by
  unfold fv at e
  unfold fdXB at h
  cases q : K.lookup a with
  | none => rw [q] at h; cases h
  | some o =>
    obtain ⟨oc, od, dt, osl⟩ := o
    rw [q] at h e
    cases dt with
    | func fd =>
      obtain ⟨n1, n2, n3, n4, n5, n6, n7, n8, n9, n10, n11, n12, n13, n14, n15⟩ := fd
      have e2 : (some (n1, n2, n3, n4, n5) : FV) = some (nm, qual, defArgs st, .stmts (defBody st), defScope st) := e
      simp only [Option.some.injEq, Prod.mk.injEq] at e2
      obtain ⟨h1, h2, h3, h4, h5⟩ := e2
      subst h1 h2 h3 h4 h5
      obtain ⟨k1, h⟩ := ba h
      obtain ⟨k2, h⟩ := ba h
      obtain ⟨k4, h⟩ := ba h
      obtain ⟨k5, h⟩ := ba h
      obtain ⟨k6, k7⟩ := ba h
      have l1 : n6 = mainGlobals := of_decide_eq_true k1
      have l2 : n15 = builtinsNs := of_decide_eq_true k2
      have l6 : n9 = Value.none := of_decide_eq_true k6
      subst l1 l2 l6
      obtain ⟨cda, l4⟩ := codeIn_ref k4
      have l4 : n13 = Value.ref cda := l4
      subst l4
      match n7, k7 with
      | [(x, cc)], k7 =>
        obtain ⟨m1, m2⟩ := ba k7
        have m1 : x = ("__class__" : Str) := of_decide_eq_true m1
        subst m1
        refine ⟨oc, od, n8, n10, n11, n12, cda, n14, cc, osl, rfl, k4, dflB_ok k5, ?_⟩
        cases q2 : K.lookup cc with
        | none => rw [q2] at m2; cases m2
        | some o2 =>
          obtain ⟨cl, cld, cdt, csl⟩ := o2
          rw [q2] at m2
          cases cdt with
          | cell v =>
            match v, m2 with
            | some (.ref C'), m2 =>
              have m3 : C' = C := of_decide_eq_true m2
              subst m3
              exact ⟨cl, cld, csl, rfl⟩
          | _ => cases m2
    | _ => cases h
theorem hasXM {P : Program} {K : PySem.W.Frag} {C : Addr} {m qual : Str} {st : Stmt} {dvs : List V} (e : fv K (ma K C m) = some (m, qual, defArgs st, .stmts (defBody st), defScope st)) (c : (fnB K C m && (fdXB K (ma K C m) qual C dvs && fileB P K (ma K C m))) = true) : HasX P K C m qual st dvs := by
  obtain ⟨c1, c2⟩ := ba c
  obtain ⟨c3, c4⟩ := ba c1
  obtain ⟨c5, c6⟩ := ba c2
  obtain ⟨oc, od, dV, doc, pm, an, cda, ct, cc, osl, lk, hcd, hd, hcell⟩ := fdXB_ok e c5
  have hf := fileB_ok c6
  rw [cAt_eq lk rfl] at hf
  exact ⟨_, oc, od, dV, doc, pm, an, cda, ct, cc, osl, eqO_ok c3, c4, lk, hcd, hd, ⟨oc, od, osl, lk⟩, hcell, hf⟩
/-- what the top has of super().m in a class -/
def supB (K : PySem.W.Frag) (C f2 : Addr) (m : Str) : Bool := (PySem.W.clsIn K C).isSome && (decide (PySem.W.mroIn K C (.ref C) = some true) && (eqO (PySem.W.ks_superIn K C C m) (some (some (.ref f2))) && (decide (PySem.W.typeIn K (.ref f2) = some (.type "function")) && (PySem.W.fnIn K f2 &&
  ((Fa.free "super").ok K && eqO (PySem.W.nsIn K cStatics "thirdparty.any") (some none))))))
theorem supB_ok {P : Program} {K : PySem.W.Frag} {h : Heap} {mg : Str → Option Value} (X : K.In h) (G : h.Ns mainGlobals mg) {C f2 : Addr} {m : Str} (c : supB K C f2 m = true) (top : (P.main.scope.names.lookup ("super" : Str)).isSome = false) : SupM.SupOf P K mg C f2 m := by
  obtain ⟨c1, c⟩ := ba c
  obtain ⟨c2, c⟩ := ba c
  obtain ⟨c3, c⟩ := ba c
  obtain ⟨c4, c⟩ := ba c
  obtain ⟨c5, c⟩ := ba c
  obtain ⟨c6, c7⟩ := ba c
  exact ⟨Option.isSome_iff_exists.mp c1, of_decide_eq_true c2, eqO_ok c3, of_decide_eq_true c4, c5, free_ok X G c6, eqO_ok c7, top⟩
section
variable {P : Program} {w : World} {K : PySem.W.Frag} {mg : Str → Option Value} {base : Heap} {CX : CXT} {k : Nat} {x qual : Str} {st : Stmt} {ps : List Str} {sp : Sp} {C : Addr} {dvs : List V}
/-- C(e, ..): n values are written, the defaults behind the first j fill up -/
theorem makeX_at (n j : Nat) (A : HasX P K C "__init__" qual st dvs) (hx : mg x = some (.ref C)) (mk : PySem.W.makesIn K C = true) (kp : PySem.W.keepIn K (.ref C) = true)
    (ok : ∀ (f : Addr) (oc : Value) (od : Option Addr) (dV doc pm : Value) (an : Option Addr) (cda : Addr) (ct : Value) (cc : Addr) (osl : Array (Option Value)), K.lookup f = some ⟨oc, od, .func (PySem.W.ksFn "__init__" qual (defArgs st) (defBody st) (defScope st) dV .none doc pm an (.ref cda) ct cc), osl⟩ → PySem.W.codeIn K (.ref cda) qual = true → SupM.SaysS P K C f cda cc (PySem.W.ksFn "__init__" qual (defArgs st) (defBody st) (defScope st) dV .none doc pm an (.ref cda) ct cc) →
      FnOk P w K mg base CX k f (PySem.W.ksFn "__init__" qual (defArgs st) (defBody st) (defScope st) dV .none doc pm an (.ref cda) ct cc) ps sp) (hd : dvs ≠ []) (hn : n + (dvs.length - j) = ps.length)
    (b : ∀ (T : Addr) (doc pm : Value) (an : Option Addr) (cda : Addr) (ct : Value) (cc : Addr) (us its : List Value), us.length = n → its.length = dvs.length →
      ∃ k, bindArgs (PySem.W.ksFn "__init__" qual (defArgs st) (defBody st) (defScope st) (.ref T) .none doc pm an (.ref cda) ct cc) ⟨us, []⟩ = seqItems? (.ref T) >>= k ∧ k (some its.toArray) = pure (ps.zip (us ++ its.drop j))) : MakeAt P w K mg base CX k x C ps sp (dvs.drop j) := by
  obtain ⟨f, oc, od, dV, doc, pm, an, cda, ct, cc, osl, h1, h2, lk, hcd, hD, S⟩ := A.ex
  rcases hD with ⟨e, _⟩ | ⟨_, T, o, its, m, rfl, lT, oT, rT⟩
  · exact absurd e hd
  · refine ⟨f, _, its.drop j, ⟨mk, h1, h2, kp⟩, ok f oc od _ doc pm an cda ct cc osl lk hcd S, hx, fun s us X hlen => ?_, rT.drop j⟩
    have l1 : its.length = dvs.length := rT.length.symm
    have l2 : us.length = n := by
      rw [List.length_append, List.length_drop, l1] at hlen
      omega
    obtain ⟨k, e1, e2⟩ := b T doc pm an cda ct cc us its l2 l1
    refine BindsTo.of_looks fun M => ?_
    rw [e1]
    exact looks_items X lT oT (.of_pure e2)
/-- the same where no default stands -/
theorem makeX_no (A : HasX P K C "__init__" qual st []) (hx : mg x = some (.ref C)) (mk : PySem.W.makesIn K C = true) (kp : PySem.W.keepIn K (.ref C) = true)
    (ok : ∀ (f : Addr) (oc : Value) (od : Option Addr) (dV doc pm : Value) (an : Option Addr) (cda : Addr) (ct : Value) (cc : Addr) (osl : Array (Option Value)), K.lookup f = some ⟨oc, od, .func (PySem.W.ksFn "__init__" qual (defArgs st) (defBody st) (defScope st) dV .none doc pm an (.ref cda) ct cc), osl⟩ → PySem.W.codeIn K (.ref cda) qual = true → SupM.SaysS P K C f cda cc (PySem.W.ksFn "__init__" qual (defArgs st) (defBody st) (defScope st) dV .none doc pm an (.ref cda) ct cc) →
      FnOk P w K mg base CX k f (PySem.W.ksFn "__init__" qual (defArgs st) (defBody st) (defScope st) dV .none doc pm an (.ref cda) ct cc) ps sp)
    (b : ∀ (doc pm : Value) (an : Option Addr) (cda : Addr) (ct : Value) (cc : Addr) (us : List Value), us.length = ps.length → bindArgs (PySem.W.ksFn "__init__" qual (defArgs st) (defBody st) (defScope st) .none .none doc pm an (.ref cda) ct cc) ⟨us, []⟩ = pure (ps.zip us)) : MakeAt P w K mg base CX k x C ps sp [] := by
  obtain ⟨f, oc, od, dV, doc, pm, an, cda, ct, cc, osl, h1, h2, lk, hcd, hD, S⟩ := A.ex
  rcases hD with ⟨_, rfl⟩ | ⟨e, _⟩
  · exact ⟨f, _, [], ⟨mk, h1, h2, kp⟩, ok f oc od _ doc pm an cda ct cc osl lk hcd S, hx, .all (b doc pm an cda ct cc), .nil⟩
  · exact absurd rfl e
end
end My
namespace My
open PySem PySem.Spec PyProof.Rows L2
def topS (i : Nat) : Stmt := PySem.Challenge.pw_clipfades_k30_echoes_with_and_without_ta.main.body.getD i (.Pass ⟨0, 0, 0, 0⟩)
abbrev s_pen : Stmt := topS 42
abbrev s_draw : Stmt := topS 43
abbrev s_pick : Stmt := topS 44
theorem sc_pen : FnScope ["_law_script"] ["_law_script"] (defScope s_pen) := ⟨rfl, rfl, rfl, by decide +kernel, rfl, by decide +kernel, by decide +kernel⟩
theorem sc_draw : FnScope ["_law_pen_here", "_law_many", "_law_digit", "_law_at", "_law_cell", "_law_great", "_law_mixed"] ["_law_pen_here", "_law_many"] (defScope s_draw) := ⟨rfl, rfl, rfl, by decide +kernel, rfl, by decide +kernel, by decide +kernel⟩
theorem sc_pick : FnScope ["_law_pen_here", "_law_some"] ["_law_pen_here", "_law_some"] (defScope s_pick) := ⟨rfl, rfl, rfl, by decide +kernel, rfl, by decide +kernel, by decide +kernel⟩
/-- the pen, its cells at cl -/
def PenC (H : Hp) (pn cl : Addr) (n : Nat) : Prop := ∃ (ns : List Int) (at_ rest : Int), H pn = some (.lst [.ref cl, .int at_, .int rest]) ∧ H cl = some (.lst (ns.map V.int)) ∧ ns.length ≤ 63 ∧ 0 ≤ at_ ∧ at_ ≤ n
theorem PenC.pen {H : Hp} {pn cl : Addr} {n : Nat} (h : PenC H pn cl n) : PenAt H pn n := by
  obtain ⟨ns, a, r, h⟩ := h
  exact ⟨cl, ns, a, r, h⟩
theorem PenAt.cells {H : Hp} {pn : Addr} {n : Nat} (h : PenAt H pn n) : ∃ cl, PenC H pn cl n := by
  obtain ⟨cl, ns, a, r, h⟩ := h
  exact ⟨cl, ns, a, r, h⟩
theorem PenC.put {H : Hp} {pn cl p : Addr} {n : Nat} {o : HO} (h : PenC H pn cl n) (h1 : pn ≠ p) (h2 : cl ≠ p) : PenC (upd H p o) pn cl n := by
  obtain ⟨ns, a, r, e1, e2, h3⟩ := h
  exact ⟨ns, a, r, by rw [upd_ne h1]; exact e1, by rw [upd_ne h2]; exact e2, h3⟩
theorem PenC.same {H H' : Hp} {pn cl : Addr} {n : Nat} (h : PenC H pn cl n) (s : Same H H') : PenC H' pn cl n := by
  obtain ⟨ns, a, r, e1, e2, h3⟩ := h
  exact ⟨ns, a, r, s _ _ e1, s _ _ e2, h3⟩
def spDrawC : Sp := fun vs H Q _ => ∃ (pn cl : Addr) (m : Int) (n : Nat), vs = [.ref pn, .int m] ∧ 0 < m ∧ m.natAbs.log2 < 9000 ∧ PenC H pn cl n ∧ n < 100000 ∧
  ∀ (d : Int) (H' : Hp), 0 ≤ d → d < m → PenC H' pn cl (n + 1) → But pn H H' → Q (.int d) H'
section
variable {P : Program} {w : World} {K : PySem.W.Frag} {mg : Str → Option Value} {base : Heap}
theorem ok_pen {f : Addr} {fd : FuncData} (F : Fun K "_law_pen" "_law_pen" s_pen f fd) (T : BI mg) : FnOk P w K mg base CX0 1 f fd ["_law_script"] (spPen K) := by
  refine F.ok sc_pen (fun vs H Q E h => ?_) (fun cdv A outer s H vs Q E hr h => ?_)
  · obtain ⟨a, ns, rfl, _⟩ := h
    rfl
  · obtain ⟨a, ns, rfl, hS, k⟩ := h
    refine ⟨_, (pss_one (ps_ret (pe_lst (pa_cons (pe_callTy call_list_of (by rfl) T.z_list boot_list (pa_cons (pe_slice sl_list (pv 0) po_none (po_some pe_int)) pa_nil)) (pa_cons pe_int (pa_cons pe_int pa_nil)))))), ?_⟩
    refine ⟨_, rfl, 63, rfl, a, _, rfl, hS, fun p hp => ?_⟩
    refine ⟨p, _, rfl, .inl (SqL.of upd_same), fun l hl => ?_⟩
    refine ⟨(by show 3 ≤ sizeLine; decide), fun pn hpn => ?_⟩
    have npl : p ≠ l := ne_of_none upd_same hl
    have hlp : l ≠ pn := ne_of_none upd_same hpn
    have e1 : cutV (ns.map V.int) none (some 63) = (ns.take 63).map V.int := cut_ints ns 63
    have s0 : Same H (upd (upd (upd H p (.lst (cutV (ns.map V.int) none (some 63)))) l (.lst (cutV (ns.map V.int) none (some 63)))) pn (.lst [.ref l, .int 0, .int 0])) := fun b o z => by
      have z1 : (upd H p (.lst (cutV (ns.map V.int) none (some 63)))) b = some o := by rw [upd_ne (ne_of_none z hp)]; exact z
      have z2 : (upd (upd H p (.lst (cutV (ns.map V.int) none (some 63)))) l (.lst (cutV (ns.map V.int) none (some 63)))) b = some o := by rw [upd_ne (ne_of_none z1 hl)]; exact z1
      rw [upd_ne (ne_of_none z2 hpn)]
      exact z2
    have n1 : H pn = none := by
      cases z : H pn with
      | none => rfl
      | some o =>
        rw [upd_ne (Ne.symm hlp)] at hpn
        by_cases y : pn = p
        · rw [y, hp] at z
          cases z
        · rw [upd_ne y, z] at hpn
          cases hpn
    refine k pn _ n1 ⟨l, ns.take 63, 0, 0, upd_same, ?_, ?_, Int.le_refl _, Int.le_refl _⟩ s0
    · rw [upd_ne hlp, upd_same, e1]
    · rw [List.length_take]
      omega
theorem ok_drawC {f : Addr} {fd : FuncData} (F : Fun K "_law_draw" "_law_draw" s_draw f fd) (T : BI mg) : FnOk P w K mg base CX0 1 f fd ["_law_pen_here", "_law_many"] spDrawC := by
  refine F.ok sc_draw (fun vs H Q E h => ?_) (fun cdv A outer s H vs Q E hr h => ?_)
  · obtain ⟨pn, cl, m, n, rfl, _⟩ := h
    rfl
  · obtain ⟨pn, cl, m, n, rfl, hm, hml, ⟨ns, at_, rest, h1, h2, h3, h4, h5⟩, hn, k⟩ := h
    refine ⟨_, (pss_cons (ps_if (pt_cmpR op_gt (pe_ix ix_list (pv 0) pe_int (fun _ _ => rfl)) pe_int (nomark _)) (pss_cons (ps_set (i := 2) sc_draw.nd rfl (Or.inl rfl) (pe_op op_mod (pe_callTy call_int1 (by rfl) T.z_int boot_int (pa_cons (pe_ix ix_list (pv 0) pe_int (fun _ _ => rfl)) pa_nil)) (pv 1)))
      (pss_cons (ps_asg (pe_op op_fdivW (pe_callTy call_int1 (by rfl) T.z_int boot_int (pa_cons (pe_ix ix_list (pv 0) pe_int (fun _ _ => rfl)) pa_nil)) (pv 1)) (pg_sub (pv 0) pe_int set_list))
      (pss_one (ps_ret (pv 2))))) pss_nil)
      (pss_cons (ps_set (i := 3) sc_draw.nd rfl (Or.inl rfl) (pe_ix ix_list (pv 0) pe_int (fun _ _ => rfl)))
      (pss_cons (ps_asg (pe_op op_add (pv 3) pe_int) (pg_sub (pv 0) pe_int set_list))
      (pss_cons (ps_set (i := 4) sc_draw.nd rfl (Or.inl rfl) (pe_op op_add (pe_op op_mul pe_int (pv 3)) pe_int))
      (C8.pss_cut (ps_if (pt_cmpR (op_neD hr.units) (pe_ix ix_list (pv 0) pe_int (fun _ _ => rfl)) (pe_lst pa_nil) (nomark _)) (pss_one (ps_set (i := 4) sc_draw.nd rfl (Or.inl rfl) (pe_ix ix_list (pe_ix ix_list (pv 0) pe_int (fun _ _ => rfl)) (pe_op op_mod (pe_callTy call_int1 (by rfl) T.z_int boot_int (pa_cons (pv 3) pa_nil)) (pe_callB call_len (by rfl) T.z_len PySem.boot_len (pa_cons (pe_ix ix_list (pv 0) pe_int (fun _ _ => rfl)) pa_nil))) (fun _ _ => rfl)))) pss_nil)
      (C8.pss_cut (ps_if (PW.pt (pw_and (pt_cmpR op_lt (pv 3) (pe_callB call_len (by rfl) T.z_len PySem.boot_len (pa_cons (pe_ix ix_list (pv 0) pe_int (fun _ _ => rfl)) pa_nil)) (nomark _)) (pw_and1 (pt_cmpR op_ge (pe_callB call_abs (by rfl) T.z_abs boot_abs (pa_cons (pv 4) pa_nil)) (pe_op op_pow pe_int pe_int) (nomark _))))) (pss_cons (ps_set (i := 5) sc_draw.nd rfl (Or.inl rfl) (pe_op op_add (pe_op op_mul pe_int (pe_op op_sub (pe_callB call_abs (by rfl) T.z_abs boot_abs (pa_cons (pv 4) pa_nil)) (pe_op op_pow pe_int pe_int))) (pe_callTy call_int1 (by rfl) T.z_int boot_int (pa_cons (pe_cmpR op_lt (pv 4) pe_int (nomark _)) pa_nil))))
      (pss_cons (ps_asg (pe_op op_fdivW (pe_callTy call_int1 (by rfl) T.z_int boot_int (pa_cons (pv 5) pa_nil)) (pv 1)) (pg_sub (pv 0) pe_int set_list))
      (pss_one (ps_ret (pe_op op_mod (pe_callTy call_int1 (by rfl) T.z_int boot_int (pa_cons (pv 5) pa_nil)) (pv 1)))))) pss_nil)
      (pss_cons (ps_set (i := 6) sc_draw.nd rfl (Or.inl rfl) (pe_op op_mod (pe_callTy call_int1 (by rfl) T.z_int boot_int (pa_cons (pe_op op_pow (pe_op op_add (pe_op op_add (pe_op op_mod (pe_callTy call_int1 (by rfl) T.z_int boot_int (pa_cons (pv 4) pa_nil)) pe_int) (pe_op op_mul pe_int (pv 3))) pe_int) pe_int) pa_nil)) pe_int))
      (pss_cons (ps_set (i := 6) sc_draw.nd rfl (Or.inl rfl) (pe_op op_add (pe_op op_add (pe_op op_mul (pv 6) (pe_op op_add (pe_op op_mul pe_int (pv 3)) pe_int)) (pe_op op_mul (pe_op op_mul pe_int (pv 3)) (pv 3))) pe_int))
      (pss_one (ps_ret (pe_op op_mod (pe_callTy call_int1 (by rfl) T.z_int boot_int (pa_cons (pe_op op_fdivW (pe_op op_mod (pe_callTy call_int1 (by rfl) T.z_int boot_int (pa_cons (pe_op op_pow (pv 6) pe_int) pa_nil)) pe_int) pe_int) pa_nil)) (pv 1)))))))))))), ?_⟩
    have i2 : atI [V.ref cl, V.int at_, V.int rest] 2 = some (V.int rest) := rfl
    have i1 : atI [V.ref cl, V.int at_, V.int rest] 1 = some (V.int at_) := rfl
    have i0 : atI [V.ref cl, V.int at_, V.int rest] 0 = some (V.ref cl) := rfl
    refine ⟨_, rfl, pn, _, _, _, rfl, rfl, SqL.of h1, i2, _, _, rfl, rfl, _, rfl, ?_⟩
    have npc : cl ≠ pn := ne_of h2 h1 (by
      intro z
      injection z with z
      cases ns with
      | nil => cases z
      | cons a l => cases z)
    refine ite2 (fun c => ?_) (fun c => ?_)
    · refine ⟨_, rfl, pn, _, _, _, rfl, rfl, SqL.of h1, i2, .inl ⟨rest, rfl, _, rfl, _, _, rfl, rfl, hm, ?_⟩⟩
      first
        | refine ⟨_, rfl, pn, _, _, _, rfl, rfl, SqL.of h1, i2, .inl ⟨rest, rfl, _, rfl, _, _, rfl, rfl, ⟨hm, hml⟩, _, rfl, pn, _, _, 2, rfl, rfl, h1, rfl, ?_⟩⟩
        | refine ⟨_, rfl, pn, _, _, _, rfl, rfl, SqL.of h1, i2, _, rfl, _, _, rfl, rfl, ⟨hm, hml⟩, _, rfl, pn, _, _, 2, rfl, rfl, h1, rfl, ?_⟩
      refine ⟨_, rfl, k _ _ (Int.emod_nonneg _ (by omega)) (Int.emod_lt_of_pos _ hm) ?_ But.put⟩
      exact ⟨ns, at_, rest / m, upd_same, by rw [upd_ne npc]; exact h2, h3, h4, by omega⟩
    · refine ⟨_, rfl, pn, _, _, _, rfl, rfl, SqL.of h1, i1, ?_⟩
      refine ⟨_, rfl, _, _, rfl, rfl, _, rfl, pn, _, _, 1, rfl, rfl, h1, rfl, ?_⟩
      refine ⟨_, rfl, _, _, rfl, rfl, .inl ⟨by decide, by decide⟩, _, _, rfl, rfl, ?_⟩
      have i0' : atI [V.ref cl, V.int (at_ + 1), V.int rest] 0 = some (V.ref cl) := rfl
      refine ⟨fun σ H2 => ∃ (cell : Int) (v5 v6 : Option V), σ = [some (.ref pn), some (.int m), none, some (.int at_), some (.int cell), v5, v6] ∧ H2 pn = some (.lst [.ref cl, .int (at_ + 1), .int rest]) ∧ H2 cl = some (.lst (ns.map V.int)) ∧ But pn H H2, ?_, ?_⟩
      · refine ⟨_, rfl, pn, _, _, _, rfl, rfl, SqL.of upd_same, i0', (by show 0 ≤ sizeLine; decide), fun l hl => ?_⟩
        have nlp : pn ≠ l := ne_of_none (upd_same (H := H) (a := pn)) hl
        have nlc : cl ≠ l := ne_of_none (by rw [upd_ne npc]; exact h2) hl
        have w1 : (upd (upd H pn (.lst [.ref cl, .int (at_ + 1), .int rest])) l (.lst [])) pn = some (.lst [.ref cl, .int (at_ + 1), .int rest]) := by rw [upd_ne nlp, upd_same]
        have w2 : (upd (upd H pn (.lst [.ref cl, .int (at_ + 1), .int rest])) l (.lst [])) cl = some (.lst (ns.map V.int)) := by rw [upd_ne nlc, upd_ne npc]; exact h2
        have wb : But pn H (upd (upd H pn (.lst [.ref cl, .int (at_ + 1), .int rest])) l (.lst [])) := But.put.trans (But.new hl)
        refine ⟨.list (ns.map PyData.int), .list [], .lst (SqL.of w2) (dp_ints ns), .lst (SqL.of upd_same) .nil, shaped_ints ns, rfl, _, rfl, ?_⟩
        cases ns with
        | nil =>
          refine iteF ?_
          exact ⟨_, _, _, rfl, w1, w2, wb⟩
        | cons z zs =>
          refine iteT ?_
          have hl0 : (0 : Int) < (((z :: zs).map V.int).length : Int) := by
            rw [List.length_map, List.length_cons]
            omega
          obtain ⟨v, hv⟩ : ∃ v, ((z :: zs))[(at_ % (((z :: zs).map V.int).length : Int)).toNat]? = some v := by
            have g := Int.emod_lt_of_pos at_ hl0
            have g0 := Int.emod_nonneg at_ (show (((z :: zs).map V.int).length : Int) ≠ 0 by omega)
            refine ⟨_, List.getElem?_eq_getElem ?_⟩
            rw [List.length_map] at g g0 ⊢
            omega
          refine ⟨_, rfl, pn, _, _, _, rfl, rfl, SqL.of w1, i0', _, rfl, .inl ⟨at_, rfl, _, rfl, pn, _, _, _, rfl, rfl, SqL.of w1, i0', _, _, rfl, .inl ⟨_, SqL.of w2, rfl⟩, _, _, rfl, rfl, hl0, cl, _, _, .int v, rfl, rfl, SqL.of w2, ?_, ?_⟩⟩
          · have g0 := Int.emod_nonneg at_ (show (((z :: zs).map V.int).length : Int) ≠ 0 by omega)
            refine at_of (j := (at_ % (((z :: zs).map V.int).length : Int)).toNat) (by omega) ?_
            rw [List.getElem?_map, hv]
            rfl
          · exact ⟨_, _, _, rfl, w1, w2, wb⟩
      · rintro σ H2 ⟨cell, v5, v6, rfl, g1, g2, hb⟩
        have pen2 : ∀ r : Int, PenC (upd H2 pn (.lst [.ref cl, .int (at_ + 1), .int r])) pn cl (n + 1) := fun r =>
          ⟨ns, at_ + 1, r, upd_same, by rw [upd_ne npc]; exact g2, h3, by omega, by omega⟩
        refine ⟨fun σ H3 => ∃ (v5 v6 : Option V), σ = [some (.ref pn), some (.int m), none, some (.int at_), some (.int cell), v5, v6] ∧ H3 = H2, ?_, ?_⟩
        · refine ⟨_, rfl, _, rfl, pn, _, _, _, rfl, rfl, SqL.of g1, i0', _, _, rfl, .inl ⟨_, SqL.of g2, rfl⟩, _, _, rfl, rfl, _, rfl, ?_⟩
          refine ite2 (fun c1 => ?_) (fun c1 => iteF ⟨_, _, rfl, rfl⟩)
          refine ⟨_, rfl, _, rfl, _, _, rfl, rfl, ⟨by decide, by decide, by decide⟩, _, _, rfl, rfl, _, rfl, ?_⟩
          refine ite2 (fun c2 => ?_) (fun c2 => ⟨_, _, rfl, rfl⟩)
          refine ⟨_, rfl, _, rfl, _, _, rfl, rfl, ⟨by decide, by decide, by decide⟩, _, _, rfl, rfl, _, _, rfl, rfl, .inl ⟨by decide, by decide⟩, _, rfl, _, _, rfl, rfl, .inr ⟨_, rfl, _, _, rfl, rfl, ?_⟩⟩
          first
            | refine ⟨_, rfl, .inl ⟨_, rfl, _, rfl, _, _, rfl, rfl, ⟨hm, hml⟩, _, rfl, pn, _, _, 2, rfl, rfl, g1, rfl, ?_⟩⟩
            | refine ⟨_, rfl, _, rfl, _, _, rfl, rfl, ⟨hm, hml⟩, _, rfl, pn, _, _, 2, rfl, rfl, g1, rfl, ?_⟩
          refine ⟨_, rfl, .inl ⟨_, rfl, _, rfl, _, _, rfl, rfl, hm, ?_⟩⟩
          exact k _ _ (Int.emod_nonneg _ (by omega)) (Int.emod_lt_of_pos _ hm) (pen2 _) (hb.trans But.put)
        · rintro σ H3 ⟨v5, v6, rfl, rfl⟩
          have ea : at_ < 100000 := by omega
          refine ⟨_, rfl, .inl ⟨_, rfl, _, _, rfl, rfl, (by show (0 : Int) < _; decide), _, rfl, _, _, rfl, rfl, .inl ⟨by decide, by decide⟩, _, _, rfl, rfl, _, _, rfl, rfl, _, _, rfl, rfl, ⟨by decide, by decide, ?_⟩, .inl ⟨_, rfl, _, _, rfl, rfl, (by show (0 : Int) < _; decide), ?_⟩⟩⟩
          · have e1 := Int.emod_nonneg cell (show (2147483563 : Int) ≠ 0 by decide)
            have e2 := Int.emod_lt_of_pos cell (show (0 : Int) < 2147483563 by decide)
            refine pow_lt (by omega) (by omega)
          have x0 := Int.emod_nonneg ((cell % 2147483563 + 48157 * at_ + 341) ^ Int.toNat 5) (show (2147483629 : Int) ≠ 0 by decide)
          have x1 := Int.emod_lt_of_pos ((cell % 2147483563 + 48157 * at_ + 341) ^ Int.toNat 5) (show (0 : Int) < 2147483629 by decide)
          refine ⟨_, rfl, _, rfl, _, _, rfl, rfl, .inl ⟨by decide, by decide⟩, _, _, rfl, rfl, _, _, rfl, rfl, .inl ⟨Int.lt_of_lt_of_le (by decide) x0, Int.lt_trans x1 (by decide)⟩, _, rfl, _, _, rfl, rfl, .inl ⟨by decide, by decide⟩, _, rfl, _, _, rfl, rfl, .inr ⟨by omega, by omega⟩, _, _, rfl, rfl, _, _, rfl, rfl, _, rfl, _, _, rfl, rfl, ⟨by decide, by decide, ?_⟩, .inl ⟨_, rfl, _, _, rfl, rfl, (by show (0 : Int) < _; decide), _, _, rfl, rfl, ⟨by decide, by decide⟩, .inl ⟨_, rfl, _, rfl, _, _, rfl, rfl, hm, ?_⟩⟩⟩
          · exact mix_lt x0 (Int.lt_trans x1 (by decide)) h4 ea (by decide) (by decide) (by decide) (by decide) (by decide) (by decide)
          exact k _ _ (Int.emod_nonneg _ (by omega)) (Int.emod_lt_of_pos _ hm) ⟨ns, at_ + 1, rest, g1, g2, h3, by omega, by omega⟩ hb
theorem ok_draw {f : Addr} {fd : FuncData} (F : Fun K "_law_draw" "_law_draw" s_draw f fd) (T : BI mg) : FnOk P w K mg base CX0 1 f fd ["_law_pen_here", "_law_many"] spDraw := by
  have G := ok_drawC (P := P) (w := w) (base := base) F T
  have to : ∀ vs H Q E, spDraw vs H Q E → spDrawC vs H Q E := fun vs H Q E h => by
    obtain ⟨pn, m, n, e, hm, hml, hp, hn, k⟩ := h
    obtain ⟨cl, hc⟩ := hp.cells
    exact ⟨pn, cl, m, n, e, hm, hml, hc, hn, fun d H' a b c u => k d H' a b c.pen u⟩
  exact ⟨fun vs H Q E h => G.len vs H Q E (to _ _ _ _ h), fun A outer s H args us vs Q E hr e0 hb r h => G.run A outer s H args us vs Q E hr e0 hb r (to _ _ _ _ h)⟩
theorem ok_pick {f : Addr} {fd : FuncData} (F : Fun K "_law_pick" "_law_pick" s_pick f fd) (T : BI mg) (D_draw : DefAt P w K mg base CX0 1 "_law_draw" ["_law_pen_here", "_law_many"] spDraw) : FnOk P w K mg base CX0 2 f fd ["_law_pen_here", "_law_some"] spPick := by
  refine F.ok sc_pick (fun vs H Q E h => ?_) (fun cdv A outer s H vs Q E hr h => ?_)
  · obtain ⟨pn, l, n, xs, rfl, _⟩ := h
    rfl
  · obtain ⟨pn, l, n, xs, rfl, hl, nl, h0, h1, hp, hn, k⟩ := h
    refine ⟨_, (pss_one (ps_ret (pe_ix ix_list (pv 1) (My.pe_d D_draw (hr.mono (by decide)) (by rfl) pass0 (pa_cons (pv 0) (pa_cons (pe_callB call_len (by rfl) T.z_len PySem.boot_len (pa_cons (pv 1) pa_nil)) pa_nil))) (fun _ _ => rfl)))), ?_⟩
    refine ⟨_, rfl, _, rfl, _, rfl, _, _, rfl, .inl ⟨_, SqL.of hl, rfl⟩, pn, _, n, rfl, by omega, ?_, hp, hn, fun d H' d0 d1 hp' hb => ?_⟩
    · refine Nat.lt_of_lt_of_le (PySem.Flt.log2_lt_of (k := 10) (by decide) ?_) (by decide)
      show xs.length < 1024
      omega
    · obtain ⟨v, hv⟩ : ∃ v, xs[d.toNat]? = some v := ⟨_, List.getElem?_eq_getElem (by omega)⟩
      refine ⟨l, _, _, v, rfl, rfl, SqL.of (hb l _ hl nl), at_of (j := d.toNat) (by omega) hv, ?_⟩
      exact k v H' (List.mem_of_getElem? hv) hp' hb
end
end My
namespace My
/-! ### fractions in lowest terms -/
def sgcd (t b : Int) : Int := if b < 0 then -(Int.gcd t b : Int) else (Int.gcd t b : Int)
def lowT (t b : Int) : Int := t.fdiv (sgcd t b)
def lowB (t b : Int) : Int := b.fdiv (sgcd t b)
theorem gcd_posI {t b : Int} (h : b ≠ 0) : 0 < (Int.gcd t b : Int) := by
  have : 0 < Int.gcd t b := Int.gcd_pos_of_ne_zero_right t h
  omega
theorem sgcd_ne {t b : Int} (h : b ≠ 0) : sgcd t b ≠ 0 := by
  have := gcd_posI (t := t) h
  unfold sgcd
  split <;> omega
theorem sgcd_dvd_l (t b : Int) : sgcd t b ∣ t := by
  unfold sgcd
  split
  · exact Int.neg_dvd.mpr (Int.gcd_dvd_left ..)
  · exact Int.gcd_dvd_left ..
theorem sgcd_dvd_r (t b : Int) : sgcd t b ∣ b := by
  unfold sgcd
  split
  · exact Int.neg_dvd.mpr (Int.gcd_dvd_right ..)
  · exact Int.gcd_dvd_right ..
theorem fdiv_mul_of {a c : Int} (h : c ∣ a) : c * a.fdiv c = a := Int.mul_fdiv_cancel' h
theorem low_t (t b : Int) : sgcd t b * lowT t b = t := fdiv_mul_of (sgcd_dvd_l t b)
theorem low_b (t b : Int) : sgcd t b * lowB t b = b := fdiv_mul_of (sgcd_dvd_r t b)
theorem lowB_pos {t b : Int} (h : b ≠ 0) : 0 < lowB t b := by
  have e := low_b t b
  have g := gcd_posI (t := t) h
  by_cases hb : b < 0
  · have s : sgcd t b = -(Int.gcd t b : Int) := if_pos hb
    rw [s] at e
    rcases Int.lt_trichotomy (lowB t b) 0 with q | q | q
    · exfalso
      have := Int.mul_pos (a := (Int.gcd t b : Int)) (b := -lowB t b) g (by omega)
      rw [Int.mul_neg] at this
      rw [Int.neg_mul] at e
      omega
    · rw [q] at e; omega
    · exact q
  · have s : sgcd t b = (Int.gcd t b : Int) := if_neg hb
    rw [s] at e
    rcases Int.lt_trichotomy (lowB t b) 0 with q | q | q
    · exfalso
      have := Int.mul_pos (a := (Int.gcd t b : Int)) (b := -lowB t b) g (by omega)
      rw [Int.mul_neg] at this
      omega
    · rw [q] at e; omega
    · exact q
theorem sgcd_abs (t b : Int) : (sgcd t b).natAbs = Int.gcd t b := by
  unfold sgcd
  split <;> simp
theorem low_cop {t b : Int} (h : b ≠ 0) : Int.gcd (lowT t b) (lowB t b) = 1 := by
  have e1 := low_t t b
  have e2 := low_b t b
  have e3 : Int.gcd (sgcd t b * lowT t b) (sgcd t b * lowB t b) = (sgcd t b).natAbs * Int.gcd (lowT t b) (lowB t b) := Int.gcd_mul_left ..
  rw [e1, e2, sgcd_abs] at e3
  have g := gcd_posI (t := t) h
  have g' : 0 < Int.gcd t b := by omega
  exact Nat.eq_of_mul_eq_mul_left g' (by rw [Nat.mul_one]; exact e3.symm)
/-- the law's own way: by the sign and the divisor -/
theorem sgnT {t b : Int} (h : b ≠ 0) : ((if b > 0 then 1 else -1) * t).fdiv (Int.gcd t b : Int) = lowT t b := by
  have g := gcd_posI (t := t) h
  have e := low_t t b
  have key : ((if b > 0 then 1 else -1) * t) = (Int.gcd t b : Int) * lowT t b := by
    conv => lhs; rw [← e]
    unfold sgcd
    by_cases hb : b < 0
    · rw [if_pos hb, if_neg (show ¬ b > 0 by omega), Int.neg_mul, Int.neg_mul, Int.mul_neg, Int.neg_neg, Int.one_mul]
    · rw [if_neg hb, if_pos (show b > 0 by omega), Int.one_mul]
  rw [key, Int.mul_fdiv_cancel_left _ (by omega)]
theorem sgnB {t b : Int} (h : b ≠ 0) : ((if b > 0 then 1 else -1) * b).fdiv (Int.gcd t b : Int) = lowB t b := by
  have g := gcd_posI (t := t) h
  have e := low_b t b
  have key : ((if b > 0 then 1 else -1) * b) = (Int.gcd t b : Int) * lowB t b := by
    have e' : sgcd t b = (if b > 0 then 1 else -1) * (Int.gcd t b : Int) := by
      unfold sgcd
      by_cases hb : b < 0
      · rw [if_pos hb, if_neg (show ¬ b > 0 by omega), Int.neg_mul, Int.one_mul]
      · rw [if_neg hb, if_pos (show b > 0 by omega), Int.one_mul]
    rw [e'] at e
    by_cases hb : b < 0
    · rw [if_neg (show ¬ b > 0 by omega)] at e ⊢
      rw [Int.neg_mul, Int.one_mul] at e ⊢
      rw [Int.neg_mul] at e
      omega
    · rw [if_pos (show b > 0 by omega)] at e ⊢
      rw [Int.one_mul] at e ⊢
      omega
  rw [key, Int.mul_fdiv_cancel_left _ (by omega)]
theorem cop_dvd {n d m : Int} (h : Int.gcd n d = 1) (k : d ∣ n * m) : d ∣ m := by
  have h1 : d.natAbs ∣ n.natAbs * m.natAbs := by
    rw [← Int.natAbs_mul]
    exact Int.natAbs_dvd_natAbs.mpr k
  have h2 : Nat.Coprime d.natAbs n.natAbs := by
    show Nat.gcd _ _ = 1
    rw [Nat.gcd_comm]
    exact h
  exact Int.natAbs_dvd_natAbs.mp (h2.dvd_of_dvd_mul_left h1)
theorem low_only {n1 d1 n2 d2 : Int} (p1 : 0 < d1) (p2 : 0 < d2) (c1 : Int.gcd n1 d1 = 1) (c2 : Int.gcd n2 d2 = 1) (h : n1 * d2 = n2 * d1) : n1 = n2 ∧ d1 = d2 := by
  have e1 : d1 ∣ d2 := cop_dvd c1 (by rw [h]; exact Int.dvd_mul_left ..)
  have e2 : d2 ∣ d1 := cop_dvd c2 (by rw [← h]; exact Int.dvd_mul_left ..)
  have e : d1 = d2 := Int.le_antisymm (Int.le_of_dvd p2 e1) (Int.le_of_dvd p1 e2)
  subst e
  exact ⟨Int.eq_of_mul_eq_mul_right (by omega) h, rfl⟩
theorem low_cross {t b : Int} : lowT t b * b = lowB t b * t := by
  have e1 := low_t t b
  have e2 := low_b t b
  calc lowT t b * b = lowT t b * (sgcd t b * lowB t b) := by rw [e2]
    _ = lowB t b * (sgcd t b * lowT t b) := by simp only [Int.mul_comm, Int.mul_left_comm]
    _ = lowB t b * t := by rw [e1]
/-- equal fractions have the same lowest terms -/
theorem low_eq {t1 b1 t2 b2 : Int} (h1 : b1 ≠ 0) (h2 : b2 ≠ 0) (h : t1 * b2 = t2 * b1) : lowT t1 b1 = lowT t2 b2 ∧ lowB t1 b1 = lowB t2 b2 := by
  refine low_only (lowB_pos h1) (lowB_pos h2) (low_cop h1) (low_cop h2) ?_
  have s1 := sgcd_ne (t := t1) h1
  have s2 := sgcd_ne (t := t2) h2
  have a1 := low_t t1 b1
  have a2 := low_b t1 b1
  have a3 := low_t t2 b2
  have a4 := low_b t2 b2
  have q : (sgcd t1 b1 * sgcd t2 b2) * (lowT t1 b1 * lowB t2 b2) = (sgcd t1 b1 * sgcd t2 b2) * (lowT t2 b2 * lowB t1 b1) := by
    calc (sgcd t1 b1 * sgcd t2 b2) * (lowT t1 b1 * lowB t2 b2) = (sgcd t1 b1 * lowT t1 b1) * (sgcd t2 b2 * lowB t2 b2) := by grind
      _ = t1 * b2 := by rw [a1, a4]
      _ = t2 * b1 := h
      _ = (sgcd t2 b2 * lowT t2 b2) * (sgcd t1 b1 * lowB t1 b1) := by rw [a3, a2]
      _ = _ := by grind
  exact Int.eq_of_mul_eq_mul_left (Int.mul_ne_zero s1 s2) q
theorem low_self {n d : Int} (p : 0 < d) (c : Int.gcd n d = 1) : lowT n d = n ∧ lowB n d = d := by
  have h : d ≠ 0 := by omega
  exact low_only (lowB_pos h) p (low_cop h) c (by rw [low_cross, Int.mul_comm])
theorem lowT_abs {t b : Int} (h : b ≠ 0) : (lowT t b).natAbs ≤ t.natAbs := by
  have e := congrArg Int.natAbs (low_t t b)
  rw [Int.natAbs_mul] at e
  have s : 0 < (sgcd t b).natAbs := Int.natAbs_pos.mpr (sgcd_ne h)
  rw [← e]
  exact Nat.le_mul_of_pos_left _ s
theorem lowB_abs {t b : Int} (h : b ≠ 0) : (lowB t b).natAbs ≤ b.natAbs := by
  have e := congrArg Int.natAbs (low_b t b)
  rw [Int.natAbs_mul] at e
  have s : 0 < (sgcd t b).natAbs := Int.natAbs_pos.mpr (sgcd_ne h)
  rw [← e]
  exact Nat.le_mul_of_pos_left _ s
theorem sgcd_le {t b : Int} (h : b ≠ 0) : (sgcd t b).natAbs ≤ b.natAbs := by
  have e := congrArg Int.natAbs (low_b t b)
  rw [Int.natAbs_mul] at e
  have s : 0 < (lowB t b).natAbs := Int.natAbs_pos.mpr (by have := lowB_pos (t := t) h; omega)
  rw [← e]
  exact Nat.le_mul_of_pos_right _ s
theorem gcd_le_r {t b : Int} (h : b ≠ 0) : Int.gcd t b ≤ b.natAbs := by
  rw [← sgcd_abs]
  exact sgcd_le h
theorem lowT_zero {t b : Int} (h : b ≠ 0) : lowT t b = 0 ↔ t = 0 := by
  constructor
  · intro e
    have := low_t t b
    rw [e, Int.mul_zero] at this
    exact this.symm
  · rintro rfl
    have := low_t 0 b
    rcases Int.mul_eq_zero.mp this with q | q
    · exact absurd q (sgcd_ne h)
    · exact q
/-- a fraction turned over that equals itself -/
theorem turned {n d : Int} (p : 0 < d) (c : Int.gcd n d = 1) (hn : n ≠ 0) (e2 : lowB d n = d) : n.natAbs = d.natAbs := by
  have g : Int.gcd d n = 1 := by rw [Int.gcd_comm]; exact c
  have b := low_b d n
  have s : (sgcd d n).natAbs = 1 := by rw [sgcd_abs, g]
  have := congrArg Int.natAbs b
  rw [Int.natAbs_mul, s, Nat.one_mul, e2] at this
  exact this.symm
/-- one turn of Euclid's way -/
theorem gcd_turn {a b : Int} (ha : 0 ≤ a) (hb : 0 ≤ b) : Int.gcd b (a.fmod b) = Int.gcd a b := by
  rw [Int.fmod_eq_emod_of_nonneg _ hb]
  unfold Int.gcd
  rw [Int.natAbs_emod_of_nonneg ha, Nat.gcd_comm, Nat.gcd_comm a.natAbs, ← Nat.gcd_rec]
theorem fmod_bd {a b : Int} (hb : 0 < b) : 0 ≤ a.fmod b ∧ a.fmod b < b := by
  rw [Int.fmod_eq_emod_of_nonneg _ (by omega)]
  exact ⟨Int.emod_nonneg _ (by omega), Int.emod_lt_of_pos _ hb⟩
theorem gcd_absI (a b : Int) : Int.gcd (if a < 0 then -a else a) (if b < 0 then -b else b) = Int.gcd a b := by
  unfold Int.gcd
  congr 1 <;> split <;> simp
end My
set_option pp.maxSteps 1500
set_option pp.deepTerms.threshold 8
/-! ### numbers -/
namespace My
open PySem PySem.Spec PyProof.Rows L2
abbrev s_whole0 : Stmt := topS 14
theorem sc_whole0 : FnScope ["value"] ["value"] (defScope s_whole0) := ⟨rfl, rfl, rfl, by decide +kernel, rfl, by decide +kernel, by decide +kernel⟩
abbrev s_cd : Stmt := topS 15
theorem sc_cd : FnScope ["one", "other"] ["one", "other"] (defScope s_cd) := ⟨rfl, rfl, rfl, by decide +kernel, rfl, by decide +kernel, by decide +kernel⟩
abbrev s_partsof : Stmt := topS 17
theorem sc_partsof : FnScope ["number"] ["number"] (defScope s_partsof) := ⟨rfl, rfl, rfl, by decide +kernel, rfl, by decide +kernel, by decide +kernel⟩
abbrev s_rinit : Stmt := inClass (topS 19) 0
theorem sc_rinit : FnScope ["self", "top", "bottom", "shared"] ["self", "top", "bottom"] (defScope s_rinit) := ⟨rfl, rfl, rfl, by decide +kernel, rfl, by decide +kernel, by decide +kernel⟩
abbrev s_isnum : Stmt := inClass (topS 19) 1
theorem sc_isnum : FnScope ["thing"] ["thing"] (defScope s_isnum) := ⟨rfl, rfl, rfl, by decide +kernel, rfl, by decide +kernel, by decide +kernel⟩
abbrev s_of : Stmt := inClass (topS 19) 2
theorem sc_of : FnScope ["number", "top", "bottom"] ["number"] (defScope s_of) := ⟨rfl, rfl, rfl, by decide +kernel, rfl, by decide +kernel, by decide +kernel⟩
def rfs (a b : Int) : List (Str × V) := putF "bottom" (.int b) (putF "top" (.int a) [])
theorem rsm : ¬ (("top" : Str) = "bottom") := by decide +kernel
theorem rfs_top (a b : Int) : (rfs a b).lookup ("top" : Str) = some (.int a) := by
  unfold rfs
  rw [lookup_putF, if_neg rsm, lookup_putF, if_pos rfl]
theorem rfs_bot (a b : Int) : (rfs a b).lookup ("bottom" : Str) = some (.int b) := by
  unfold rfs
  rw [lookup_putF, if_pos rfl]
theorem rfs_no (a b : Int) {m : Str} (h1 : ¬ m = "bottom") (h2 : ¬ m = "top") : (rfs a b).lookup m = none := by
  unfold rfs
  rw [lookup_putF, if_neg h1, lookup_putF, if_neg h2]
  rfl
/-- at p: a Ratio with this top and this bottom -/
def RatAt (C : Addr) (H : Hp) (p : Addr) (a b : Int) : Prop := ∃ dx, H p = some (.ins C dx (rfs a b))
theorem RatAt.same {C : Addr} {H H' : Hp} {p : Addr} {a b : Int} (h : RatAt C H p a b) (k : Same H H') : RatAt C H' p a b := by
  obtain ⟨dx, e⟩ := h
  exact ⟨dx, k _ _ e⟩
theorem RatAt.ext {C : Addr} {H H' : Hp} {p : Addr} {a b : Int} (h : RatAt C H p a b) (k : LamX.ExtN H H') : RatAt C H' p a b := by
  obtain ⟨dx, e⟩ := h
  exact ⟨dx, k _ _ e (by intro ps z; cases z)⟩
/-- what the top has written of Ratio -/
structure RTx (K : PySem.W.Frag) (mg : Str → Option Value) (Cs : List Addr) (CR : Addr) : Prop extends BI mg where
  fam : Fam K Cs
  inn : CR ∈ Cs
  cl : Cls K CR
  nT : NoAttr K CR "top"
  nB : NoAttr K CR "bottom"
  gR : mg "Ratio" = some (.ref CR)
  z_str : mg "str" = none
  z_tuple : mg "tuple" = none
theorem RTx.own {K : PySem.W.Frag} {mg : Str → Option Value} {Cs : List Addr} {CR : Addr} (T : RTx K mg Cs CR) : Own K CR := T.fam.own CR T.inn
/-- a number: a Ratio, or an int -/
def NumAt (C : Addr) (H : Hp) (v : V) (a b : Int) : Prop := (∃ p, v = .ref p ∧ RatAt C H p a b) ∨ (v = .int a ∧ b = 1)
theorem NumAt.same {C : Addr} {H H' : Hp} {v : V} {c d : Int} (h : NumAt C H v c d) (s : Same H H') : NumAt C H' v c d := by
  rcases h with ⟨p, e, l⟩ | h
  · exact .inl ⟨p, e, l.same s⟩
  · exact .inr h
def spCd : Sp := fun vs H Q _ => ∃ (a b : Int), vs = [.int a, .int b] ∧ Q (.int (Int.gcd a b : Int)) H
def spParts0 (C : Addr) : Sp := fun vs H Q _ => ∃ (v : V) (a b : Int), vs = [v] ∧ NumAt C H v a b ∧ ∀ t, H t = none → Q (.ref t) (upd H t (.tup [.int a, .int b]))
/-- Ratio.__init__ of ints -/
def spRinit (C : Addr) : Sp := fun vs H Q _ => ∃ (p dx : Addr) (t b : Int), vs = [.ref p, .int t, .int b] ∧ H p = some (.ins C dx []) ∧ b ≠ 0 ∧ b.natAbs.log2 < 9000 ∧
  ∀ H', H' p = some (.ins C dx (rfs (lowT t b) (lowB t b))) → (∀ c o, H c = some o → c ≠ p → H' c = some o) → Q .non H'
/-- Ratio.is_number(v) -/
def notIns (C : Addr) (H : Hp) (v : V) : Prop := ∀ a dx fs, v = .ref a → H a ≠ some (.ins C dx fs)
def IsNum (Cs : List Addr) (C : Addr) (H : Hp) (v : V) (b : Bool) : Prop := (b = true ∧ ∃ p n d, v = .ref p ∧ RatAt C H p n d) ∨ (AnyF Cs H v ∧ notIns C H v ∧ b = isI v)
theorem IsNum.num {Cs : List Addr} {C : Addr} {H : Hp} {v : V} {c d : Int} (h : NumAt C H v c d) : IsNum Cs C H v true := by
  rcases h with ⟨p, rfl, l⟩ | ⟨rfl, _⟩
  · exact .inl ⟨rfl, p, _, _, rfl, l⟩
  · exact .inr ⟨AnyF.int Cs H c, (fun _ _ _ z => nomatch z), rfl⟩
theorem IsNum.odd {Cs : List Addr} {C : Addr} {H : Hp} {v : V} (h : AnyF Cs H v) (n : notIns C H v) (i : isI v = false) : IsNum Cs C H v false := .inr ⟨h, n, i.symm⟩
def spIsnum (Cs : List Addr) (C : Addr) : Sp := fun vs H Q _ => ∃ (v : V) (b : Bool), vs = [v] ∧ IsNum Cs C H v b ∧ Q (.bl b) H
def spOf (C : Addr) : Sp := fun vs H Q _ => ∃ (v : V) (a b : Int), vs = [v] ∧ NumAt C H v a b ∧ b ≠ 0 ∧ b.natAbs.log2 < 9000 ∧ ∀ (q : Addr) (H' : Hp), RatAt C H' q (lowT a b) (lowB a b) → Same H H' → Q (.ref q) H'
theorem log_le {x y : Nat} (h : x ≤ y) (k : y.log2 < 9000) (hx : x ≠ 0) : x.log2 < 9000 := by
  have h1 : y < 2 ^ 9000 := (Nat.log2_lt (by omega)).mp k
  exact (Nat.log2_lt hx).mpr (Nat.lt_of_le_of_lt h h1)
theorem rinit_at {C : Addr} {H : Hp} {x dx : Addr} {a b : Int} {R : Hp → Prop} {E : XK} (hb : b ≠ 0) (lb : b.natAbs.log2 < 9000) (hx : H x = none) (hd : H dx = none) (ne : dx ≠ x) (k : ∀ H', RatAt C H' x (lowT a b) (lowB a b) → Same H H' → R H') :
    spRinit C (.ref x :: ([.int a, .int b] ++ [])) (upd (upd H dx (.own x)) x (.ins C dx [])) (fun v H2 => v = .non ∧ R H2) E := by
  refine ⟨x, dx, a, b, rfl, upd_same, hb, lb, fun H' h1 h2 => ⟨rfl, k H' ⟨dx, h1⟩ fun c o e => h2 c o ?_ (ne_of_none e hx)⟩⟩
  rw [upd_ne (ne_of_none e hx), upd_ne (ne_of_none e hd)]
  exact e
section
variable {P : Program} {w : World} {K : PySem.W.Frag} {mg : Str → Option Value} {base : Heap} {Cs : List Addr} {CR : Addr}
theorem ok_whole0 {f : Addr} {fd : FuncData} (F : Fun K "is_whole" "is_whole" s_whole0 f fd) (T : BI mg) (fam : Fam K Cs) : FnOk P w K mg base CX0 1 f fd ["value"] (spWh Cs) := by
  refine F.ok sc_whole0 (fun vs H Q E h => ?_) (fun cdv A outer s H vs Q E hr h => ?_)
  · obtain ⟨v, rfl, _⟩ := h
    rfl
  · obtain ⟨v, rfl, ty, q⟩ := h
    refine ⟨_, (pss_one (ps_ret (pe_and (pe_callB call_isi (by rfl) T.z_isinstance boot_isinstance (pa_cons (pv 0) (pa_cons (pe_bltn (v := .ty "int") (by rfl) T.z_int boot_int rfl) pa_nil))) (pe_one (pe_not (pe_callB call_isi (by rfl) T.z_isinstance boot_isinstance (pa_cons (pv 0) (pa_cons (pe_bltn (v := .ty "bool") (by rfl) T.z_bool boot_bool rfl) pa_nil)))))))), ?_⟩
    obtain ⟨t, b, tx, e1, e2, e3⟩ := fam.kint ty
    refine ⟨_, rfl, v, _, _, _, b, rfl, .ty _, tx, e1, _, rfl, ?_⟩
    cases b with
    | false =>
      refine iteF ?_
      rw [e3 rfl] at q
      exact q
    | true =>
      refine iteT ?_
      obtain ⟨c, e4, e5⟩ := e2 rfl
      refine ⟨_, rfl, v, _, _, _, c, rfl, .ty _, tx, e4, _, rfl, ?_⟩
      rw [e5] at q
      exact q
theorem ok_cd {f : Addr} {fd : FuncData} (F : Fun K "common_divisor" "common_divisor" s_cd f fd) (T : BI mg) : FnOk P w K mg base CX0 1 f fd ["one", "other"] spCd := by
  refine F.ok sc_cd (fun vs H Q E h => ?_) (fun cdv A outer s H vs Q E hr h => ?_)
  · obtain ⟨a, b, rfl, _⟩ := h
    rfl
  · obtain ⟨a, b, rfl, q⟩ := h
    refine ⟨_, (pss_cons (ps_par (i := 0) (j := 1) (by rfl) sc_cd.nd rfl rfl (by decide) rfl rfl (pa_cons (pe_callB call_abs (by rfl) T.z_abs boot_abs (pa_cons (pv 0) pa_nil)) (pa_cons (pe_callB call_abs (by rfl) T.z_abs boot_abs (pa_cons (pv 1) pa_nil)) pa_nil)) (by rfl))
      (pss_cons (ps_while PassesOwn.never (pt_cmpR op_ne (pv 1) pe_int (nomark _)) (pss_one (ps_par (i := 0) (j := 1) (by rfl) sc_cd.nd rfl rfl (by decide) rfl rfl (pa_cons (pv 1) (pa_cons (pe_op op_modN (pv 0) (pv 1)) pa_nil)) (by rfl))))
      (pss_one (ps_ret (pv 0))))), ?_⟩
    refine ⟨_, rfl, a, rfl, _, rfl, b, rfl, _, _, rfl, ?_⟩
    refine while_by (fun σ Hz => Hz = H ∧ ∃ x y : Int, σ = [some (.int x), some (.int y)] ∧ 0 ≤ x ∧ 0 ≤ y ∧ Int.gcd x y = Int.gcd a b) (fun σ _ => match σ with | [_, some (.int y)] => y.toNat | _ => 0) ?_ ?_ ?_
    · exact ⟨rfl, _, _, rfl, by split <;> omega, by split <;> omega, gcd_absI a b⟩
    · rintro σ Hz ⟨rfl, x, y, rfl, hx, hy, hg⟩
      refine ⟨_, rfl, rfl, _, rfl, ?_⟩
      refine ite2 (fun c => ?_) (fun c => ?_)
      · have y0 : y ≠ 0 := by
          rintro rfl
          simp at c
        obtain ⟨m1, m2⟩ := fmod_bd (a := x) (b := y) (by omega)
        refine ⟨_, rfl, _, rfl, _, rfl, _, _, rfl, rfl, y0, _, _, rfl, ⟨rfl, y, x.fmod y, rfl, hy, m1, ?_⟩, ?_⟩
        · rw [gcd_turn hx hy]
          exact hg
        · show (x.fmod y).toNat < y.toNat
          omega
      · have y0 : y = 0 := by
          by_cases z : y = 0
          · exact z
          · exfalso
            apply c
            simp [z]
        subst y0
        have e : x = (Int.gcd a b : Int) := by
          rw [← hg]
          show x = ((Nat.gcd x.natAbs 0 : Nat) : Int)
          rw [Nat.gcd_zero_right]
          omega
        rw [← e] at q
        exact ⟨_, rfl, q⟩
    · rintro σ Hz Q1 Q2 hm ⟨v, e, h1, h2⟩
      exact ⟨v, e, h1, by obtain ⟨b, e2, h3⟩ := h2; exact ⟨b, e2, hm _ _ h3⟩⟩
theorem ok_partsof {f : Addr} {fd : FuncData} (F : Fun K "parts_of" "parts_of" s_partsof f fd) (T : RTx K mg Cs CR) : FnOk P w K mg base CX0 1 f fd ["number"] (spParts0 CR) := by
  refine F.ok sc_partsof (fun vs H Q E h => ?_) (fun cdv A outer s H vs Q E hr h => ?_)
  · obtain ⟨v, a, b, rfl, _⟩ := h
    rfl
  · obtain ⟨v, a, b, rfl, hv, q⟩ := h
    refine ⟨_, (pss_one (ps_ret (pe_ifExp (pt_val (pe_callB call_isi (by rfl) T.z_isinstance boot_isinstance (pa_cons (pv 0) (pa_cons (pe_glob (v := .ref CR) (by rfl) T.gR rfl) pa_nil)))) (pe_tup (pa_cons (pe_fld (pv 0) rfl) (pa_cons (pe_fld (pv 0) rfl) pa_nil))) (pe_tup (pa_cons (pv 0) (pa_cons pe_int pa_nil)))))), ?_⟩
    rcases hv with ⟨p, rfl, hl⟩ | ⟨rfl, rfl⟩
    · obtain ⟨dx, e⟩ := id hl
      refine ⟨_, rfl, _, _, _, _, true, rfl, .own _, T.own.ty e, T.own.me, _, rfl, iteT ?_⟩
      exact ⟨_, rfl, p, CR, dx, _, _, rfl, e, T.cl, T.nT, rfs_top _ _, _, rfl, p, CR, dx, _, _, rfl, e, T.cl, T.nB, rfs_bot _ _, (by show 2 ≤ sizeLine; decide), fun t ht => q t ht⟩
    · refine ⟨_, rfl, _, _, _, _, false, rfl, .own _, (Ty0.int a).tyx, (T.own.kn _ (.head _)).1, _, rfl, iteF ?_⟩
      exact ⟨_, rfl, (by show 2 ≤ sizeLine; decide), fun t ht => q t ht⟩
theorem ok_rinit {f : Addr} {fd : FuncData} (F : FunD K "__init__" "Ratio.__init__" (defArgs s_rinit) (defBody s_rinit) (defScope s_rinit) [.int 1] [] f fd) (T : RTx K mg Cs CR)
    (D_whole0 : DefAt P w K mg base CX0 1 "is_whole" ["value"] (spWh Cs)) (D_cd : DefAt P w K mg base CX0 1 "common_divisor" ["one", "other"] spCd) : FnOk P w K mg base (L2.CX P w) 3 f fd ["self", "top", "bottom"] (spRinit CR) := by
  refine F.ok sc_rinit (fun vs H Q E h => ?_) (fun cdv A outer s H vs Q E hr h => ?_)
  · obtain ⟨p, dx, t, b, rfl, _⟩ := h
    rfl
  · obtain ⟨p, dx, t, b, rfl, hp, b0, lb, kQ⟩ := h
    refine ⟨_, (pss_cons (ps_if (pt_not (pt_val (My.pe_d D_whole0 (hr.mono (by decide)) (by rfl) pass0 (pa_cons (pv 1) pa_nil)))) (pss_one ps_never) pss_nil)
      (pss_cons (ps_if (pt_not (pt_val (My.pe_d D_whole0 (hr.mono (by decide)) (by rfl) pass0 (pa_cons (pv 2) pa_nil)))) (pss_one ps_never) pss_nil)
      (pss_cons (ps_if (pt_cmpR op_eq (pv 2) pe_int (nomark _)) (pss_one ps_never) pss_nil)
      (pss_cons (ps_set (i := 3) sc_rinit.nd rfl (Or.inl rfl) (My.pe_d D_cd (hr.mono (by decide)) (by rfl) pass0 (pa_cons (pv 1) (pa_cons (pv 2) pa_nil))))
      (C8.pss_cut (ps_if (pt_cmpR op_lt (pv 2) pe_int (nomark _)) (pss_one (ps_set (i := 3) sc_rinit.nd rfl (Or.inl rfl) (pe_un un_neg (pv 3)))) pss_nil)
      (pss_cons (ps_fld (pv 0) (pe_op My.op_fdivX (pv 1) (pv 3)) rfl)
      (pss_one (ps_fld (pv 0) (pe_op My.op_fdivX (pv 2) (pv 3)) rfl)))))))), ?_⟩
    refine ⟨_, rfl, .int t, rfl, AnyF.int Cs H t, _, rfl, iteF ?_⟩
    refine ⟨_, rfl, .int b, rfl, AnyF.int Cs H b, _, rfl, iteF ?_⟩
    refine ⟨_, rfl, rfl, _, rfl, ?_⟩
    refine ite2 (fun c => ?_) (fun c => ?_)
    · exact absurd (V.int.inj (of_decide_eq_true c)) b0
    refine ⟨_, rfl, _, rfl, t, b, rfl, ?_⟩
    refine ⟨fun σ Hz => Hz = H ∧ σ = [some (.ref p), some (.int t), some (.int b), some (.int (sgcd t b))], ?_, ?_⟩
    · refine ⟨_, rfl, _, _, rfl, rfl, _, rfl, ?_⟩
      refine ite2 (fun c => ?_) (fun c => ?_)
      · have c' : b < 0 := of_decide_eq_true c
        refine ⟨_, rfl, _, rfl, rfl, ?_⟩
        unfold sgcd
        rw [if_pos c']
        rfl
      · have c' : ¬ b < 0 := fun z => c (decide_eq_true z)
        refine ⟨rfl, ?_⟩
        unfold sgcd
        rw [if_neg c']
        rfl
    · rintro σ Hz ⟨rfl, rfl⟩
      have sn := sgcd_ne (t := t) b0
      have sl : (sgcd t b).natAbs.log2 < 9000 := log_le (sgcd_le b0) lb (Int.natAbs_ne_zero.mpr sn)
      refine ⟨_, rfl, _, rfl, _, _, rfl, rfl, ⟨sn, sl⟩, _, rfl, p, CR, dx, _, rfl, hp, T.cl, T.nT, (by show 0 < 1000; decide), ?_⟩
      refine ⟨_, rfl, _, rfl, _, _, rfl, rfl, ⟨sn, sl⟩, _, rfl, p, CR, dx, _, rfl, upd_same, T.cl, T.nB, (by show 1 < 1000; decide), ?_⟩
      refine kQ _ upd_same fun c o z nc => ?_
      rw [upd_ne nc, upd_ne nc]
      exact z
theorem ok_isnum {f : Addr} {fd : FuncData} (F : Fun K "is_number" "Ratio.is_number" s_isnum f fd) (T : RTx K mg Cs CR) (D_whole0 : DefAt P w K mg base CX0 1 "is_whole" ["value"] (spWh Cs)) : FnOk P w K mg base CX0 2 f fd ["thing"] (spIsnum Cs CR) := by
  refine F.ok sc_isnum (fun vs H Q E h => ?_) (fun cdv A outer s H vs Q E hr h => ?_)
  · obtain ⟨v, b, rfl, _⟩ := h
    rfl
  · obtain ⟨v, b, rfl, hv, q⟩ := h
    refine ⟨_, (pss_one (ps_ret (pe_or (pe_callB call_isi (by rfl) T.z_isinstance boot_isinstance (pa_cons (pv 0) (pa_cons (pe_glob (v := .ref CR) (by rfl) T.gR rfl) pa_nil))) (pe_one (My.pe_d D_whole0 (hr.mono (by decide)) (by rfl) pass0 (pa_cons (pv 0) pa_nil)))))), ?_⟩
    rcases hv with ⟨rfl, p, n, d, rfl, ⟨dx, e⟩⟩ | ⟨hv, no, rfl⟩
    · exact ⟨_, rfl, _, _, _, _, true, rfl, .own _, T.own.ty e, T.own.me, _, rfl, iteT q⟩
    · obtain ⟨t, tx, k1, _⟩ := T.fam.isi T.inn hv no
      exact ⟨_, rfl, _, _, _, _, false, rfl, .own _, tx, k1, _, rfl, iteF ⟨_, rfl, _, rfl, hv, q⟩⟩
theorem ok_of {f : Addr} {fd : FuncData} (F : Fun K "of" "Ratio.of" s_of f fd) (T : RTx K mg Cs CR) (S_is_number : StatAt P w K mg base CX0 2 CR "is_number" ["thing"] (spIsnum Cs CR)) (D_partsof : DefAt P w K mg base CX0 1 "parts_of" ["number"] (spParts0 CR))
    (M_Ratio : MakeAt P w K mg base (L2.CX P w) 3 "Ratio" CR ["self", "top", "bottom"] (spRinit CR) []) : FnOk P w K mg base CX0 5 f fd ["number"] (spOf CR) := by
  refine F.ok sc_of (fun vs H Q E h => ?_) (fun cdv A outer s H vs Q E hr h => ?_)
  · obtain ⟨v, a, b, rfl, _⟩ := h
    rfl
  · obtain ⟨v, a, b, rfl, hv, b0, lb, q⟩ := h
    refine ⟨_, (pss_cons (ps_if (pt_not (pt_val (My.pe_st S_is_number (hr.mono (by decide)) pass0 (pe_glob (v := .ref CR) (by rfl) T.gR rfl) (pa_cons (pv 0) pa_nil)))) (pss_one ps_never) pss_nil)
      (pss_cons (ps_asg (My.pe_d D_partsof (hr.mono (by decide)) (by rfl) pass0 (pa_cons (pv 0) pa_nil)) (pg_tup rfl (pgs_cons (pg_name (i := 1) sc_of.nd rfl (Or.inl rfl)) (pgs_cons (pg_name (i := 2) sc_of.nd rfl (Or.inl rfl)) pgs_nil))))
      (pss_one (ps_ret (My.pe_mk M_Ratio (hr.mono (by decide)) (by rfl) passL (pa_cons (pv 1) (pa_cons (pv 2) pa_nil))))))), ?_⟩
    rcases hv with ⟨p, rfl, hl⟩ | ⟨rfl, rfl⟩
    · refine ⟨rfl, _, rfl, .ref p, true, rfl, .inl ⟨rfl, p, a, b, rfl, hl⟩, _, rfl, iteF ?_⟩
      refine ⟨_, rfl, .ref p, a, b, rfl, .inl ⟨p, rfl, hl⟩, fun t ht => ?_⟩
      refine ⟨t, _, rfl, SqT.of upd_same, rfl, _, _, rfl, _, _, rfl, rfl, ?_⟩
      exact ⟨_, rfl, _, rfl, fun x dx hx hd ne => rinit_at b0 lb hx hd ne fun H' l s => q x H' l ((same_new ht).trans s)⟩
    · refine ⟨rfl, _, rfl, .int a, true, rfl, .inr ⟨AnyF.int Cs H a, (fun _ _ _ z => nomatch z), rfl⟩, _, rfl, iteF ?_⟩
      refine ⟨_, rfl, .int a, a, 1, rfl, .inr ⟨rfl, rfl⟩, fun t ht => ?_⟩
      refine ⟨t, _, rfl, SqT.of upd_same, rfl, _, _, rfl, _, _, rfl, rfl, ?_⟩
      exact ⟨_, rfl, _, rfl, fun x dx hx hd ne => rinit_at b0 lb hx hd ne fun H' l s => q x H' l ((same_new ht).trans s)⟩
end
end My
/-! == of two tuples whose items are compared by their own ==, either answer. -/
namespace My
open PySem PySem.SeqAt
open AutoSeq1 (wpAny_loadPart')
open MeetsSeq MeetsSeq2 MeetsSeq3 SeqRoads2 GQ
section
variable {prog : Program} {w : World} {A : Around} {R : Result → Shared → Prop}
theorem tuple_eqB (l b : Addr) (items items2 : Array Value) (n n2 : Nat) (dd dd2 : Option Addr) (sl sl2 : Array (Option Value)) (I : Nat → Shared → Prop)
    (turn : ∀ i (h1 : i < items.size) (h2 : i < items2.size) s, I i s → wpAny (model prog w) A.in1 (eqBool items[i] items2[i]) (fun r s' => (r = true ∧ I (i + 1) s') ∨ (r = false ∧ R (.ok (.ret (.bool false))) s')) (fun e s' => R (.error e) s') s)
    (fin : ∀ s, I (min items.size items2.size) s → R (.ok (.ret (.bool (items.size == items2.size)))) s) {s : Shared} (hl1 : s.heap.get? l = some { cls := .type "tuple", dict := dd, data := .seq items n, slots := sl }) (hb1 : s.heap.get? b = some { cls := .type "tuple", dict := dd2, data := .seq items2 n2, slots := sl2 }) (h : I 0 s) :
    wpAny (model prog w) A.in1 (Builtin.«tuple.__eq__» ⟨[.ref l, .ref b], []⟩) (FinOf prog w A R) (fun e s' => R (.error e) s') s := by
  have f2 := AutoSeq1.sub_tuple_tuple
  have hZ : (items.toList.zip items2.toList).length = min items.size items2.size := by simp
  have h0 := h
  obtain ⟨hp, g, d, tk, os⟩ := s
  wp_walk using wpAny_loadPart' hl1, wpAny_loadPart' hb1, wpAny_forIn_list _ (fun rest b s' => b.1 = none ∧ ∃ i, rest = (items.toList.zip items2.toList).drop i ∧ i ≤ min items.size items2.size ∧ I i s') _
  case turn =>
    rintro ⟨y, x⟩ rest b s' ⟨hb', i, hz, hi, hI⟩
    have hlt : i < (items.toList.zip items2.toList).length := by
      rcases Nat.lt_or_ge i (items.toList.zip items2.toList).length with h' | h'
      · exact h'
      · rw [List.drop_of_length_le h'] at hz; cases hz
    have h1 : i < items.size := by rw [hZ] at hlt; omega
    have h2 : i < items2.size := by rw [hZ] at hlt; omega
    rw [List.drop_eq_getElem_cons hlt] at hz
    injection hz with hyx hrest
    have hy : y = items[i] := by have := congrArg Prod.fst hyx; simpa using this
    have hx : x = items2[i] := by have := congrArg Prod.snd hyx; simpa using this
    subst hy hx
    refine wpAny_bind (wpAny_mono (turn i h1 h2 s' hI) (fun r s2 q2 => ?_) fun _ _ x => x)
    rcases q2 with ⟨hr, q2⟩ | ⟨hr, q2⟩
    · subst hr
      wp_walk
      exact ⟨rfl, i + 1, hrest, by rw [hZ] at hlt; omega, q2⟩
    · subst hr
      wp_walk
      exact q2
  case fin =>
    rintro ⟨b1, b2⟩ s' ⟨hb', i, hz, hi, hI⟩
    simp only at hb'
    subst hb'
    have hge : min items.size items2.size ≤ i := by
      rcases Nat.lt_or_ge i (items.toList.zip items2.toList).length with h' | h'
      · rw [List.drop_eq_getElem_cons h'] at hz; cases hz
      · exact hZ ▸ h'
    have hi' : i = min items.size items2.size := by omega
    have hR := fin s' (hi' ▸ hI)
    wp_walk
    simpa [Builtin.Tuple.tupleCompareSizes] using hR
  case h =>
    exact ⟨rfl, 0, rfl, Nat.zero_le _, h0⟩
end
section
variable {prog : Program} {w : World} {A : Around} {E : Value → Shared → Prop} {s : Shared}
theorem rc_tupB {l b : Addr} {items items2 : Array Value} {Q : Value → Shared → Prop} (hu : A.units < cLine) (I : Nat → Shared → Prop) (hl : s.heap.IsTuple l items) (hb : s.heap.IsTuple b items2)
    (turn : ∀ i (h1 : i < items.size) (h2 : i < items2.size) s, I i s → wpAny (model prog w) A.in1 (eqBool items[i] items2[i]) (fun r s' => (r = true ∧ I (i + 1) s') ∨ (r = false ∧ Q (.bool false) s')) E s)
    (fin : ∀ s, I (min items.size items2.size) s → Q (.bool (items.size == items2.size)) s) (h : I 0 s) : wpAny (model prog w) A (richCompare .Eq (.ref l) (.ref b)) Q E s := by
  obtain ⟨⟨cls, dd, data, sl⟩, ho, hc, n, hd⟩ := id hl
  obtain ⟨⟨cls2, dd2, data2, sl2⟩, ho2, hc2, n2, hd2⟩ := id hb
  simp only at hc hd hc2 hd2
  subst hc hd hc2 hd2
  refine wpAny_richCompare_same_room (op := .Eq) ⟨_, ho, rfl⟩ ⟨_, ho2, rfl⟩ F.slot_tuple_eq (call_here F.slot_tuple_eq ⟨_, ho, rfl⟩ F.entry_tuple_eq (F.args_tuple_eq_2 _ _) ?_) hu
  refine tuple_eqB (R := wants (fun v s' => v ≠ .notImplemented ∧ Q v s') E) l b items items2 n n2 dd dd2 sl sl2 I (fun i h1 h2 s' hI => wpAny_mono (turn i h1 h2 s' hI) (fun r s2 q => ?_) fun _ _ x => x) (fun s' q => ⟨(fun x => nomatch x), fin s' q⟩) ho ho2 h
  rcases q with ⟨e, q⟩ | ⟨e, q⟩
  · exact .inl ⟨e, q⟩
  · exact .inr ⟨e, (fun x => nomatch x), q⟩
end
section
open PySem.Spec PyProof.Rows L2
abbrev EqvB := V → V → Bool → Hp → Prop
def MonB (D : EqvB) : Prop := ∀ x y b H H', Ext H H' → D x y b H → D x y b H'
/-- == inside a builtin gives what D says -/
def EqB (X : Cx) (n : Nat) (D : EqvB) : Prop :=
  ∀ (A : Around) (pins : List (Addr × Obj)) (s : Shared) (σ : L2.St) (H : Hp) (x y : V) (u v : Value) (b : Bool), Sub X n A → Inv X pins σ H s → RelV x u → RelV y v → D x y b H →
    wpAny (model X.prog X.w) A (eqBool u v) (fun r s' => r = b ∧ ∃ H', Inv X pins σ H' s' ∧ Ext H H') X.xe s
def RcB (X : Cx) (n : Nat) (D : EqvB) : Prop :=
  ∀ (A : Around) (pins : List (Addr × Obj)) (s : Shared) (σ : L2.St) (H : Hp) (x y : V) (u v : Value) (b : Bool), Sub X n A → Inv X pins σ H s → RelV x u → RelV y v → D x y b H →
    wpAny (model X.prog X.w) A (richCompare .Eq u v) (fun r s' => r = .bool b ∧ ∃ H', Inv X pins σ H' s' ∧ Ext H H') X.xe s
variable {X : Cx} {n : Nat} {D : EqvB}
theorem RcB.eqB (h : RcB X n D) (hr : ∀ x y b H, D x y b H → ∃ p q, x = .ref p ∧ y = .ref q ∧ (p = q → b = true)) : EqB X n D := by
  intro A pins s σ H x y u v b sb I rx ry d
  obtain ⟨p, q, rfl, rfl, he⟩ := hr _ _ _ _ d
  cases rx
  cases ry
  by_cases hab : p = q
  · subst hab
    rw [he rfl]
    exact SeqAt.EqAt.same (A := A) (s := s) (.ref p) X.prog X.w X.xe _ ⟨rfl, H, I, Ext.rfl'⟩
  · refine GQ.eqBool_refG hab (wpAny_mono (h A pins s σ H (.ref p) (.ref q) _ _ b sb I rfl rfl d) (fun r s' z => ?_) fun _ _ x => x)
    obtain ⟨hr', z⟩ := z
    exact ⟨b, hr', rfl, z⟩
/-- tuples, item by item -/
def DTupB (K : PySem.W.Frag) (D : EqvB) : EqvB := fun x y b H => ∃ (p q : Addr) (xs ys : List V) (f : Nat → Bool), x = .ref p ∧ y = .ref q ∧ SqT K H p xs ∧ SqT K H q ys ∧
  (∀ (i : Nat) v u, xs[i]? = some v → ys[i]? = some u → D v u (f i) H) ∧ b = ((List.range (min xs.length ys.length)).all f && xs.length == ys.length)
theorem all_take {f : Nat → Bool} {m i : Nat} (hi : i < m) (h : f i = false) : (List.range m).all f = false := by
  rw [List.all_eq_false]
  exact ⟨i, List.mem_range.mpr hi, by rw [h]; exact Bool.false_ne_true⟩
theorem rcB_tup (hD : MonB D) (h : EqB X n D) : RcB X (n + 1) (DTupB X.K D) := by
  intro A pins s σ H x y u v b sb I rx ry d
  obtain ⟨p, q, xs, ys, f, rfl, rfl, ha, hb, hf, eb⟩ := d
  cases rx
  cases ry
  obtain ⟨its, r, e, z⟩ := I.tuple ha
  obtain ⟨its2, r2, e2, z2⟩ := I.tuple hb
  have l1 : its.toArray.size = xs.length := by rw [List.size_toArray, ← r.length]
  have l2 : its2.toArray.size = ys.length := by rw [List.size_toArray, ← r2.length]
  refine rc_tupB sb.room.units0 (fun i s' => (∃ H', Inv X pins σ H' s' ∧ Ext H H') ∧ ∀ j, j < i → f j = true) e e2 (fun i h1 h2 s' hq => ?_) (fun s' hq => ?_) ⟨⟨H, I, Ext.rfl'⟩, fun j hj => absurd hj (Nat.not_lt_zero _)⟩
  · obtain ⟨⟨H1, I1, e1⟩, hj⟩ := hq
    have g1 : its[i]? = some its.toArray[i] := by
      have h1' : i < its.length := by simpa using h1
      rw [List.getElem?_eq_getElem h1'] <;> simp
    have g2 : its2[i]? = some its2.toArray[i] := by
      have h2' : i < its2.length := by simpa using h2
      rw [List.getElem?_eq_getElem h2'] <;> simp
    have k1 : i < xs.length := by omega
    have k2 : i < ys.length := by omega
    obtain ⟨u, hu, ru⟩ := r.get (List.getElem?_eq_getElem k1)
    obtain ⟨v, hv, rv⟩ := r2.get (List.getElem?_eq_getElem k2)
    rw [g1] at hu
    rw [g2] at hv
    rw [Option.some.inj hu, Option.some.inj hv]
    refine wpAny_mono (h A.in1 pins s' σ H1 _ _ u v (f i) sb.in1 I1 ru rv (hD _ _ _ _ _ e1 (hf i _ _ (List.getElem?_eq_getElem k1) (List.getElem?_eq_getElem k2)))) (fun r s2 q => ?_) fun _ _ x => x
    obtain ⟨hr, H2, I2, e2⟩ := q
    cases hfi : f i with
    | true =>
      refine .inl ⟨hr.trans hfi, ⟨H2, I2, e1.trans e2⟩, fun j hj' => ?_⟩
      rcases Nat.lt_or_ge j i with z | z
      · exact hj j z
      · have : j = i := by omega
        rw [this]; exact hfi
    | false =>
      refine .inr ⟨hr.trans hfi, ?_, H2, I2, e1.trans e2⟩
      rw [eb, all_take (i := i) (by omega) hfi]; rfl
  · obtain ⟨⟨H1, I1, e1⟩, hj⟩ := hq
    refine ⟨?_, H1, I1, e1⟩
    rw [eb, l1, l2]
    have : (List.range (min xs.length ys.length)).all f = true := by
      rw [List.all_eq_true]
      intro j hm
      exact hj j (by have := List.mem_range.mp hm; rw [l1, l2]; exact this)
    rw [this]; rfl
/-- instances of C by their own == -/
def DOwnB (C : Addr) (sp : Sp) (E : XK) : EqvB := fun x y b H => ∃ p q dx dy fs gs, x = .ref p ∧ y = .ref q ∧ H p = some (.ins C dx fs) ∧ H q = some (.ins C dy gs) ∧ (p = q → b = true) ∧ ∀ H1, Ext H H1 → sp [x, y] H1 (fun v H' => v = .bl b ∧ Ext H1 H') E
theorem mon_ownB {C : Addr} {sp : Sp} {E : XK} : MonB (DOwnB C sp E) := by
  rintro x y b H H' e ⟨p, q, dx, dy, fs, gs, hx, hy, h1, h2, h3, h4⟩
  exact ⟨p, q, dx, dy, fs, gs, hx, hy, e _ _ h1, e _ _ h2, h3, fun H1 e1 => h4 H1 (e.trans e1)⟩
theorem rcB_own {CX : CXT} {k : Nat} {C : Addr} {ps : List Str} {sp : Sp} {E : XK} (M : CmpAt X.prog X.w X.K X.mg X.base CX k C "__eq__" ps sp) (hx : Passes CX X E) : RcB X k (DOwnB C sp E) := by
  intro A pins s σ H x y u v b sb I rx ry d
  obtain ⟨p, q, dx, dy, fs, gs, rfl, rfl, ha, hb', _, hsp⟩ := d
  obtain ⟨f, fd, hs, hf, F, hb⟩ := M.ex
  cases rx
  cases ry
  obtain ⟨ox, od, J, _⟩ := ins_plain I ha
  obtain ⟨ox', od', J', _⟩ := ins_plain I hb'
  obtain ⟨m, hF⟩ := I.fr
  refine PySem.W.cmp_K (op := .Eq) (tb := .ref C) sb.room.units0 hF I.ok.mod.kin J J'.type (by simp [PySem.W.notFirst]) hs hf ?_
  refine wpAny_mono (run_at (vs := [.ref p, .ref q]) F hb hx ⟨sb.room, sb.fr⟩ I (.cons rfl (.cons rfl .nil)) (hsp H Ext.rfl')) (fun r s' z => ?_) fun _ _ z => z
  obtain ⟨zv, H', I', rz, rfl, ex⟩ := z
  cases rz
  exact ⟨rfl, H', I', ex⟩
/-- x == y of two tuples of instances -/
def rEqB (D : EqvB) : R2 := fun x y H Q => ∃ b, D x y b H ∧ ∀ H', Ext H H' → Q (.bl b) H'
theorem op_eqB (h : RcB X n D) (hr : Room n X.A) : OpR X (compareOp .Eq) (rEqB D) := by
  intro pins s σ H x y v u Q I rx ry hq
  obtain ⟨b, d, q⟩ := hq
  show wpAny (model X.prog X.w) X.A (richCompare .Eq v u) (EP X pins σ Q) X.xe s
  refine wpAny_mono (h X.A pins s σ H x y v u b ⟨hr, rfl⟩ I rx ry d) (fun r s' z => ?_) fun _ _ x => x
  obtain ⟨hr', H', I', e⟩ := z
  subst hr'
  exact ⟨.bl b, H', I', rfl, q H' e⟩
/-- tuples of instances of C -/
theorem op_eqTO {CX : CXT} {k : Nat} {C : Addr} {ps : List Str} {sp : Sp} {E : XK} (M : CmpAt X.prog X.w X.K X.mg X.base CX k C "__eq__" ps sp) (hr : Room (k + 1) X.A) (hx : Passes CX X E) : OpR X (compareOp .Eq) (rEqB (DTupB X.K (DOwnB C sp E))) :=
  op_eqB (rcB_tup mon_ownB ((rcB_own M hx).eqB fun x y b H d => by
    obtain ⟨p, q, _, _, _, _, h1, h2, _, _, h3, _⟩ := d
    exact ⟨p, q, h1, h2, h3⟩)) hr
end
end My
set_option pp.maxSteps 1500
set_option pp.deepTerms.threshold 8
/-! ### numbers compared, their sizes -/
namespace My
open PySem PySem.Spec PyProof.Rows L2
abbrev s_rgt : Stmt := inClass (topS 19) 23
theorem sc_rgt : FnScope ["self", "other", "top", "bottom"] ["self", "other"] (defScope s_rgt) := ⟨rfl, rfl, rfl, by decide +kernel, rfl, by decide +kernel, by decide +kernel⟩
abbrev s_rabs : Stmt := inClass (topS 19) 18
theorem sc_rabs : FnScope ["self"] ["self"] (defScope s_rabs) := ⟨rfl, rfl, rfl, by decide +kernel, rfl, by decide +kernel, by decide +kernel⟩
abbrev s_req : Stmt := inClass (topS 19) 20
theorem sc_req : FnScope ["self", "other"] ["self", "other"] (defScope s_req) := ⟨rfl, rfl, rfl, by decide +kernel, rfl, by decide +kernel, by decide +kernel⟩
/-- in lowest terms -/
def Lw (a b : Int) : Prop := 0 < b ∧ Int.gcd a b = 1
theorem Lw.low {a b : Int} (h : Lw a b) : lowT a b = a ∧ lowB a b = b := low_self h.1 h.2
theorem Lw.abs {a b : Int} (h : Lw a b) : Lw (if a < 0 then -a else a) b := by
  refine ⟨h.1, ?_⟩
  have := h.2
  split
  · rw [Int.neg_gcd]; exact this
  · exact this
/-- p > v -/
def spGtR (C : Addr) : Sp := fun vs H Q _ => ∃ (p : Addr) (a b : Int) (v : V) (c d : Int), vs = [.ref p, v] ∧ RatAt C H p a b ∧ NumAt C H v c d ∧ Sm a ∧ Sm b ∧ Sm c ∧ Sm d ∧ ∀ H', Same H H' → Q (.bl (decide (c * b < a * d))) H'
def spAbsR (C : Addr) : Sp := fun vs H Q _ => ∃ (p : Addr) (a b : Int), vs = [.ref p] ∧ RatAt C H p a b ∧ Lw a b ∧ b.natAbs.log2 < 9000 ∧ ∀ q H', RatAt C H' q (if a < 0 then -a else a) b → Same H H' → Q (.ref q) H'
def spEqR (Cs : List Addr) (C : Addr) : Sp := fun vs H Q _ => ∃ (p : Addr) (a b : Int) (v : V), vs = [.ref p, v] ∧ RatAt C H p a b ∧
  ((∃ c d, NumAt C H v c d ∧ ∀ H', Same H H' → Q (.bl (decide (a = c ∧ b = d))) H') ∨ (AnyF Cs H v ∧ notIns C H v ∧ isI v = false ∧ Q (.bl false) H))
theorem eqv_two (a b c d : Int) : PyData.eqv (.tuple [.int a, .int b]) (.tuple [.int c, .int d]) = decide (a = c ∧ b = d) := by
  show (a == c && (b == d && true)) = decide (a = c ∧ b = d)
  rw [Bool.and_true, Bool.decide_and]
  rfl
theorem NumAt.any {Cs : List Addr} {C : Addr} (inn : C ∈ Cs) {H : Hp} {v : V} {a b : Int} (h : NumAt C H v a b) : AnyF Cs H v := by
  rcases h with ⟨p, e, dx, g⟩ | ⟨e, _⟩
  · exact .inr ⟨C, inn, p, dx, _, e, g⟩
  · rw [e]; exact AnyF.int Cs H a
section
variable {P : Program} {w : World} {K : PySem.W.Frag} {mg : Str → Option Value} {base : Heap} {Cs : List Addr} {CR : Addr}
theorem ok_rgt {f : Addr} {fd : FuncData} (F : Fun K "__gt__" "Ratio.__gt__" s_rgt f fd) (T : RTx K mg Cs CR) (S_is_number : StatAt P w K mg base CX0 2 CR "is_number" ["thing"] (spIsnum Cs CR)) (D_partsof : DefAt P w K mg base CX0 1 "parts_of" ["number"] (spParts0 CR)) : FnOk P w K mg base CX0 3 f fd ["self", "other"] (spGtR CR) := by
  refine F.ok sc_rgt (fun vs H Q E h => ?_) (fun cdv A outer s H vs Q E hr h => ?_)
  · obtain ⟨p, a, b, v, c, d, rfl, _⟩ := h
    rfl
  · obtain ⟨p, a, b, v, c, d, rfl, hp, hv, sa, sb, sc, sd, k⟩ := h
    refine ⟨_, (pss_cons (ps_if (pt_not (pt_val (My.pe_st S_is_number (hr.mono (by decide)) pass0 (pe_glob (v := .ref CR) (by rfl) T.gR rfl) (pa_cons (pv 1) pa_nil)))) (pss_one ps_never) pss_nil)
      (pss_cons (ps_asg (My.pe_d D_partsof (hr.mono (by decide)) (by rfl) pass0 (pa_cons (pv 1) pa_nil)) (pg_tup rfl (pgs_cons (pg_name (i := 2) sc_rgt.nd rfl (Or.inl rfl)) (pgs_cons (pg_name (i := 3) sc_rgt.nd rfl (Or.inl rfl)) pgs_nil))))
      (pss_one (ps_ret (pe_cmpR op_gt (pe_op op_mulW (pe_fld (pv 0) rfl) (pv 3)) (pe_op op_mulW (pv 2) (pe_fld (pv 0) rfl)) (nomark _)))))), ?_⟩
    obtain ⟨dx, e⟩ := id hp
    refine ⟨rfl, _, rfl, v, true, rfl, .num hv, _, rfl, iteF ?_⟩
    refine ⟨_, rfl, v, c, d, rfl, hv, fun t ht => ?_⟩
    have s1 := same_new (o := .tup [.int c, .int d]) ht
    have e1 := s1 _ _ e
    refine ⟨t, _, rfl, SqT.of upd_same, rfl, _, _, rfl, _, _, rfl, rfl, ?_⟩
    refine ⟨_, rfl, p, CR, dx, _, _, rfl, e1, T.cl, T.nT, rfs_top _ _, _, rfl, _, _, rfl, rfl, Sm.mul sa sd, _, rfl, _, rfl, p, CR, dx, _, _, rfl, e1, T.cl, T.nB, rfs_bot _ _, _, _, rfl, rfl, Sm.mul sc sb, _, _, rfl, rfl, ?_⟩
    exact k _ s1
theorem ok_rabs {f : Addr} {fd : FuncData} (F : Fun K "__abs__" "Ratio.__abs__" s_rabs f fd) (T : RTx K mg Cs CR) (M_Ratio : MakeAt P w K mg base (L2.CX P w) 3 "Ratio" CR ["self", "top", "bottom"] (spRinit CR) []) : FnOk P w K mg base CX0 5 f fd ["self"] (spAbsR CR) := by
  refine F.ok sc_rabs (fun vs H Q E h => ?_) (fun cdv A outer s H vs Q E hr h => ?_)
  · obtain ⟨p, a, b, rfl, _⟩ := h
    rfl
  · obtain ⟨p, a, b, rfl, hp, lw, lb, k⟩ := h
    refine ⟨_, (pss_one (ps_ret (My.pe_mk M_Ratio (hr.mono (by decide)) (by rfl) passL (pa_cons (pe_callB call_abs (by rfl) T.z_abs boot_abs (pa_cons (pe_fld (pv 0) rfl) pa_nil)) (pa_cons (pe_fld (pv 0) rfl) pa_nil))))), ?_⟩
    obtain ⟨dx, e⟩ := id hp
    refine ⟨_, rfl, p, CR, dx, _, _, rfl, e, T.cl, T.nT, rfs_top _ _, a, rfl, _, rfl, p, CR, dx, _, _, rfl, e, T.cl, T.nB, rfs_bot _ _, fun x dx' hx hd ne => ?_⟩
    have l2 := lw.abs.low
    refine rinit_at (by have := lw.1; omega) lb hx hd ne fun H' l s' => ?_
    rw [l2.1, l2.2] at l
    exact k x H' l s'
theorem ok_req {f : Addr} {fd : FuncData} (F : Fun K "__eq__" "Ratio.__eq__" s_req f fd) (T : RTx K mg Cs CR) (S_is_number : StatAt P w K mg base CX0 2 CR "is_number" ["thing"] (spIsnum Cs CR)) (D_partsof : DefAt P w K mg base CX0 1 "parts_of" ["number"] (spParts0 CR)) : FnOk P w K mg base CX0 3 f fd ["self", "other"] (spEqR Cs CR) := by
  refine F.ok sc_req (fun vs H Q E h => ?_) (fun cdv A outer s H vs Q E hr h => ?_)
  · obtain ⟨p, a, b, v, rfl, _⟩ := h
    rfl
  · obtain ⟨p, a, b, v, rfl, hp, h⟩ := h
    refine ⟨_, (pss_one (ps_ret (pe_and (My.pe_st S_is_number (hr.mono (by decide)) pass0 (pe_glob (v := .ref CR) (by rfl) T.gR rfl) (pa_cons (pv 1) pa_nil)) (pe_one (pe_cmpR (op_eqD hr.units) (pe_tup (pa_cons (pe_fld (pv 0) rfl) (pa_cons (pe_fld (pv 0) rfl) pa_nil))) (My.pe_d D_partsof (hr.mono (by decide)) (by rfl) pass0 (pa_cons (pv 1) pa_nil)) (nomark _)))))), ?_⟩
    obtain ⟨dx, e⟩ := id hp
    rcases h with ⟨c, d, hv, k⟩ | ⟨hv, no, ni, k⟩
    · refine ⟨rfl, _, rfl, v, true, rfl, .num hv, _, rfl, iteT ?_⟩
      refine ⟨_, rfl, p, CR, dx, _, _, rfl, e, T.cl, T.nT, rfs_top _ _, _, rfl, p, CR, dx, _, _, rfl, e, T.cl, T.nB, rfs_bot _ _, (by show 2 ≤ sizeLine; decide), fun t1 h1 => ?_⟩
      refine ⟨_, rfl, v, c, d, rfl, hv.same (same_new h1), fun t2 h2 => ?_⟩
      have w1 := same_new (o := .tup [.int c, .int d]) h2 _ _ (upd_same (H := H) (a := t1) (o := .tup [.int a, .int b]))
      refine ⟨.tuple [.int a, .int b], .tuple [.int c, .int d], .tup (SqT.of w1) (.cons (.int a) (.cons (.int b) .nil)), .tup (SqT.of upd_same) (.cons (.int c) (.cons (.int d) .nil)), rfl, rfl, ?_⟩
      rw [eqv_two]
      exact k _ ((same_new h1).trans (same_new h2))
    · exact ⟨rfl, _, rfl, v, false, rfl, .odd hv no ni, _, rfl, iteF k⟩
end
end My
set_option pp.maxSteps 1500
set_option pp.deepTerms.threshold 8
/-! ### clips: made of numbers -/
namespace My
open PySem PySem.Spec PyProof.Rows L2
abbrev s_isint : Stmt := topS 21
theorem sc_isint : FnScope ["value"] ["value"] (defScope s_isint) := ⟨rfl, rfl, rfl, by decide +kernel, rfl, by decide +kernel, by decide +kernel⟩
abbrev s_isbtw : Stmt := topS 22
theorem sc_isbtw : FnScope ["value", "least", "most"] ["value", "least", "most"] (defScope s_isbtw) := ⟨rfl, rfl, rfl, by decide +kernel, rfl, by decide +kernel, by decide +kernel⟩
abbrev s_needplc : Stmt := topS 26
theorem sc_needplc : FnScope ["place", "length"] ["place", "length"] (defScope s_needplc) := ⟨rfl, rfl, rfl, by decide +kernel, rfl, by decide +kernel, by decide +kernel⟩
abbrev s_isstr : Stmt := topS 27
theorem sc_isstr : FnScope ["at"] ["at"] (defScope s_isstr) := ⟨rfl, rfl, rfl, by decide +kernel, rfl, by decide +kernel, by decide +kernel⟩
abbrev s_ratof : Stmt := topS 29
theorem sc_ratof : FnScope ["number"] ["number"] (defScope s_ratof) := ⟨rfl, rfl, rfl, by decide +kernel, rfl, by decide +kernel, by decide +kernel⟩
abbrev s_cinit : Stmt := inClass (topS 31) 1
theorem sc_cinit : FnScope ["self", "samples", "at", "sample"] ["self", "samples"] (defScope s_cinit) := ⟨rfl, rfl, rfl, by decide +kernel, rfl, by decide +kernel, by decide +kernel⟩
abbrev s_cof : Stmt := inClass (topS 31) 2
theorem sc_cof : FnScope ["cls", "items"] ["cls", "items"] (defScope s_cof) := ⟨rfl, rfl, rfl, by decide +kernel, rfl, by decide +kernel, by decide +kernel⟩
abbrev s_clen : Stmt := inClass (topS 31) 15
theorem sc_clen : FnScope ["self"] ["self"] (defScope s_clen) := ⟨rfl, rfl, rfl, by decide +kernel, rfl, by decide +kernel, by decide +kernel⟩
/-- an error of the class C with two fields -/
def Errs2 (E : XK) (C : Addr) (f g : Str) (v u : V) (H : Hp) : Prop := ∀ (d : Addr) (H' : Hp), H d = none → H' d = some (.xd [(f, v), (g, u)]) → Same H H' → E (.ref C) (some d) H'
theorem Errs2.go {E : XK} {C : Addr} {f g : Str} {v u : V} {H : Hp} (h : Errs2 E C f g v u H) {d : Addr} (hd : H d = none) : E (.ref C) (some d) (upd H d (.xd [(f, v), (g, u)])) := h d _ hd upd_same (same_new hd)
theorem Errs2.up {E : XK} {C : Addr} {f g : Str} {v u : V} {H H1 : Hp} (h : Errs2 E C f g v u H) (s : Same H H1) : Errs2 E C f g v u H1 := fun d H' hd hx s' => h d H' (s.free hd) hx (s.trans s')
/-- what the top has written of clips -/
structure CTx (P : Program) (K : PySem.W.Frag) (mg : Str → Option Value) (Cs : List Addr) (CR CC CL fL CP fP CS fS CM fM : Addr) : Prop extends RTx K mg Cs CR where
  inC : CC ∈ Cs
  clC : Cls K CC
  nS : NoAttr K CC "samples"
  gC : mg "Clip" = some (.ref CC)
  ne : CR ≠ CC
  e_BadLength : Sup.Err1 P K mg "BadLength" "value" CL fL
  e_BadPlace : Sup.Err1 P K mg "BadPlace" "value" CP fP
  e_BadSample : Sup.Err1 P K mg "BadSample" "at" CS fS
  e_TooMany : Sup.Err2 P K mg "TooMany" "what" "most" CM fM
  rd : ∃ mc u, ClX.CRead K CC mc ∧ ClX.CVal K CC mc "LONGEST" (.int 2000) u
  z_enumerate : mg "enumerate" = none
  z_zip : mg "zip" = none
theorem CTx.ownC {P : Program} {K : PySem.W.Frag} {mg : Str → Option Value} {Cs : List Addr} {CR CC CL fL CP fP CS fS CM fM : Addr} (T : CTx P K mg Cs CR CC CL fL CP fP CS fS CM fM) : Own K CC := T.fam.own CC T.inC
def cfs (t : Addr) : List (Str × V) := [("samples", .ref t)]
theorem cfs_get (t : Addr) : (cfs t).lookup ("samples" : Str) = some (.ref t) := by
  unfold cfs
  rw [List.lookup_cons]
  rfl
theorem cfs_put0 (t : Addr) : putF "samples" (.ref t) [] = cfs t := rfl
theorem cfs_put (t t' : Addr) : putF "samples" (.ref t') (cfs t) = cfs t' := by
  show putF "samples" (.ref t') [(("samples" : Str), .ref t)] = _
  unfold putF
  first | rfl | (simp [cfs]; done) | decide
/-- these stand for these fractions -/
def Rats (C : Addr) (H : Hp) (vs : List V) (rs : List (Int × Int)) : Prop := vs.length = rs.length ∧ ∀ (i : Nat) (r : Int × Int), rs[i]? = some r → ∃ q, vs[i]? = some (.ref q) ∧ RatAt C H q r.1 r.2
theorem Rats.same {C : Addr} {H H' : Hp} {vs : List V} {rs : List (Int × Int)} (h : Rats C H vs rs) (s : Same H H') : Rats C H' vs rs := ⟨h.1, fun i r e => by obtain ⟨q, e1, e2⟩ := h.2 i r e; exact ⟨q, e1, e2.same s⟩⟩
theorem Rats.nil {C : Addr} {H : Hp} : Rats C H [] [] := ⟨rfl, fun i r e => by simp at e⟩
theorem Rats.snoc {C : Addr} {H : Hp} {vs : List V} {rs : List (Int × Int)} {q : Addr} {r : Int × Int} (h : Rats C H vs rs) (l : RatAt C H q r.1 r.2) : Rats C H (vs ++ [.ref q]) (rs ++ [r]) := by
  refine ⟨by rw [List.length_append, List.length_append, h.1]; rfl, fun i x e => ?_⟩
  by_cases hi : i < rs.length
  · rw [List.getElem?_append_left hi] at e
    obtain ⟨q', e1, e2⟩ := h.2 i x e
    exact ⟨q', by rw [List.getElem?_append_left (by rw [h.1]; exact hi)]; exact e1, e2⟩
  · rw [List.getElem?_append_right (by omega)] at e
    have hz : i - rs.length = 0 := by
      rcases Nat.eq_zero_or_pos (i - rs.length) with z | z
      · exact z
      · rw [List.getElem?_eq_none (by show 1 ≤ _; omega)] at e
        cases e
    rw [hz] at e
    simp at e
    subst e
    refine ⟨q, ?_, l⟩
    rw [List.getElem?_append_right (by rw [h.1]; omega), h.1, hz]
    rfl
theorem Rats.get {C : Addr} {H : Hp} {vs : List V} {rs : List (Int × Int)} {i : Nat} {v : V} (h : Rats C H vs rs) (e : vs[i]? = some v) : ∃ q r, v = .ref q ∧ rs[i]? = some r ∧ RatAt C H q r.1 r.2 := by
  have hi := (List.getElem?_eq_some_iff.mp e).1
  have hr : i < rs.length := by rw [← h.1]; exact hi
  obtain ⟨q, e1, e2⟩ := h.2 i rs[i] (List.getElem?_eq_getElem hr)
  rw [e] at e1
  cases e1
  exact ⟨q, _, rfl, List.getElem?_eq_getElem hr, e2⟩
/-- at p: a clip with these samples, in the tuple at t -/
def ClipT (CC CR : Addr) (H : Hp) (p t : Addr) (vs : List V) (rs : List (Int × Int)) : Prop := (∃ dx, H p = some (.ins CC dx (cfs t))) ∧ H t = some (.tup vs) ∧ Rats CR H vs rs ∧ rs.length ≤ 2000
def ClipAt (CC CR : Addr) (H : Hp) (p : Addr) (rs : List (Int × Int)) : Prop := ∃ t vs, ClipT CC CR H p t vs rs
theorem ClipT.same {CC CR : Addr} {H H' : Hp} {p t : Addr} {vs : List V} {rs : List (Int × Int)} (h : ClipT CC CR H p t vs rs) (s : Same H H') : ClipT CC CR H' p t vs rs := by
  obtain ⟨⟨dx, e⟩, e2, r, l⟩ := h
  exact ⟨⟨dx, s _ _ e⟩, s _ _ e2, r.same s, l⟩
theorem ClipAt.same {CC CR : Addr} {H H' : Hp} {p : Addr} {rs : List (Int × Int)} (h : ClipAt CC CR H p rs) (s : Same H H') : ClipAt CC CR H' p rs := by
  obtain ⟨t, vs, h⟩ := h
  exact ⟨t, vs, h.same s⟩
/-- an int from lo to hi -/
def btw (v : V) (lo hi : Int) : Bool := match v with
  | .int i => decide (lo ≤ i) && decide (i ≤ hi)
  | _ => false
theorem btw_val (i lo hi : Int) : btw (.int i) lo hi = (decide (lo ≤ i) && decide (i ≤ hi)) := rfl
theorem btw_int {v : V} {lo hi : Int} (h : btw v lo hi = true) : ∃ i, v = .int i ∧ lo ≤ i ∧ i ≤ hi := by
  cases v with
  | int i =>
    have h' := (btw_val i lo hi).symm.trans h
    rw [Bool.and_eq_true] at h'
    exact ⟨i, rfl, of_decide_eq_true h'.1, of_decide_eq_true h'.2⟩
  | _ => cases h
theorem btw_of {i lo hi : Int} (h1 : lo ≤ i) (h2 : i ≤ hi) : btw (.int i) lo hi = true := by
  rw [btw_val, decide_eq_true h1, decide_eq_true h2]; rfl
/-- a pair -/
def strB (H : Hp) (v : V) : Bool := match v with
  | .ref a => match H a with
    | some (.tup xs) => decide (V.int (xs.length : Int) = .int 2)
    | _ => false
  | _ => false
theorem strB_tup {H : Hp} {a : Addr} {xs : List V} (e : H a = some (.tup xs)) : strB H (.ref a) = decide (V.int (xs.length : Int) = .int 2) := by
  unfold strB
  simp only [e]
theorem strB_lst {H : Hp} {a : Addr} {xs : List V} (e : H a = some (.lst xs)) : strB H (.ref a) = false := by
  unfold strB
  simp only [e]
theorem strB_dK {H : Hp} {a : Addr} {xs} (e : H a = some (.dK xs)) : strB H (.ref a) = false := by
  unfold strB
  simp only [e]
def spIsbtw (Cs : List Addr) : Sp := fun vs H Q _ => ∃ (v : V) (lo hi : Int), vs = [v, .int lo, .int hi] ∧ AnyF Cs H v ∧ Q (.bl (btw v lo hi)) H
def spNeedLen (Cs : List Addr) (CL : Addr) : Sp := fun vs H Q E => ∃ (v : V), vs = [v] ∧ AnyF Cs H v ∧ (btw v 0 2000 = true → Q .non H) ∧ (btw v 0 2000 = false → Errs E CL "value" v H)
def spNeedPlc (Cs : List Addr) (CP : Addr) : Sp := fun vs H Q E => ∃ (v : V) (n : Int), vs = [v, .int n] ∧ AnyF Cs H v ∧ (btw v 0 (n - 1) = true → Q .non H) ∧ (btw v 0 (n - 1) = false → Errs E CP "value" v H)
def spIsstr : Sp := fun vs H Q _ => ∃ (v : V), vs = [v] ∧ (∃ t, Ty0 H v t) ∧ Q (.bl (strB H v)) H
def spRatof (CR : Addr) : Sp := fun vs H Q _ => ∃ (v : V) (a b : Int), vs = [v] ∧ NumAt CR H v a b ∧ ∀ q H', RatAt CR H' q a b → Same H H' → Q (.ref q) H'
/-- numbers, by their fractions -/
def Nums (C : Addr) (H : Hp) (xs : List V) (rs : List (Int × Int)) : Prop := xs.length = rs.length ∧ ∀ (i : Nat) (v : V) (r : Int × Int), xs[i]? = some v → rs[i]? = some r → NumAt C H v r.1 r.2
theorem Nums.same {C : Addr} {H H' : Hp} {xs : List V} {rs : List (Int × Int)} (h : Nums C H xs rs) (s : Same H H') : Nums C H' xs rs := ⟨h.1, fun i v r e1 e2 => (h.2 i v r e1 e2).same s⟩
theorem Rats.nums {C : Addr} {H : Hp} {xs : List V} {rs : List (Int × Int)} (h : Rats C H xs rs) : Nums C H xs rs := ⟨h.1, fun i v r e1 e2 => by
  obtain ⟨q, e3, l⟩ := h.2 i r e2
  rw [e1] at e3
  cases e3
  exact .inl ⟨q, rfl, l⟩⟩
theorem notIns.same {Cs : List Addr} {C : Addr} {H H' : Hp} {v : V} (a : AnyF Cs H v) (h : notIns C H v) (s : Same H H') : notIns C H' v := by
  intro p dx fs e z
  subst e
  rcases a with ⟨t, a⟩ | ⟨D, hD, p', dx', fs', e, g⟩
  · cases a with
    | lst e => rw [s _ _ e] at z; cases z
    | tup e => rw [s _ _ e] at z; cases z
    | dK e => rw [s _ _ e] at z; cases z
  · cases e
    have := s _ _ g
    rw [z] at this
    cases this
    exact h p dx fs rfl g
theorem IsNum.same {Cs : List Addr} {C : Addr} {H H' : Hp} {v : V} {b : Bool} (h : IsNum Cs C H v b) (s : Same H H') : IsNum Cs C H' v b := by
  rcases h with ⟨e, p, n, d, rfl, l⟩ | ⟨a, n, e⟩
  · exact .inl ⟨e, p, n, d, rfl, l.same s⟩
  · exact .inr ⟨a.same s, n.same a s, e⟩
theorem IsNum.at {Cs : List Addr} {C : Addr} {H : Hp} {v : V} (h : IsNum Cs C H v true) : ∃ a b, NumAt C H v a b := by
  rcases h with ⟨e, p, n, d, rfl, l⟩ | ⟨a, n, e⟩
  · exact ⟨n, d, .inl ⟨p, rfl, l⟩⟩
  · obtain ⟨i, rfl⟩ := isI_int e.symm
    exact ⟨i, 1, .inr ⟨rfl, rfl⟩⟩
theorem isnum_eq {Cs : List Addr} {C : Addr} {H : Hp} {v : V} {b b' : Bool} (h : IsNum Cs C H v b) (h' : IsNum Cs C H v b') : b = b' := by
  rcases h with ⟨e, p, n, d, rfl, dx, l⟩ | ⟨a, n, e⟩
  · rcases h' with ⟨e', _⟩ | ⟨_, n', e'⟩
    · rw [e, e']
    · exact absurd l (n' p dx _ rfl)
  · rcases h' with ⟨e', p', _, _, rfl, dx', l'⟩ | ⟨_, n', e'⟩
    · exact absurd l' (n p' dx' _ rfl)
    · rw [e, e']
theorem nums_of {Cs : List Addr} {C : Addr} {H : Hp} : ∀ (xs : List V), (∀ v ∈ xs, IsNum Cs C H v true) → ∃ rs, Nums C H xs rs
  | [], _ => ⟨[], rfl, fun i v r e => by simp at e⟩
  | x :: xs, h => by
    obtain ⟨rs, h1, h2⟩ := nums_of xs fun v hv => h v (.tail _ hv)
    obtain ⟨a, b, hx⟩ := (h x (.head _)).at
    refine ⟨(a, b) :: rs, by rw [List.length_cons, List.length_cons, h1], fun i v r e1 e2 => ?_⟩
    cases i with
    | zero =>
      cases e1
      cases e2
      exact hx
    | succ i => exact h2 i v r e1 e2
/-- what making a clip of these does -/
def ClipMk (Cs : List Addr) (CR CC CS CM : Addr) (H : Hp) (p : Addr) (xs : List V) (Q : VK) (E : XK) : Prop := xs.length ≤ 100000 ∧ (∀ v ∈ xs, ∃ b, IsNum Cs CR H v b) ∧
  (2000 < xs.length → Errs2 E CM "what" "most" (.str "samples") (.int 2000) H) ∧
  (xs.length ≤ 2000 → ∀ rs, Nums CR H xs rs → ∀ H', ClipAt CC CR H' p rs → (∀ c o, H c = some o → c ≠ p → H' c = some o) → Q .non H') ∧
  (xs.length ≤ 2000 → ∀ (i : Nat) (v : V), xs[i]? = some v → IsNum Cs CR H v false → (∀ (j : Nat) (u : V), j < i → xs[j]? = some u → IsNum Cs CR H u true) → Errs E CS "at" (.int (i : Nat)) H)
/-- Clip.__init__(self, *samples) -/
def spCinit (Cs : List Addr) (CR CC CS CM : Addr) : Sp := fun vs H Q E => ∃ (p dx tt : Addr) (xs : List V), vs = [.ref p, .ref tt] ∧ H p = some (.ins CC dx []) ∧ H tt = some (.tup xs) ∧ ClipMk Cs CR CC CS CM H p xs Q E
def spClip (Cs : List Addr) (CR CC CS CM : Addr) : Sp := fun vs H Q E => ∃ (p dx : Addr) (xs : List V), vs = .ref p :: xs ∧ H p = some (.ins CC dx []) ∧ ClipMk Cs CR CC CS CM H p xs Q E
theorem Rats.put {C : Addr} {H : Hp} {vs : List V} {rs : List (Int × Int)} {c : Addr} {o : HO} (h : Rats C H vs rs) (n : ∀ dx fs, H c ≠ some (.ins C dx fs)) : Rats C (upd H c o) vs rs := ⟨h.1, fun i r e => by
  obtain ⟨q, e1, dx, e2⟩ := h.2 i r e
  refine ⟨q, e1, dx, ?_⟩
  rw [upd_ne (fun z => n dx (rfs r.1 r.2) (by rw [← z]; exact e2))]
  exact e2⟩
section
variable {P : Program} {w : World} {K : PySem.W.Frag} {mg : Str → Option Value} {base : Heap} {Cs : List Addr} {CR CC CL fL CP fP CS fS CM fM : Addr}
theorem ok_isint {f : Addr} {fd : FuncData} (F : Fun K "is_integer" "is_integer" s_isint f fd) (T : BI mg) (fam : Fam K Cs) : FnOk P w K mg base CX0 1 f fd ["value"] (spWh Cs) := by
  refine F.ok sc_isint (fun vs H Q E h => ?_) (fun cdv A outer s H vs Q E hr h => ?_)
  · obtain ⟨v, rfl, _⟩ := h
    rfl
  · obtain ⟨v, rfl, ty, q⟩ := h
    refine ⟨_, (pss_one (ps_ret (pe_and (pe_callB call_isi (by rfl) T.z_isinstance boot_isinstance (pa_cons (pv 0) (pa_cons (pe_bltn (v := .ty "int") (by rfl) T.z_int boot_int rfl) pa_nil))) (pe_one (pe_not (pe_callB call_isi (by rfl) T.z_isinstance boot_isinstance (pa_cons (pv 0) (pa_cons (pe_bltn (v := .ty "bool") (by rfl) T.z_bool boot_bool rfl) pa_nil)))))))), ?_⟩
    obtain ⟨t, b, tx, e1, e2, e3⟩ := fam.kint ty
    refine ⟨_, rfl, v, _, _, _, b, rfl, .ty _, tx, e1, _, rfl, ?_⟩
    cases b with
    | false =>
      refine iteF ?_
      rw [e3 rfl] at q
      exact q
    | true =>
      refine iteT ?_
      obtain ⟨c, e4, e5⟩ := e2 rfl
      refine ⟨_, rfl, v, _, _, _, c, rfl, .ty _, tx, e4, _, rfl, ?_⟩
      rw [e5] at q
      exact q
theorem ok_isbtw {f : Addr} {fd : FuncData} (F : Fun K "is_between" "is_between" s_isbtw f fd) (T : BI mg) (D_isint : DefAt P w K mg base CX0 1 "is_integer" ["value"] (spWh Cs)) : FnOk P w K mg base CX0 2 f fd ["value", "least", "most"] (spIsbtw Cs) := by
  refine F.ok sc_isbtw (fun vs H Q E h => ?_) (fun cdv A outer s H vs Q E hr h => ?_)
  · obtain ⟨v, lo, hi, rfl, _⟩ := h
    rfl
  · obtain ⟨v, lo, hi, rfl, ty, q⟩ := h
    refine ⟨_, (pss_one (ps_ret (pe_and (My.pe_d D_isint (hr.mono (by decide)) (by rfl) pass0 (pa_cons (pv 0) pa_nil)) (pe_one (pe_chain op_le op_le (pv 1) (pv 0) (pv 2)))))), ?_⟩
    refine ⟨_, rfl, v, rfl, ty, _, rfl, ?_⟩
    cases e : isI v with
    | false =>
      refine iteF ?_
      have : btw v lo hi = false := by cases v <;> first | rfl | cases e
      rw [this] at q
      exact q
    | true =>
      refine iteT ?_
      obtain ⟨i, rfl⟩ := isI_int e
      refine ⟨_, rfl, _, rfl, _, _, rfl, rfl, _, rfl, ?_⟩
      rw [btw_val] at q
      refine ite2 (fun c => ?_) (fun c => ?_)
      · rw [c, Bool.true_and] at q
        exact ⟨_, rfl, _, _, rfl, rfl, q⟩
      · have c' : decide (lo ≤ i) = false := by simpa using c
        rw [c', Bool.false_and] at q
        exact q
theorem ok_needplc {f : Addr} {fd : FuncData} (F : Fun K "need_place" "need_place" s_needplc f fd) (T : CTx P K mg Cs CR CC CL fL CP fP CS fS CM fM) (D_isbtw : DefAt P w K mg base CX0 2 "is_between" ["value", "least", "most"] (spIsbtw Cs)) : FnOk P w K mg base (L2.CX P w) 3 f fd ["place", "length"] (spNeedPlc Cs CP) := by
  refine F.okX sc_needplc (fun vs H Q E h => ?_) (fun cdv A outer s H vs Q E hr h => ?_)
  · obtain ⟨v, n, rfl, _⟩ := h
    rfl
  · obtain ⟨v, n, rfl, ty, k1, k2⟩ := h
    refine ⟨_, (pss_one (ps_if (pt_not (pt_val (My.pe_d D_isbtw (hr.mono (by decide)) (by rfl) pass0 (pa_cons (pv 0) (pa_cons pe_int (pa_cons (pe_op op_sub (pv 1) pe_int) pa_nil)))))) (pss_one (ps_raise1 rfl T.e_BadPlace (hr.mono (by decide) : Room 0 _) (takes_of rfl rfl rfl rfl) (pa_cons (pv 0) pa_nil))) pss_nil)), ?_⟩
    refine ⟨_, rfl, _, rfl, _, _, rfl, rfl, v, 0, n - 1, rfl, ty, _, rfl, ?_⟩
    cases e : btw v 0 (n - 1) with
    | false => exact iteT ⟨_, rfl, _, rfl, fun d hd => (k2 e).go hd⟩
    | true => exact iteF (k1 e)
theorem ok_isstr {f : Addr} {fd : FuncData} (F : Fun K "is_stretch" "is_stretch" s_isstr f fd) (T : RTx K mg Cs CR) : FnOk P w K mg base CX0 1 f fd ["at"] spIsstr := by
  refine F.ok sc_isstr (fun vs H Q E h => ?_) (fun cdv A outer s H vs Q E hr h => ?_)
  · obtain ⟨v, rfl, _⟩ := h
    rfl
  · obtain ⟨v, rfl, ⟨t, ty⟩, q⟩ := h
    refine ⟨_, (pss_one (ps_ret (pe_and (pe_callB call_isi (by rfl) T.z_isinstance boot_isinstance (pa_cons (pv 0) (pa_cons (pe_bltn (v := .ty "tuple") (by rfl) T.z_tuple boot_tuple rfl) pa_nil))) (pe_one (pe_cmpR op_eq (pe_callB call_len (by rfl) T.z_len PySem.boot_len (pa_cons (pv 0) pa_nil)) pe_int (nomark _)))))), ?_⟩
    cases ty with
    | tup e =>
      refine ⟨_, rfl, _, _, _, _, true, rfl, .ty _, (Ty0.tup e).tyx, kit_ty (by decide +kernel), _, rfl, iteT ?_⟩
      rw [strB_tup e] at q
      exact ⟨_, rfl, _, _, rfl, .inr ⟨_, SqT.of e, rfl⟩, rfl, q⟩
    | lst e =>
      rw [strB_lst e] at q
      exact ⟨_, rfl, _, _, _, _, false, rfl, .ty _, (Ty0.lst e).tyx, kit_ty (by decide +kernel), _, rfl, iteF q⟩
    | dK e =>
      rw [strB_dK e] at q
      exact ⟨_, rfl, _, _, _, _, false, rfl, .ty _, (Ty0.dK e).tyx, kit_ty (by decide +kernel), _, rfl, iteF q⟩
    | non => exact ⟨_, rfl, _, _, _, _, false, rfl, .ty _, (Ty0.non).tyx, kit_ty (by decide +kernel), _, rfl, iteF q⟩
    | bl b => exact ⟨_, rfl, _, _, _, _, false, rfl, .ty _, (Ty0.bl b).tyx, kit_ty (by decide +kernel), _, rfl, iteF q⟩
    | int b => exact ⟨_, rfl, _, _, _, _, false, rfl, .ty _, (Ty0.int b).tyx, kit_ty (by decide +kernel), _, rfl, iteF q⟩
    | str b => exact ⟨_, rfl, _, _, _, _, false, rfl, .ty _, (Ty0.str b).tyx, kit_ty (by decide +kernel), _, rfl, iteF q⟩
theorem ok_ratof {f : Addr} {fd : FuncData} (F : Fun K "ratio_of" "ratio_of" s_ratof f fd) (T : RTx K mg Cs CR) (M_Ratio1 : MakeAt P w K mg base (L2.CX P w) 3 "Ratio" CR ["self", "top", "bottom"] (spRinit CR) [.int 1]) : FnOk P w K mg base CX0 5 f fd ["number"] (spRatof CR) := by
  refine F.ok sc_ratof (fun vs H Q E h => ?_) (fun cdv A outer s H vs Q E hr h => ?_)
  · obtain ⟨v, a, b, rfl, _⟩ := h
    rfl
  · obtain ⟨v, a, b, rfl, hv, q⟩ := h
    refine ⟨_, (pss_one (ps_ret (pe_ifExp (pt_val (pe_callB call_isi (by rfl) T.z_isinstance boot_isinstance (pa_cons (pv 0) (pa_cons (pe_glob (v := .ref CR) (by rfl) T.gR rfl) pa_nil)))) (pv 0) (My.pe_mk M_Ratio1 (hr.mono (by decide)) (by rfl) passL (pa_cons (pv 0) pa_nil))))), ?_⟩
    rcases hv with ⟨p, rfl, hl⟩ | ⟨rfl, rfl⟩
    · obtain ⟨dx, e⟩ := id hl
      exact ⟨_, rfl, _, _, _, _, true, rfl, .own _, T.own.ty e, T.own.me, _, rfl, iteT ⟨_, rfl, q p H hl fun _ _ e => e⟩⟩
    · refine ⟨_, rfl, _, _, _, _, false, rfl, .own _, (Ty0.int a).tyx, (T.own.kn _ (.head _)).1, _, rfl, iteF ?_⟩
      refine ⟨_, rfl, fun x dx' hx hd ne => ?_⟩
      have l2 : lowT a 1 = a ∧ lowB a 1 = 1 := low_self (by decide) (Int.gcd_one_right ..)
      refine rinit_at (by decide) (by decide +kernel) hx hd ne fun H' l s' => ?_
      rw [l2.1, l2.2] at l
      exact q x H' l s'
theorem ok_clen {f : Addr} {fd : FuncData} (F : Fun K "__len__" "Clip.__len__" s_clen f fd) (T : CTx P K mg Cs CR CC CL fL CP fP CS fS CM fM) : FnOk P w K mg base CX0 1 f fd ["self"] (fun vs H Q _ => ∃ (p t : Addr) (zs : List V) (rs : List (Int × Int)), vs = [.ref p] ∧ ClipT CC CR H p t zs rs ∧ Q (.int rs.length) H) := by
  refine F.ok sc_clen (fun vs H Q E h => ?_) (fun cdv A outer s H vs Q E hr h => ?_)
  · obtain ⟨p, t, zs, rs, rfl, _⟩ := h
    rfl
  · obtain ⟨p, t, zs, rs, rfl, ⟨⟨dx, e⟩, e2, r, l⟩, q⟩ := h
    refine ⟨_, (pss_one (ps_ret (pe_callB call_len (by rfl) T.z_len PySem.boot_len (pa_cons (pe_fld (pv 0) rfl) pa_nil)))), ?_⟩
    rw [← r.1] at q
    exact ⟨_, rfl, p, CC, dx, _, _, rfl, e, T.clC, T.nS, cfs_get t, _, _, rfl, .inr ⟨_, SqT.of e2, rfl⟩, q⟩
end
end My
set_option pp.maxSteps 1500
set_option pp.deepTerms.threshold 8
/-! ### clips: made -/
namespace My
open PySem PySem.Spec PyProof.Rows L2
/-- for at, x in enumerate(t) -/
theorem for_enumT {K : PySem.W.Frag} {a : Addr} {xs : List V} {g : TG} {tb : TS} {D : Ends} {σ : L2.St} {H : Hp} (Pv : Nat → L2.St → Hp → Prop) (h0 : Pv 0 σ H) (hl : ∀ i σ H, i ≤ xs.length → Pv i σ H → SqT K H a xs)
    (hs : ∀ i x σ H T, xs[i]? = some x → Pv i σ H → H T = none → g (.ref T) σ (upd H T (.tup [.int (i : Nat), x])) fun σ2 H2 => tb { D with nx := Pv (i + 1), ct := Pv (i + 1), bk := D.nx } σ2 H2) (hd : ∀ σ H, Pv xs.length σ H → D.nx σ H) :
    ∃ W : Nat → Nat → L2.St → Hp → Prop, (∃ m, W 0 m σ H) ∧ ∀ i m σ H, W i m σ H →
      ((IteT K a).stop i H ∧ D.nx σ H) ∨ ((IteT K a).go i H ∧ ∃ N : L2.St → Hp → Prop, (∀ σ' H', N σ' H' → ∃ m', m' < m ∧ W (i + 1) m' σ' H') ∧ ∀ x H', (IteT K a).yld i H x H' → g x σ H' fun σ2 H2 => tb { D with nx := N, ct := N, bk := D.nx } σ2 H2) := by
  refine ⟨fun i m σ H => m = xs.length - i ∧ i ≤ xs.length ∧ Pv i σ H, ⟨xs.length, by simp, Nat.zero_le _, h0⟩, ?_⟩
  rintro i m σ H ⟨rfl, hi, p⟩
  have q := hl i σ H hi p
  by_cases hlt : i < xs.length
  · refine .inr ⟨⟨xs, xs[i], q, by simp [hlt]⟩, Pv (i + 1), fun σ' H' p' => ⟨xs.length - (i + 1), by omega, rfl, hlt, p'⟩, fun x H' y => ?_⟩
    obtain ⟨T, x0, rfl, hT, rfl, y⟩ := y
    exact hs i x0 σ H T (y xs q) p hT
  · have e : i = xs.length := by omega
    subst e
    exact .inl ⟨⟨xs, q, rfl⟩, hd σ H p⟩
section
variable {P : Program} {w : World} {K : PySem.W.Frag} {mg : Str → Option Value} {base : Heap} {Cs : List Addr} {CR CC CL fL CP fP CS fS CM fM : Addr}
theorem ok_cinit {f : Addr} {fd : FuncData} {oc : Value} {od : Option Addr} {kV doc pm : Value} {an : Option Addr} {cdv ct : Value} {osl : Array (Option Value)} (lk : K.lookup f = some ⟨oc, od, .func (PySem.W.fnOf "__init__" "Clip.__init__" (defArgs s_cinit) (defBody s_cinit) (defScope s_cinit) .none kV doc pm an cdv ct), osl⟩) (hcd : PySem.W.codeIn K cdv "Clip.__init__" = true)
    (T : CTx P K mg Cs CR CC CL fL CP fP CS fS CM fM) (S_is_number : StatAt P w K mg base CX0 2 CR "is_number" ["thing"] (spIsnum Cs CR)) (D_ratof : DefAt P w K mg base CX0 5 "ratio_of" ["number"] (spRatof CR)) : FnR P w K mg base (L2.CX P w) 6 f (spClip Cs CR CC CS CM) := by
  have R := StX.fn_star (CX := L2.CX P w) (P := P) (w := w) (mg := mg) (base := base) (k := 5) (ps := ["self"]) (sp := spCinit Cs CR CC CS CM) lk hcd sc_cinit StX.cxUp (StX.bind_star1 (B := fun us => bindArgs (PySem.W.fnOf "__init__" "Clip.__init__" (defArgs s_cinit) (defBody s_cinit) (defScope s_cinit) .none kV doc pm an cdv ct) ⟨us, []⟩) (p1 := "self") (pv := "samples") (fun _ => rfl) (fun _ _ _ => rfl)) (fun A outer s H vs Q E hr h => ?_)
  · refine R.imp fun vs H Q E h => ?_
    obtain ⟨p, dx, xs, rfl, hp, hl, ty, k0, k1, k2⟩ := h
    refine ⟨[.ref p], xs, rfl, rfl, by rw [sizeLine_eq]; omega, fun tt htt => ?_⟩
    have st := same_new (o := .tup xs) htt
    refine ⟨p, dx, tt, xs, rfl, st _ _ hp, upd_same, hl, fun v hv => (ty v hv).imp fun b z => z.same st, fun z => (k0 z).up st, fun z rs e H' po kp => k1 z rs ⟨e.1, fun i v r e1 e2 => by
      obtain ⟨b, hb⟩ := ty v (List.mem_of_getElem? e1)
      rcases e.2 i v r e1 e2 with ⟨q, rfl, dq, hq⟩ | h2
      · by_cases z : q = tt
        · rw [z, upd_same] at hq
          cases hq
        · rw [upd_ne z] at hq
          exact .inl ⟨q, rfl, dq, hq⟩
      · exact .inr h2⟩ H' po fun c o e' n => kp c o (st _ _ e') n, fun z i v e1 e2 e3 => ?_⟩
    have back : ∀ (u : V) (j : Nat) (b : Bool), xs[j]? = some u → IsNum Cs CR (upd H tt (.tup xs)) u b → IsNum Cs CR H u b := fun u j b hu hb => by
      obtain ⟨b', hb'⟩ := ty u (List.mem_of_getElem? hu)
      have := hb'.same st
      have eb : b' = b := isnum_eq this hb
      rw [← eb]
      exact hb'
    exact (k2 z i v e1 (back v i false e1 e2) fun j u hj hu => back u j true hu (e3 j u hj hu)).up st
  · obtain ⟨p, dx, tt, xs, rfl, hp, htt, hl, ty, k0, k1, k2⟩ := h
    refine ⟨_, (pss_cons (ps_if (pt_cmpR op_gt (pe_callB call_len (by rfl) T.z_len PySem.boot_len (pa_cons (pv 1) pa_nil)) (ClX.pe_cval (pe_glob (v := .ref CC) (by rfl) T.gC rfl)) (nomark _)) (pss_one (ps_raise2 rfl T.e_TooMany (hr.mono (by decide) : Room 0 _) (takes_of rfl rfl rfl rfl) (pa_cons pe_str (pa_cons (ClX.pe_cval (pe_glob (v := .ref CC) (by rfl) T.gC rfl)) pa_nil)))) pss_nil)
      (pss_cons (ps_for (passes_of rfl) rfl (My.pi_enumT (by rfl) T.z_enumerate (pa_cons (pv 1) pa_nil)) (pg_tup rfl (pgs_cons (pg_name (i := 2) sc_cinit.nd rfl (Or.inl rfl)) (pgs_cons (pg_name (i := 3) sc_cinit.nd rfl (Or.inl rfl)) pgs_nil))) (pss_one (ps_if (pt_not (pt_val (My.pe_st S_is_number (hr.mono (by decide)) pass0 (pe_glob (v := .ref CR) (by rfl) T.gR rfl) (pa_cons (pv 3) pa_nil)))) (pss_one (ps_raise1 rfl T.e_BadSample (hr.mono (by decide) : Room 0 _) (takes_of rfl rfl rfl rfl) (pa_cons (pv 2) pa_nil))) pss_nil)))
      (pss_one (ps_fld (pv 0) (pe_callTy call_tuple_of (by rfl) T.z_tuple boot_tuple (pa_cons (pe_lc (own := [("sample", 3)]) rfl sc_cinit.nd (pi_tup (pv 1)) (blkOk_by (by show blkC ["self", "samples", "at", "sample"] (defScope s_cinit) _ _ = true; decide +kernel)) (fun _ _ _ _ _ => (pg_name (i := 3) sc_cinit.nd rfl (Or.inl rfl))) (fun _ _ _ _ _ => pts_nil) (fun _ _ _ _ _ => (My.pe_d D_ratof (hr.mono (by decide)) (by rfl) pass0 (pa_cons (pv 3) pa_nil)))) pa_nil)) rfl)))), ?_⟩
    obtain ⟨mc, u, r1, r2⟩ := T.rd
    refine ⟨_, rfl, .ref tt, xs.length, rfl, .inr ⟨_, SqT.of htt, rfl⟩, CC, mc, _, u, rfl, r1, r2, _, _, rfl, rfl, _, rfl, ?_⟩
    refine ite2 (fun c => ?_) (fun c => ?_)
    · have c' : 2000 < xs.length := by have := of_decide_eq_true c; omega
      exact ⟨CC, mc, _, u, rfl, r1, r2, _, _, rfl, fun d hd => (k0 c').go hd⟩
    have c' : xs.length ≤ 2000 := by
      have : ¬ (2000 : Int) < xs.length := fun z => c (decide_eq_true z)
      omega
    refine ⟨_, rfl, tt, _, rfl, SqT.of htt, for_enumT (K := K) (a := tt) (xs := xs) (fun i σ H' => ∃ v2 v3, σ = [some (.ref p), some (.ref tt), v2, v3] ∧ Same H H' ∧ ∀ (j : Nat) (u : V), j < i → xs[j]? = some u → IsNum Cs CR H u true) ⟨none, none, rfl, fun _ _ e => e, fun j u z => absurd z (Nat.not_lt_zero _)⟩ (fun i σ H' _ hh => by obtain ⟨_, _, _, s, _⟩ := hh; exact SqT.of (s _ _ htt)) ?_ ?_⟩
    · rintro i x σ H' T' hx ⟨v2, v3, rfl, sh, al⟩ hT
      have s2 := sh.trans (same_new (o := .tup [.int (i : Nat), x]) hT)
      refine ⟨T', _, rfl, SqT.of upd_same, rfl, _, _, rfl, _, _, rfl, rfl, ?_⟩
      obtain ⟨b, hb⟩ := ty x (List.mem_of_getElem? hx)
      refine ⟨rfl, _, rfl, x, b, rfl, hb.same s2, _, rfl, ?_⟩
      cases b with
      | false => exact iteT ⟨_, rfl, _, rfl, fun d hd => ((k2 c' i x hx hb al).up s2).go hd⟩
      | true =>
        refine iteF ⟨_, _, rfl, s2, fun j u hj hu => ?_⟩
        by_cases z : j = i
        · rw [z, hx] at hu
          cases hu
          exact hb
        · exact al j u (by omega) hu
    · rintro σ H' ⟨v2, v3, rfl, sh, al⟩
      obtain ⟨rs, hrs⟩ := nums_of xs fun v hv => by
        obtain ⟨j, hj⟩ := List.getElem?_of_mem hv
        exact al j v (List.getElem?_eq_some_iff.mp hj).1 hj
      have t1 := sh _ _ htt
      refine ⟨_, rfl, tt, rfl, ⟨_, SqT.of t1⟩, fun D hD => ?_⟩
      refine lc_it walk_tup (fun i Hh => ∃ vs, Hh D = some (.lst vs) ∧ Rats CR Hh vs (rs.take i) ∧ Same H' Hh) ⟨[], upd_same, Rats.nil, same_new hD⟩ (fun i Hh _ hh => by obtain ⟨_, _, _, s2⟩ := hh; exact SqT.of (s2 _ _ t1)) ?_ ?_
      · rintro i v Hh H2 hi ⟨vs, g1, g2, g3⟩ ⟨rfl, hv⟩
        obtain ⟨r, hr⟩ : ∃ r, rs[i]? = some r := ⟨_, List.getElem?_eq_getElem (by rw [← hrs.1]; exact hi)⟩
        refine ⟨rfl, yes_go ⟨_, rfl, v, r.1, r.2, rfl, (hrs.2 i v r hv hr).same (sh.trans g3), fun q H3 l s3 => ?_⟩⟩
        refine ⟨vs, s3 _ _ g1, ?_, vs ++ [.ref q], upd_same, ?_, ?_⟩
        · rw [g2.1, List.length_take, sizeLine_eq]
          omega
        · rw [List.take_add_one, hr]
          refine Rats.put ((g2.same s3).snoc l) fun dx fs z => ?_
          rw [s3 _ _ g1] at z
          cases z
        · intro c o e
          rw [upd_ne (ne_of_none e hD)]
          exact s3 _ _ (g3 _ _ e)
      rintro H2 ⟨vs, g1, g2, g3⟩
      rw [List.take_of_length_le (by rw [← hrs.1]; exact Nat.le_refl _)] at g2
      refine ⟨D, vs, rfl, .inl ⟨SqL.of g1, fun l hl2 => ?_⟩⟩
      have s3 := (sh.trans g3).trans (same_new (o := .tup vs) hl2)
      have hp3 := s3 _ _ hp
      refine ⟨_, rfl, p, CC, dx, _, rfl, hp3, T.clC, T.nS, (by show 0 < 1000; decide), ?_⟩
      have lp : l ≠ p := fun z => by
        rw [z, upd_same] at hp3
        cases hp3
      refine k1 c' rs hrs _ ⟨l, vs, ⟨dx, upd_same⟩, ?_, ?_, by rw [← hrs.1]; exact c'⟩ fun c o e n => ?_
      · rw [upd_ne lp]
        exact upd_same
      · refine Rats.put (Rats.put g2 fun dx fs z => ?_) fun dx' fs z => ?_
        · rw [hl2] at z
          cases z
        · rw [hp3] at z
          cases z
          exact T.ne rfl
      · rw [upd_ne n]
        exact s3 _ _ e
end
end My
set_option pp.maxSteps 1500
set_option pp.deepTerms.threshold 8
/-! ### clips: made from others -/
namespace My
open PySem PySem.Spec PyProof.Rows L2
theorem Nums.back {Cs : List Addr} {C : Addr} {H H0 : Hp} {xs : List V} {rs : List (Int × Int)} (e : Nums C H0 xs rs) (ty : ∀ v ∈ xs, ∃ b, IsNum Cs C H v b) (s : Same H H0) : Nums C H xs rs := ⟨e.1, fun i v r e1 e2 => by
  obtain ⟨b, hb⟩ := ty v (List.mem_of_getElem? e1)
  rcases e.2 i v r e1 e2 with ⟨q, rfl, dq, hq⟩ | h2
  · rcases hb with ⟨_, p, n, d, ep, dp, hp⟩ | ⟨a, no, _⟩
    · cases ep
      have z := s _ _ hp
      rw [hq] at z
      rw [← z] at hp
      exact .inl ⟨q, rfl, dq, hp⟩
    · exact absurd hq (no.same a s q dq _ rfl)
  · exact .inr h2⟩
/-- what a new clip of these does -/
def ClipTo (Cs : List Addr) (CR CC CS CM : Addr) (H : Hp) (xs : List V) (R : Addr → Hp → Prop) (E : XK) : Prop := xs.length ≤ 100000 ∧ (∀ v ∈ xs, ∃ b, IsNum Cs CR H v b) ∧
  (2000 < xs.length → Errs2 E CM "what" "most" (.str "samples") (.int 2000) H) ∧
  (xs.length ≤ 2000 → ∀ rs, Nums CR H xs rs → ∀ c H', ClipAt CC CR H' c rs → H c = none → Same H H' → R c H') ∧
  (xs.length ≤ 2000 → ∀ (i : Nat) (v : V), xs[i]? = some v → IsNum Cs CR H v false → (∀ (j : Nat) (u : V), j < i → xs[j]? = some u → IsNum Cs CR H u true) → Errs E CS "at" (.int (i : Nat)) H)
theorem ClipTo.up {Cs : List Addr} {CR CC CS CM : Addr} {H H0 : Hp} {xs : List V} {R : Addr → Hp → Prop} {E : XK} (h : ClipTo Cs CR CC CS CM H xs R E) (s : Same H H0) : ClipTo Cs CR CC CS CM H0 xs R E := by
  obtain ⟨hl, ty, k0, k1, k2⟩ := h
  have back : ∀ (u : V) (j : Nat) (b : Bool), xs[j]? = some u → IsNum Cs CR H0 u b → IsNum Cs CR H u b := fun u j b hu hb => by
    obtain ⟨b', hb'⟩ := ty u (List.mem_of_getElem? hu)
    have eb : b' = b := isnum_eq (hb'.same s) hb
    rw [← eb]
    exact hb'
  exact ⟨hl, fun v hv => (ty v hv).imp fun b z => z.same s, fun z => (k0 z).up s, fun z rs e c H' po hc s' => k1 z rs (e.back ty s) c H' po (s.free hc) (s.trans s'), fun z i v e1 e2 e3 => (k2 z i v e1 (back v i false e1 e2) fun j u hj hu => back u j true hu (e3 j u hj hu)).up s⟩
theorem clip_at {Cs : List Addr} {CR CC CS CM : Addr} {H : Hp} {x dx : Addr} {xs : List V} {R : Addr → Hp → Prop} {E : XK} (h : ClipTo Cs CR CC CS CM H xs R E) (hx : H x = none) (hd : H dx = none) (ne : dx ≠ x) :
    spClip Cs CR CC CS CM (.ref x :: xs) (upd (upd H dx (.own x)) x (.ins CC dx [])) (fun v H2 => v = .non ∧ R x H2) E := by
  have s0 : Same H (upd (upd H dx (.own x)) x (.ins CC dx [])) := fun b o e => by
    rw [upd_ne (ne_of_none e hx), upd_ne (ne_of_none e hd)]
    exact e
  obtain ⟨_, _, _, k1, _⟩ := id h
  obtain ⟨hl, ty, k0, _, k2⟩ := h.up s0
  obtain ⟨_, ty0, _⟩ := id h
  exact ⟨x, dx, xs, rfl, upd_same, hl, ty, k0, fun z rs e H' po kp => ⟨rfl, k1 z rs (e.back ty0 s0) x H' po hx fun c o e' => kp c o (s0 _ _ e') (ne_of_none e' hx)⟩, k2⟩
/-- all of them numbers, not too many -/
theorem clip_to {Cs : List Addr} {CR CC CS CM : Addr} (inn : CR ∈ Cs) {H : Hp} {xs : List V} {rs : List (Int × Int)} {R : Addr → Hp → Prop} {E : XK} (hn : ∀ rs', Nums CR H xs rs' → rs' = rs) (h : Nums CR H xs rs) (l : xs.length ≤ 2000) (k : ∀ c H', ClipAt CC CR H' c rs → H c = none → Same H H' → R c H') :
    ClipTo Cs CR CC CS CM H xs R E := by
  have nu : ∀ (i : Nat) (v : V), xs[i]? = some v → IsNum Cs CR H v true := fun i v e => by
    have hi := (List.getElem?_eq_some_iff.mp e).1
    have hr : i < rs.length := by rw [← h.1]; exact hi
    exact IsNum.num (h.2 i v rs[i] e (List.getElem?_eq_getElem hr))
  refine ⟨by omega, fun v hv => ?_, fun z => by omega, fun _ rs' e c H' po hc s => ?_, fun _ i v e1 e2 _ => ?_⟩
  · obtain ⟨j, hj⟩ := List.getElem?_of_mem hv
    exact ⟨true, nu j v hj⟩
  · rw [hn rs' e] at po
    exact k c H' po hc s
  · cases isnum_eq (nu i v e1) e2
def spCof (Cs : List Addr) (CR CC CS CM : Addr) : Sp := fun vs H Q E => ∃ (t : Addr) (xs : List V), vs = [.ref CC, .ref t] ∧ (H t = some (.tup xs) ∨ H t = some (.lst xs)) ∧ ClipTo Cs CR CC CS CM H xs (fun c H' => Q (.ref c) H') E
def spCsil (Cs : List Addr) (CR CC CL : Addr) : Sp := fun vs H Q E => ∃ (v : V), vs = [v] ∧ AnyF Cs H v ∧ (∀ n : Nat, v = .int n → n ≤ 2000 → ∀ c H', ClipAt CC CR H' c (List.replicate n (0, 1)) → H c = none → Same H H' → Q (.ref c) H') ∧ (btw v 0 2000 = false → Errs E CL "value" v H)
def spCsing (Cs : List Addr) (CR CC CL CP : Addr) : Sp := fun vs H Q E => ∃ (v u : V), vs = [v, u] ∧ AnyF Cs H v ∧ AnyF Cs H u ∧
  (∀ n p : Nat, v = .int n → u = .int p → n ≤ 2000 → p < n → ∀ c H', ClipAt CC CR H' c ((List.replicate n ((0, 1) : Int × Int)).set p (1, 1)) → H c = none → Same H H' → Q (.ref c) H') ∧ (btw v 0 2000 = false → Errs E CL "value" v H) ∧ (∀ n : Nat, v = .int n → n ≤ 2000 → btw u 0 (n - 1) = false → Errs E CP "value" u H)
def spCcopy (CR CC : Addr) : Sp := fun vs H Q _ => ∃ (p : Addr) (rs : List (Int × Int)), vs = [.ref p] ∧ ClipAt CC CR H p rs ∧ ∀ c H', ClipAt CC CR H' c rs → H c = none → Same H H' → Q (.ref c) H'
theorem none_back {H H' : Hp} {c : Addr} (s : Same H H') (h : H' c = none) : H c = none := by
  cases e : H c with
  | none => rfl
  | some o => rw [s _ _ e] at h; cases h
theorem rfs_inj {a b c d : Int} (h : rfs a b = rfs c d) : a = c ∧ b = d := by
  have e1 : (rfs a b).lookup ("top" : Str) = (rfs c d).lookup ("top" : Str) := by rw [h]
  have e2 : (rfs a b).lookup ("bottom" : Str) = (rfs c d).lookup ("bottom" : Str) := by rw [h]
  rw [rfs_top, rfs_top] at e1
  rw [rfs_bot, rfs_bot] at e2
  cases e1
  cases e2
  exact ⟨rfl, rfl⟩
theorem NumAt.eq {C : Addr} {H : Hp} {v : V} {a b c d : Int} (h : NumAt C H v a b) (k : NumAt C H v c d) : a = c ∧ b = d := by
  rcases h with ⟨p, rfl, dx, e⟩ | ⟨rfl, rfl⟩
  · rcases k with ⟨q, z, dy, e'⟩ | ⟨z, _⟩
    · cases z
      rw [e] at e'
      have : rfs a b = rfs c d := by injection e' with e'; injection e'
      exact rfs_inj this
    · cases z
  · rcases k with ⟨q, z, _⟩ | ⟨z, rfl⟩
    · cases z
    · cases z
      exact ⟨rfl, rfl⟩
theorem Nums.eq {C : Addr} {H : Hp} {xs : List V} {rs rs' : List (Int × Int)} (h : Nums C H xs rs) (k : Nums C H xs rs') : rs' = rs := by
  refine List.ext_getElem? fun i => ?_
  by_cases hi : i < xs.length
  · have h1 : i < rs.length := by rw [← h.1]; exact hi
    have h2 : i < rs'.length := by rw [← k.1]; exact hi
    have e := NumAt.eq (h.2 i xs[i] rs[i] (List.getElem?_eq_getElem hi) (List.getElem?_eq_getElem h1)) (k.2 i xs[i] rs'[i] (List.getElem?_eq_getElem hi) (List.getElem?_eq_getElem h2))
    rw [List.getElem?_eq_getElem h1, List.getElem?_eq_getElem h2]
    exact congrArg some (Prod.ext e.1.symm e.2.symm)
  · rw [List.getElem?_eq_none (by rw [← k.1]; omega), List.getElem?_eq_none (by rw [← h.1]; omega)]
/-- 1 at m, 0 elsewhere -/
def bitV (m i : Nat) : V := .int (if i = m then 1 else 0)
theorem bitV_eq (m i : Nat) : [bitV m i] = [V.int (if decide (V.int (0 + ((i : Nat) : Int)) = V.int (m : Nat)) = true then 1 else 0)] := by
  unfold bitV
  by_cases h : i = m
  · subst h
    rw [if_pos rfl, if_pos (decide_eq_true (by rw [Int.zero_add]))]
  · rw [if_neg h, if_neg]
    intro z
    have := of_decide_eq_true z
    injection this with this
    omega
theorem bits_num {C : Addr} {H : Hp} {m n : Nat} (hm : m < n) : Nums C H ((List.range n).map (bitV m)) ((List.replicate n ((0, 1) : Int × Int)).set m (1, 1)) := by
  refine ⟨by rw [List.length_map, List.length_range, List.length_set, List.length_replicate], fun i v r e1 e2 => ?_⟩
  rw [List.getElem?_map] at e1
  have hi : i < n := by
    by_cases z : i < n
    · exact z
    · rw [List.getElem?_eq_none (by rw [List.length_range]; omega)] at e1
      cases e1
  rw [List.getElem?_range hi] at e1
  cases e1
  rw [List.getElem?_set] at e2
  by_cases h : m = i
  · rw [if_pos h, if_pos (by rw [List.length_replicate]; omega)] at e2
    cases e2
    refine .inr ⟨?_, rfl⟩
    show V.int _ = _
    rw [if_pos h.symm]
  · rw [if_neg h, List.getElem?_replicate, if_pos hi] at e2
    cases e2
    refine .inr ⟨?_, rfl⟩
    show V.int _ = _
    rw [if_neg (fun z => h z.symm)]
section
variable {P : Program} {w : World} {K : PySem.W.Frag} {mg : Str → Option Value} {base : Heap} {Cs : List Addr} {CR CC CL fL CP fP CS fS CM fM : Addr}
theorem ok_cof {f : Addr} {fd : FuncData} (F : Fun K "of" "Clip.of" s_cof f fd) (T : CTx P K mg Cs CR CC CL fL CP fP CS fS CM fM) (M_Clip : MakeR P w K mg base (L2.CX P w) 6 "Clip" CC (spClip Cs CR CC CS CM)) : FnOk P w K mg base (L2.CX P w) 8 f fd ["cls", "items"] (spCof Cs CR CC CS CM) := by
  refine F.okX sc_cof (fun vs H Q E h => ?_) (fun cdv A outer s H vs Q E hr h => ?_)
  · obtain ⟨t, xs, rfl, _⟩ := h
    rfl
  · obtain ⟨t, xs, rfl, ht, k⟩ := h
    refine ⟨_, (pss_cons (ps_if (pt_not (pt_val (pe_callB call_isiT (by rfl) T.z_isinstance boot_isinstance (pa_cons (pv 1) (pa_cons (pe_tup (pa_cons (pe_bltn (v := .ty "list") (by rfl) T.z_list boot_list rfl) (pa_cons (pe_bltn (v := .ty "tuple") (by rfl) T.z_tuple boot_tuple rfl) pa_nil))) pa_nil))))) (pss_one (ps_raise1 rfl T.e_BadSample (hr.mono (by decide) : Room 0 _) (takes_of rfl rfl rfl rfl) (pa_cons pe_non pa_nil))) pss_nil)
      (pss_one (ps_ret (My.pe_mkS M_Clip (hr.mono (by decide)) (by rfl) (passes_call (takes_of rfl rfl rfl rfl) (fun _ _ _ _ h => h)) (pv 1))))), ?_⟩
    refine ⟨_, rfl, (by show 2 ≤ sizeLine; decide), fun tp htp => ?_⟩
    have s0 := same_new (o := .tup [.ty "list", .ty "tuple"]) htp
    rcases ht with ht | ht
    · refine ⟨.ref t, tp, _, _, _, true, rfl, upd_same, .cons (.ty _) (.cons (.ty _) .nil), (Ty0.tup (s0 _ _ ht)).tyx, kitAny_cons (b := false) (kit_ty (by decide +kernel)) (fun _ => kitAny_cons (b := true) (kit_ty (by decide +kernel)) (fun z => nomatch z) fun _ => rfl) (fun z => nomatch z), _, rfl, iteF ?_⟩
      exact ⟨_, rfl, t, xs, rfl, .inl (SqT.of (s0 _ _ ht)), fun x dx hx hd ne => clip_at (k.up s0) hx hd ne⟩
    · refine ⟨.ref t, tp, _, _, _, true, rfl, upd_same, .cons (.ty _) (.cons (.ty _) .nil), (Ty0.lst (s0 _ _ ht)).tyx, kitAny_cons (b := true) (kit_ty (by decide +kernel)) (fun z => nomatch z) (fun _ => rfl), _, rfl, iteF ?_⟩
      exact ⟨_, rfl, t, xs, rfl, .inr (SqL.of (s0 _ _ ht)), fun x dx hx hd ne => clip_at (k.up s0) hx hd ne⟩
end
end My
set_option pp.maxSteps 1500
set_option pp.deepTerms.threshold 8
/-! ### clips: handed out one by one -/
namespace My
open PySem PySem.Spec PyProof.Rows L2 GenW
abbrev s_ceach : Stmt := inClass (topS 31) 7
/-- tuples stay -/
def Tk (H H' : Hp) : Prop := ∀ (q : Addr) (xs : List V), H q = some (.tup xs) → H' q = some (.tup xs)
theorem Tk.of {H H' : Hp} (s : Same H H') : Tk H H' := fun q xs e => s q _ e
theorem Tk.trans {H H1 H2 : Hp} (a : Tk H H1) (b : Tk H1 H2) : Tk H H2 := fun q xs e => b q xs (a q xs e)
/-- it hands out a tuple's items from the end -/
def revG (S0 : Hp → Prop) (t : Addr) (zs : List V) : GSpec := ⟨fun H => S0 H ∧ H t = some (.tup zs), fun i Hw x H' => Same Hw H' ∧ zs.reverse[i]? = some x, fun _ H' H'' => Tk H' H'', fun i Hw H' => Same Hw H' ∧ i = zs.length⟩
/-- the reading of «for x in t[::-1]: yield x» -/
theorem for_revG {K : PySem.W.Frag} {t q : Addr} {zs : List V} {S0 : Hp → Prop} {D : GEn} {σ : L2.St} {H0 H : Hp} (ix : Nat) (h0 : H q = some (.tup zs.reverse)) (s0 : Same H0 H) (nx : ∀ σ Hw H, Same Hw H → D.nx zs.length Hw σ H) (hl : ix < σ.length) :
    ∃ W : Nat → Nat → Nat → Hp → L2.St → Hp → Prop, (∃ m, W 0 m 0 H0 σ H) ∧ ∀ j m i Hw σ H, W j m i Hw σ H →
      ((Itt K q).stop j H ∧ D.nx i Hw σ H) ∨ ((Itt K q).go j H ∧ ∃ N : Nat → Hp → L2.St → Hp → Prop, (∀ i' Hw' σ' H', N i' Hw' σ' H' → ∃ m', m' < m ∧ W (j + 1) m' i' Hw' σ' H') ∧ ∀ x H', (Itt K q).yld j H x H' → gName ix x σ H' fun σ2 H2 =>
        (tG1then (tG1yield (revG S0 t zs).prt zs.length (tVar ix)) tG1nil) { D with nx := N, ct := N, bk := D.nx } i Hw σ2 H2) := by
  refine ⟨fun j m i Hw σ H => m = zs.length - j ∧ j ≤ zs.length ∧ i = j ∧ Same Hw H ∧ H q = some (.tup zs.reverse) ∧ ix < σ.length, ⟨zs.length, by simp, Nat.zero_le _, rfl, s0, h0, hl⟩, ?_⟩
  intro j m i Hw σ H hw
  obtain ⟨e1, hj, e2, e3, ht, hl⟩ := hw
  subst e1 e2
  by_cases hlt : i < zs.length
  · have hlr : i < zs.reverse.length := by rw [List.length_reverse]; exact hlt
    refine .inr ⟨⟨zs.reverse, zs.reverse[i], SqT.of ht, by simp [hlt]⟩, fun i' Hw' σ' H' => i' = i + 1 ∧ Same Hw' H' ∧ H' q = some (.tup zs.reverse) ∧ ix < σ'.length, fun i' Hw' σ' H' h => ⟨zs.length - (i + 1), by omega, rfl, hlt, h.1, h.2.1, h.2.2.1, h.2.2.2⟩, fun x H' y => ?_⟩
    obtain ⟨e, y⟩ := y
    subst e
    have hx := y zs.reverse (SqT.of ht)
    refine ⟨hlt, x, ?_, ⟨e3, hx⟩, fun H2 hb => ?_⟩
    · rw [List.getElem?_set_self hl]
    · exact ⟨rfl, fun _ _ z => z, hb q _ ht, by rw [List.length_set]; exact hl⟩
  · have e : i = zs.length := by omega
    subst e
    exact .inl ⟨⟨zs.reverse, SqT.of ht, by rw [List.length_reverse]; exact Nat.le_refl _⟩, nx σ _ _ e3⟩
/-- a comprehension over it -/
theorem lcB_it {S0 : Hp → Prop} {t : Addr} {zs : List V} {g : TG} {tt : TT} {te : TE} {vs : List Nat} {σ : L2.St} {H1 : Hp} {D : Addr} {Qd : Hp → Prop} (Pv : Nat → Hp → Prop) (h0 : Pv 0 (upd H1 D (.lst []))) (st : (revG S0 t zs).start (upd H1 D (.lst []))) (up : ∀ i H H', Pv i H → Same H H' → Pv i H')
    (hs : ∀ i x H, i < zs.length → Pv i H → zs.reverse[i]? = some x → g x (wipe σ vs) H fun σ2 H2 => wipe σ2 vs = wipe σ vs ∧ tt σ2 H2 fun b H3 =>
      if b = true then te σ2 H3 fun y H4 => ∃ acc, H4 D = some (.lst acc) ∧ acc.length < sizeLine ∧ Tk H (upd H4 D (.lst (acc ++ [y]))) ∧ Pv (i + 1) (upd H4 D (.lst (acc ++ [y]))) else Tk H H3 ∧ Pv (i + 1) H3) (hd : ∀ H, Pv zs.length H → Qd H) :
    (revG S0 t zs).start (upd H1 D (.lst [])) ∧ ∃ W : Nat → Nat → Hp → Prop, (∃ m, W 0 m (upd H1 D (.lst []))) ∧ ∀ i m H, W i m H →
      (∀ H', (revG S0 t zs).fin i H H' → Qd H') ∧ ∀ x H', (revG S0 t zs).out i H x H' → ∃ Nx : Hp → Prop, (∀ H'', Nx H'' → (revG S0 t zs).back i H' H'' ∧ ∃ m', m' < m ∧ W (i + 1) m' H'') ∧ g x (wipe σ vs) H' fun σ2 H2 => wipe σ2 vs = wipe σ vs ∧ tt σ2 H2 fun b H3 =>
        if b = true then te σ2 H3 fun y H4 => ∃ acc, H4 D = some (.lst acc) ∧ acc.length < sizeLine ∧ Nx (upd H4 D (.lst (acc ++ [y]))) else Nx H3 := by
  refine ⟨st, fun i m H => m = zs.length - i ∧ i ≤ zs.length ∧ Pv i H, ⟨zs.length, by simp, Nat.zero_le _, h0⟩, ?_⟩
  rintro i m H ⟨rfl, hi, p⟩
  refine ⟨fun H' hf => ?_, fun x H' ho => ?_⟩
  · obtain ⟨s, e⟩ := hf
    subst e
    exact hd _ (up _ _ _ p s)
  · obtain ⟨s, hx⟩ := ho
    have hlt : i < zs.length := by
      have := (List.getElem?_eq_some_iff.mp hx).1
      rw [List.length_reverse] at this
      exact this
    exact ⟨fun H'' => Tk H' H'' ∧ Pv (i + 1) H'', fun H'' p' => ⟨p'.1, zs.length - (i + 1), by omega, rfl, hlt, p'.2⟩, hs i x H' hlt (up _ _ _ p s) hx⟩
def spEach (CC : Addr) : SpGn := fun vs gs => ∃ (p dx t : Addr) (zs : List V), vs = [.ref p] ∧ gs = tupG (fun H => H p = some (.ins CC dx (cfs t))) t zs
def spBack (CC : Addr) : SpGn := fun vs gs => ∃ (p dx t : Addr) (zs : List V), vs = [.ref p] ∧ gs = revG (fun H => H p = some (.ins CC dx (cfs t))) t zs
section
variable {P : Program} {w : World} {K : PySem.W.Frag} {mg : Str → Option Value} {base : Heap} {Cs : List Addr} {CR CC CL fL CP fP CS fS CM fM : Addr}
theorem gs_each : GScope ["self", "sample"] ["self"] (defScope s_ceach) := ⟨rfl, rfl, rfl, by decide +kernel, rfl, by decide +kernel, by decide +kernel⟩
theorem ok_each {f : Addr} {dV kV doc pm cdv ct oc : Value} {an od : Option Addr} {osl : Array (Option Value)} (lk : K.lookup f = some ⟨oc, od, .func (PySem.W.fnOf "each" "Clip.each" (defArgs s_ceach) (defBody s_ceach) (defScope s_ceach) dV kV doc pm an cdv ct), osl⟩) (hcd : PySem.W.codeIn K cdv "Clip.each" = true)
    (T : CTx P K mg Cs CR CC CL fL CP fP CS fS CM fM) : GDef P w K mg base 2 f (PySem.W.fnOf "each" "Clip.each" (defArgs s_ceach) (defBody s_ceach) (defScope s_ceach) dV kV doc pm an cdv ct) ["self"] (spEach CC) := by
  refine gdef_of (k := 0) lk hcd gs_each (by decide +kernel) (fun vs gs h => ?_) fun A outer L vs gs hr h => ?_
  · obtain ⟨p, dx, t, zs, rfl, _⟩ := h
    rfl
  · obtain ⟨p, dx, t, zs, rfl, rfl⟩ := h
    refine ⟨zs.length, tG1then (tG1for (iTup K (tFld K (tVar 0) "samples")) (gName 1) (tG1then (tG1yield (tupG (fun H => H p = some (.ins CC dx (cfs t))) t zs).prt zs.length (tVar 1)) tG1nil)) tG1nil, ?_, fun H h => ?_⟩
    · exact g1s_cons (g1_for (fun r => pi_tup (pe_fld (pv 0) rfl)) (fun r => pg_name (i := 1) gs_each.nd rfl (Or.inl rfl)) (g1s_cons (g1_yield (fun r => pv 1)) g1s_nil)) g1s_nil
    exact ⟨_, rfl, p, CC, dx, _, _, rfl, h.1, T.clC, T.nS, cfs_get t, t, rfl, ⟨_, SqT.of h.2⟩, for_tupG 1 h.2 (fun σ Hw => ⟨rfl, rfl⟩) (by show 1 < 2; decide)⟩
end
end My
/-! ### fractions of so many bits -/
namespace My
open PySem PySem.Spec PyProof.Rows L2
def OkR (r : Int × Int) : Prop := Lw r.1 r.2 ∧ Sm r.1 ∧ Sm r.2
theorem OkR.zero : OkR (0, 1) := ⟨⟨by decide, by decide⟩, by show (0 : Int).natAbs < 2 ^ 300; decide, by show (1 : Int).natAbs < 2 ^ 300; decide⟩
/-- in lowest terms, of less than k bits -/
def Bd (k : Nat) (r : Int × Int) : Prop := Lw r.1 r.2 ∧ r.1.natAbs < 2 ^ k ∧ r.2.natAbs < 2 ^ k
theorem Bd.le {k j : Nat} {r : Int × Int} (h : Bd k r) (l : k ≤ j) : Bd j r := ⟨h.1, Nat.lt_of_lt_of_le h.2.1 (Nat.pow_le_pow_right (by decide) l), Nat.lt_of_lt_of_le h.2.2 (Nat.pow_le_pow_right (by decide) l)⟩
theorem Bd.ok {k : Nat} {r : Int × Int} (h : Bd k r) (l : k ≤ 300) : OkR r := ⟨h.1, (h.le l).2.1, (h.le l).2.2⟩
theorem Bd.log {k : Nat} {r : Int × Int} (h : Bd k r) (l : k ≤ 1900 := by decide) : r.1.natAbs.log2 < 1920 ∧ r.2.natAbs.log2 < 1920 :=
  ⟨Nat.lt_of_lt_of_le (PySem.Flt.log2_lt_of (k := 1900) (by decide) (h.le l).2.1) (by decide), Nat.lt_of_lt_of_le (PySem.Flt.log2_lt_of (k := 1900) (by decide) (h.le l).2.2) (by decide)⟩
theorem Bd.zero {k : Nat} (h : 0 < k) : Bd k (0, 1) := ⟨⟨by decide, by decide⟩, Nat.pow_pos (by decide), by
  have : (2 : Nat) ^ 1 ≤ 2 ^ k := Nat.pow_le_pow_right (by decide) h
  show 1 < 2 ^ k
  omega⟩
theorem low_bd {k : Nat} {a b : Int} (b0 : 0 < b) (h1 : a.natAbs < 2 ^ k) (h2 : b.natAbs < 2 ^ k) : Bd k (lowT a b, lowB a b) :=
  ⟨⟨lowB_pos (by omega), low_cop (by omega)⟩, Nat.lt_of_le_of_lt (lowT_abs (by omega)) h1, Nat.lt_of_le_of_lt (lowB_abs (by omega)) h2⟩
/-! ### sums and products of fractions -/
def rAdd (r s : Int × Int) : Int × Int := (lowT (r.1 * s.2 + s.1 * r.2) (r.2 * s.2), lowB (r.1 * s.2 + s.1 * r.2) (r.2 * s.2))
def rMul (r s : Int × Int) : Int × Int := (lowT (r.1 * s.1) (r.2 * s.2), lowB (r.1 * s.1) (r.2 * s.2))
theorem nat_mul_lt {a b : Int} {i j : Nat} (ha : a.natAbs < 2 ^ i) (hb : b.natAbs < 2 ^ j) : (a * b).natAbs < 2 ^ (i + j) := by
  rw [Int.natAbs_mul, Nat.pow_add]
  exact Nat.mul_lt_mul'' ha hb
theorem Bd.mul {i j : Nat} {r s : Int × Int} (hr : Bd i r) (hs : Bd j s) : Bd (i + j) (rMul r s) := low_bd (Int.mul_pos hr.1.1 hs.1.1) (nat_mul_lt hr.2.1 hs.2.1) (nat_mul_lt hr.2.2 hs.2.2)
theorem Bd.add {i j : Nat} {r s : Int × Int} (hr : Bd i r) (hs : Bd j s) : Bd (i + j + 1) (rAdd r s) := by
  refine low_bd (Int.mul_pos hr.1.1 hs.1.1) ?_ (Nat.lt_trans (nat_mul_lt hr.2.2 hs.2.2) (Nat.pow_lt_pow_right (by decide) (by omega)))
  have h1 := nat_mul_lt hr.2.1 hs.2.2
  have h2 := nat_mul_lt hs.2.1 hr.2.2
  have h3 := Int.natAbs_add_le (r.1 * s.2) (s.1 * r.2)
  have h4 : (2 : Nat) ^ (i + j + 1) = 2 ^ (i + j) + 2 ^ (j + i) := by
    rw [Nat.pow_succ, Nat.add_comm j i]
    omega
  omega
end My
/-! pick, the pen's cells at a known place -/
namespace My
open PySem PySem.Spec PyProof.Rows L2
def spPickC : Sp := fun vs H Q _ => ∃ (pn cl l : Addr) (n : Nat) (xs : List V), vs = [.ref pn, .ref l] ∧ H l = some (.lst xs) ∧ l ≠ pn ∧ 0 < xs.length ∧ xs.length ≤ 1000 ∧ PenC H pn cl n ∧ n < 100000 ∧
  ∀ (v : V) (H' : Hp), v ∈ xs → PenC H' pn cl (n + 1) → But pn H H' → Q v H'
section
variable {P : Program} {w : World} {K : PySem.W.Frag} {mg : Str → Option Value} {base : Heap}
theorem ok_pickC {f : Addr} {fd : FuncData} (F : Fun K "_law_pick" "_law_pick" s_pick f fd) (T : BI mg) (D_draw : DefAt P w K mg base CX0 1 "_law_draw" ["_law_pen_here", "_law_many"] spDrawC) : FnOk P w K mg base CX0 2 f fd ["_law_pen_here", "_law_some"] spPickC := by
  refine F.ok sc_pick (fun vs H Q E h => ?_) (fun cdv A outer s H vs Q E hr h => ?_)
  · obtain ⟨pn, cl, l, n, xs, rfl, _⟩ := h
    rfl
  · obtain ⟨pn, cl, l, n, xs, rfl, hl, nl, h0, h1, hp, hn, k⟩ := h
    refine ⟨_, (pss_one (ps_ret (pe_ix ix_list (pv 1) (My.pe_d D_draw (hr.mono (by decide)) (by rfl) pass0 (pa_cons (pv 0) (pa_cons (pe_callB call_len (by rfl) T.z_len PySem.boot_len (pa_cons (pv 1) pa_nil)) pa_nil))) (fun _ _ => rfl)))), ?_⟩
    refine ⟨_, rfl, _, rfl, _, rfl, _, _, rfl, .inl ⟨_, SqL.of hl, rfl⟩, pn, cl, _, n, rfl, by omega, ?_, hp, hn, fun d H' d0 d1 hp' hb => ?_⟩
    · refine Nat.lt_of_lt_of_le (PySem.Flt.log2_lt_of (k := 10) (by decide) ?_) (by decide)
      show xs.length < 1024
      omega
    · obtain ⟨v, hv⟩ : ∃ v, xs[d.toNat]? = some v := ⟨_, List.getElem?_eq_getElem (by omega)⟩
      refine ⟨l, _, _, v, rfl, rfl, SqL.of (hb l _ hl nl), at_of (j := d.toNat) (by omega) hv, ?_⟩
      exact k v H' (List.mem_of_getElem? hv) hp' hb
end
end My
set_option pp.maxSteps 1500
set_option pp.deepTerms.threshold 8
/-! ### the law's own numbers -/
namespace My
open PySem PySem.Spec PyProof.Rows L2
abbrev s_frac : Stmt := topS 45
theorem sc_frac : FnScope ["_law_top", "_law_bottom", "_law_one", "_law_other"] ["_law_top", "_law_bottom"] (defScope s_frac) := ⟨rfl, rfl, rfl, by decide +kernel, rfl, by decide +kernel, by decide +kernel⟩
abbrev s_passed : Stmt := topS 48
theorem sc_passed : FnScope ["_law_pen_here", "_law_one"] ["_law_pen_here", "_law_one"] (defScope s_passed) := ⟨rfl, rfl, rfl, by decide +kernel, rfl, by decide +kernel, by decide +kernel⟩
abbrev s_sample : Stmt := topS 49
theorem sc_sample : FnScope ["_law_pen_here", "_law_top"] ["_law_pen_here"] (defScope s_sample) := ⟨rfl, rfl, rfl, by decide +kernel, rfl, by decide +kernel, by decide +kernel⟩
abbrev s_lclip : Stmt := topS 50
theorem sc_lclip : FnScope ["_law_row", "_law_one"] ["_law_row"] (defScope s_lclip) := ⟨rfl, rfl, rfl, by decide +kernel, rfl, by decide +kernel, by decide +kernel⟩
theorem PenC.le {H : Hp} {pn cl : Addr} {n m : Nat} (h : PenC H pn cl n) (l : n ≤ m) : PenC H pn cl m := by
  obtain ⟨ns, a, r, e1, e2, h3, h4, h5⟩ := h
  exact ⟨ns, a, r, e1, e2, h3, h4, by omega⟩
/-- a pair of numbers -/
def TupAt (H : Hp) (p : Addr) (r : Int × Int) : Prop := H p = some (.tup [.int r.1, .int r.2])
theorem at0 {x y : V} : atI [x, y] (0 : Int) = some x := rfl
theorem at1 {x y : V} : atI [x, y] (1 : Int) = some y := rfl
/-- a list of pairs -/
structure RowK (H : Hp) (l : Addr) (ps : List Addr) (rs : List (Int × Int)) : Prop where
  l : H l = some (.lst (ps.map V.ref))
  len : ps.length = rs.length
  at' : ∀ (i : Nat) p r, ps[i]? = some p → rs[i]? = some r → TupAt H p r
theorem RowK.same {H H' : Hp} {l : Addr} {ps : List Addr} {rs : List (Int × Int)} (h : RowK H l ps rs) (s : Same H H') : RowK H' l ps rs := ⟨s _ _ h.l, h.len, fun i p r e1 e2 => s _ _ (h.at' i p r e1 e2)⟩
theorem RowK.but {H H' : Hp} {l pn : Addr} {ps : List Addr} {rs : List (Int × Int)} (h : RowK H l ps rs) (s : But pn H H') (n : l ≠ pn) (t : ∀ xs, H pn ≠ some (.tup xs)) : RowK H' l ps rs := ⟨s _ _ h.l n, h.len, fun i p r e1 e2 => s _ _ (h.at' i p r e1 e2) fun z => t _ (by rw [← z]; exact h.at' i p r e1 e2)⟩
theorem PenC.notup {H : Hp} {pn cl : Addr} {n : Nat} (h : PenC H pn cl n) : ∀ xs, H pn ≠ some (.tup xs) := fun xs z => by
  obtain ⟨ns, a, r, e1, _⟩ := h
  rw [e1] at z
  cases z
def spFrac : Sp := fun vs H Q _ => ∃ (t b : Int), vs = [.int t, .int b] ∧ 0 < b ∧ b.natAbs.log2 < 9000 ∧ ∀ l, H l = none → Q (.ref l) (upd H l (.tup [.int (lowT t b), .int (lowB t b)]))
theorem frac_div {t b : Int} (h : 0 < b) : t / (Int.gcd t b : Int) = lowT t b ∧ b / (Int.gcd t b : Int) = lowB t b := by
  have s : sgcd t b = (Int.gcd t b : Int) := if_neg (by omega)
  unfold lowT lowB
  rw [s, Int.fdiv_eq_ediv_of_nonneg _ (by omega), Int.fdiv_eq_ediv_of_nonneg _ (by omega)]
  exact ⟨rfl, rfl⟩
def spPassed (CR : Addr) : Sp := fun vs H Q _ => ∃ (pn cl p : Addr) (r : Int × Int) (n : Nat), vs = [.ref pn, .ref p] ∧ TupAt H p r ∧ OkR r ∧ PenC H pn cl n ∧ n < 90000 ∧ ∀ v H', NumAt CR H' v r.1 r.2 → PenC H' pn cl (n + 1) → But pn H H' → Q v H'
def spSample : Sp := fun vs H Q _ => ∃ (pn cl : Addr) (n : Nat), vs = [.ref pn] ∧ PenC H pn cl n ∧ n < 90000 ∧ ∀ l r H', H l = none → TupAt H' l r → Bd 40 r → PenC H' pn cl (n + 2) → But pn H H' → Q (.ref l) H'
def spRow : Sp := fun vs H Q _ => ∃ (pn cl : Addr) (n : Nat), vs = [.ref pn, .int 8] ∧ PenC H pn cl n ∧ n < 80000 ∧ ∀ l ps rs H', H l = none → RowK H' l ps rs → rs.length ≤ 8 → (∀ r ∈ rs, OkR r) → PenC H' pn cl (n + 20) → But pn H H' → Q (.ref l) H'
def spLclip (CC CR : Addr) : Sp := fun vs H Q _ => ∃ (l : Addr) (ps : List Addr) (rs : List (Int × Int)), vs = [.ref l] ∧ RowK H l ps rs ∧ rs.length ≤ 2000 ∧ (∀ r ∈ rs, Lw r.1 r.2 ∧ Sm r.2) ∧ ∀ c H', ClipAt CC CR H' c rs → H c = none → Same H H' → Q (.ref c) H'
theorem ix_tupB {X : Cx} {K : PySem.W.Frag} (h : X.K = K) : IxR X (rIxT K) := by
  subst h
  exact ix_tup
section
variable {P : Program} {w : World} {K : PySem.W.Frag} {mg : Str → Option Value} {base : Heap} {Cs : List Addr} {CR CC CL fL CP fP CS fS CM fM : Addr}
theorem ok_frac {f : Addr} {fd : FuncData} (F : Fun K "_law_frac" "_law_frac" s_frac f fd) (T : BI mg) : FnOk P w K mg base CX0 1 f fd ["_law_top", "_law_bottom"] spFrac := by
  refine F.ok sc_frac (fun vs H Q E h => ?_) (fun cdv A outer s H vs Q E hr h => ?_)
  · obtain ⟨a, b, rfl, _⟩ := h
    rfl
  · obtain ⟨a, b, rfl, hb, lb, q⟩ := h
    refine ⟨_, (pss_cons (ps_par (i := 2) (j := 3) (by rfl) sc_frac.nd rfl rfl (by decide) rfl rfl (pa_cons (pe_callB call_abs (by rfl) T.z_abs boot_abs (pa_cons (pv 0) pa_nil)) (pa_cons (pv 1) pa_nil)) (by rfl))
      (pss_cons (ps_while PassesOwn.never (pt_cmpR op_ne (pv 3) pe_int (nomark _)) (pss_one (ps_par (i := 2) (j := 3) (by rfl) sc_frac.nd rfl rfl (by decide) rfl rfl (pa_cons (pv 3) (pa_cons (pe_op op_mod (pe_callTy call_int1 (by rfl) T.z_int boot_int (pa_cons (pv 2) pa_nil)) (pv 3)) pa_nil)) (by rfl))))
      (pss_one (ps_ret (pe_tup (pa_cons (pe_op op_fdivW (pv 0) (pv 2)) (pa_cons (pe_op op_fdivW (pv 1) (pv 2)) pa_nil))))))), ?_⟩
    refine ⟨_, rfl, a, rfl, _, rfl, _, _, rfl, ?_⟩
    refine while_by (fun σ Hz => Hz = H ∧ ∃ x y : Int, σ = [some (.int a), some (.int b), some (.int x), some (.int y)] ∧ 0 ≤ x ∧ 0 ≤ y ∧ Int.gcd x y = Int.gcd a b) (fun σ _ => match σ with | [_, _, _, some (.int y)] => y.toNat | _ => 0) ?_ ?_ ?_
    · exact ⟨rfl, _, _, rfl, by split <;> omega, by omega, by split <;> simp⟩
    · rintro σ Hz ⟨rfl, x, y, rfl, hx, hy, hg⟩
      refine ⟨_, rfl, rfl, _, rfl, ?_⟩
      refine ite2 (fun c => ?_) (fun c => ?_)
      · have y0 : y ≠ 0 := by
          rintro rfl
          simp at c
        obtain ⟨m1, m2⟩ := fmod_bd (a := x) (b := y) (by omega)
        have em : x.fmod y = x % y := Int.fmod_eq_emod_of_nonneg x hy
        have gt := gcd_turn hx hy
        rw [em] at m1 m2 gt
        refine ⟨_, rfl, _, rfl, .inl ⟨x, rfl, _, rfl, _, _, rfl, rfl, by omega, _, _, rfl, ⟨rfl, y, x % y, rfl, hy, m1, ?_⟩, ?_⟩⟩
        · rw [gt]
          exact hg
        · show (x % y).toNat < y.toNat
          omega
      · have y0 : y = 0 := by
          by_cases z : y = 0
          · exact z
          · exfalso
            apply c
            simp [z]
        subst y0
        have e : x = (Int.gcd a b : Int) := by
          rw [← hg]
          show x = ((Nat.gcd x.natAbs 0 : Nat) : Int)
          rw [Nat.gcd_zero_right]
          omega
        have g0 := gcd_posI (t := a) (b := b) (by omega)
        have lg : ((Int.gcd a b : Int)).natAbs.log2 < 9000 := log_le (Nat.le_of_dvd (by omega) (Int.gcd_dvd_natAbs_right a b)) lb (by omega)
        obtain ⟨d1, d2⟩ := frac_div (t := a) hb
        rw [← d1, ← d2] at q
        rw [e]
        exact ⟨_, rfl, _, rfl, _, _, rfl, rfl, ⟨g0, lg⟩, _, rfl, _, rfl, _, _, rfl, rfl, ⟨g0, lg⟩, (by show 2 ≤ sizeLine; decide), q⟩
    · rintro σ Hz Q1 Q2 hm ⟨v, e, h1, h2⟩
      exact ⟨v, e, h1, by obtain ⟨b, e2, h3⟩ := h2; exact ⟨b, e2, hm _ _ h3⟩⟩
theorem ok_passed {f : Addr} {fd : FuncData} (F : Fun K "_law_passed" "_law_passed" s_passed f fd) (T : RTx K mg Cs CR) (D_draw : DefAt P w K mg base CX0 1 "_law_draw" ["_law_pen_here", "_law_many"] spDrawC) (M_Ratio : MakeAt P w K mg base (L2.CX P w) 3 "Ratio" CR ["self", "top", "bottom"] (spRinit CR) []) : FnOk P w K mg base CX0 5 f fd ["_law_pen_here", "_law_one"] (spPassed CR) := by
  refine F.ok sc_passed (fun vs H Q E h => ?_) (fun cdv A outer s H vs Q E hr h => ?_)
  · obtain ⟨pn, cl, p, r, n, rfl, _⟩ := h
    rfl
  · obtain ⟨pn, cl, p, r, n, rfl, tp, ok, hp, hn, k⟩ := h
    refine ⟨_, (pss_cons (ps_if (PW.pt (pw_and (pt_cmpR op_eq (pe_ix ix_tup (pv 1) pe_int (fun _ _ => rfl)) pe_int (nomark _)) (pw_and1 (pt_cmpR op_eq (My.pe_d D_draw (hr.mono (by decide)) (by rfl) pass0 (pa_cons (pv 0) (pa_cons pe_int pa_nil))) pe_int (nomark _))))) (pss_one (ps_ret (pe_ix ix_tup (pv 1) pe_int (fun _ _ => rfl)))) pss_nil)
      (pss_one (ps_ret (My.pe_mk M_Ratio (hr.mono (by decide)) (by rfl) passL (pa_cons (pe_ix ix_tup (pv 1) pe_int (fun _ _ => rfl)) (pa_cons (pe_ix ix_tup (pv 1) pe_int (fun _ _ => rfl)) pa_nil)))))), ?_⟩
    have b0 : r.2 ≠ 0 := by have := ok.1.1; omega
    have lg : r.2.natAbs.log2 < 9000 := Nat.lt_trans ok.2.2.log (by decide)
    have lw := ok.1.low
    refine ⟨_, rfl, p, _, _, _, rfl, rfl, SqT.of tp, at1, rfl, _, rfl, ite2 (fun c => ?_) (fun c => ?_)⟩
    · refine ⟨_, rfl, pn, cl, 2, n, rfl, by decide, by decide +kernel, hp, by omega, fun d H2 d0 d1 p2 u2 => ?_⟩
      have tp2 : TupAt H2 p r := u2 _ _ tp fun z => hp.notup _ (by rw [← z]; exact tp)
      refine ⟨rfl, _, rfl, ite2 (fun c2 => ?_) (fun c2 => ?_)⟩
      · have e1 : r.2 = 1 := by
          have := of_decide_eq_true c
          injection this
        refine iteT (B := True) ?_
        exact ⟨_, rfl, p, _, _, _, rfl, rfl, SqT.of tp2, at0, k _ H2 (.inr ⟨rfl, e1⟩) p2 u2⟩
      · refine iteF (A := True) ⟨_, rfl, p, _, _, _, rfl, rfl, SqT.of tp2, at0, _, rfl, p, _, _, _, rfl, rfl, SqT.of tp2, at1, fun x dx hx hd ne => rinit_at b0 lg hx hd ne fun H3 l3 s3 => ?_⟩
        rw [lw.1, lw.2] at l3
        exact k _ H3 (.inl ⟨x, rfl, l3⟩) (p2.same s3) (u2.trans (but_same s3))
    · refine iteF (A := True) ⟨_, rfl, p, _, _, _, rfl, rfl, SqT.of tp, at0, _, rfl, p, _, _, _, rfl, rfl, SqT.of tp, at1, fun x dx hx hd ne => rinit_at b0 lg hx hd ne fun H3 l3 s3 => ?_⟩
      rw [lw.1, lw.2] at l3
      exact k _ H3 (.inl ⟨x, rfl, l3⟩) ((hp.same s3).le (by omega)) (but_same s3)
theorem ok_sample {f : Addr} {fd : FuncData} (F : Fun K "_law_sample" "_law_sample" s_sample f fd) (T : RTx K mg Cs CR) (D_pick : DefAt P w K mg base CX0 2 "_law_pick" ["_law_pen_here", "_law_some"] spPickC) (D_frac : DefAt P w K mg base CX0 1 "_law_frac" ["_law_top", "_law_bottom"] spFrac) : FnOk P w K mg base CX0 3 f fd ["_law_pen_here"] spSample := by
  refine F.ok sc_sample (fun vs H Q E h => ?_) (fun cdv A outer s H vs Q E hr h => ?_)
  · obtain ⟨pn, cl, n, rfl, _⟩ := h
    rfl
  · obtain ⟨pn, cl, n, rfl, hp, hn, k⟩ := h
    refine ⟨_, (pss_cons (ps_set (i := 1) sc_sample.nd rfl (Or.inl rfl) (My.pe_d D_pick (hr.mono (by decide)) (by rfl) pass0 (pa_cons (pv 0) (pa_cons (pe_lst (pa_cons pe_int (pa_cons pe_int (pa_cons (pe_un un_neg pe_int) (pa_cons pe_int (pa_cons pe_int (pa_cons (pe_un un_neg pe_int) (pa_cons pe_int (pa_cons (pe_op op_add (pe_op op_pow pe_int pe_int) pe_int) pa_nil))))))))) pa_nil))))
      (pss_one (ps_ret (My.pe_d D_frac (hr.mono (by decide)) (by rfl) pass0 (pa_cons (pv 1) (pa_cons (My.pe_d D_pick (hr.mono (by decide)) (by rfl) pass0 (pa_cons (pv 0) (pa_cons (pe_lst (pa_cons pe_int (pa_cons pe_int (pa_cons pe_int (pa_cons pe_int (pa_cons pe_int (pa_cons pe_int pa_nil))))))) pa_nil))) pa_nil)))))), ?_⟩
    refine ⟨_, rfl, 1, rfl, 5, rfl, _, _, rfl, rfl, ⟨by decide, by decide, by decide⟩, _, _, rfl, rfl, (by show 8 ≤ sizeLine; decide), fun l1 h1 => ?_⟩
    have n1 := pen_ne hp.pen h1
    have s1 := same_new (o := .lst [.int 0, .int 1, .int (-1), .int 2, .int 3, .int (-5), .int 7, .int (10 ^ (9 : Int).toNat + 7)]) h1
    refine ⟨pn, cl, l1, n, _, rfl, upd_same, n1, by decide, by decide, hp.same s1, by omega, fun v H2 hv p2 u2 => ?_⟩
    have u02 := (but_same s1).trans u2
    obtain ⟨t, rfl, bt⟩ : ∃ t : Int, v = .int t ∧ t.natAbs < 2 ^ 40 := by
      simp only [List.mem_cons, List.not_mem_nil, or_false] at hv
      rcases hv with rfl | rfl | rfl | rfl | rfl | rfl | rfl | rfl <;> exact ⟨_, rfl, by decide⟩
    refine ⟨_, rfl, _, rfl, (by show 6 ≤ sizeLine; decide), fun l3 h3 => ?_⟩
    have n3 := pen_ne p2.pen h3
    have s3 := same_new (o := .lst [.int 1, .int 1, .int 1, .int 2, .int 3, .int 8]) h3
    refine ⟨pn, cl, l3, n + 1, _, rfl, upd_same, n3, by decide, by decide, p2.same s3, by omega, fun v H4 hv p4 u4 => ?_⟩
    have u04 := (u02.trans (but_same s3)).trans u4
    obtain ⟨b, rfl, b0, bb⟩ : ∃ b : Int, v = .int b ∧ 0 < b ∧ b.natAbs < 2 ^ 40 := by
      simp only [List.mem_cons, List.not_mem_nil, or_false] at hv
      rcases hv with rfl | rfl | rfl | rfl | rfl | rfl <;> exact ⟨_, rfl, by decide, by decide⟩
    refine ⟨t, b, rfl, b0, Nat.lt_of_lt_of_le (PySem.Flt.log2_lt_of (k := 40) (by decide) bb) (by decide), fun l hl => ?_⟩
    have s5 := same_new (o := .tup [.int (lowT t b), .int (lowB t b)]) hl
    have hl0 : H l = none := by
      cases z : H l with
      | none => rfl
      | some o =>
        by_cases y : l = pn
        · obtain ⟨_, _, _, e1, _⟩ := p4
          rw [y, e1] at hl
          cases hl
        · rw [u04 _ _ z y] at hl
          cases hl
    refine k l (lowT t b, lowB t b) _ hl0 upd_same ⟨⟨lowB_pos (by omega), low_cop (by omega)⟩, ?_, ?_⟩ (p4.same s5) (u04.trans (but_same s5))
    · exact Nat.lt_of_le_of_lt (lowT_abs (by omega)) bt
    · exact Nat.lt_of_le_of_lt (lowB_abs (by omega)) bb
theorem ok_lclip {f : Addr} {fd : FuncData} (F : Fun K "_law_clip" "_law_clip" s_lclip f fd) (T : CTx P K mg Cs CR CC CL fL CP fP CS fS CM fM) (M_Ratio : MakeAt P w K mg base (L2.CX P w) 3 "Ratio" CR ["self", "top", "bottom"] (spRinit CR) []) (K_of : ClsAt P w K mg base (L2.CX P w) 8 CC "of" (spCof Cs CR CC CS CM)) : FnOk P w K mg base CX0 9 f fd ["_law_row"] (spLclip CC CR) := by
  refine F.ok sc_lclip (fun vs H Q E h => ?_) (fun cdv A outer s H vs Q E hr h => ?_)
  · obtain ⟨l, ps, rs, rfl, _⟩ := h
    rfl
  · obtain ⟨l, ps, rs, rfl, R, ln, ok, k⟩ := h
    refine ⟨_, (pss_one (ps_ret (My.pe_cm K_of (hr.mono (by decide)) passL (pe_glob (v := .ref CC) (by rfl) T.gC rfl) (pa_cons (pe_lc (own := [("_law_one", 1)]) rfl sc_lclip.nd (pi_list (pv 0)) (blkOk_by (by show blkC ["_law_row", "_law_one"] (defScope s_lclip) _ _ = true; decide +kernel)) (fun _ _ _ _ _ => (pg_name (i := 1) sc_lclip.nd rfl (Or.inl rfl))) (fun _ _ _ _ _ => pts_nil) (fun _ _ _ _ _ => (My.pe_mk M_Ratio (hr.mono (by decide)) (by rfl) passL (pa_cons (pe_ix (My.ix_tupB (K := K) rfl) (pv 1) pe_int (fun _ _ => rfl)) (pa_cons (pe_ix (My.ix_tupB (K := K) rfl) (pv 1) pe_int (fun _ _ => rfl)) pa_nil))))) pa_nil)))), ?_⟩
    refine ⟨rfl, _, rfl, l, rfl, ⟨_, SqL.of R.l⟩, fun D hD => ?_⟩
    have nl : l ≠ D := ne_of_none R.l hD
    refine lc_it walk_list (fun i Hh => ∃ vs, Hh D = some (.lst vs) ∧ Rats CR Hh vs (rs.take i) ∧ Same H Hh) ⟨[], upd_same, Rats.nil, same_new hD⟩ (fun i Hh _ hh => by obtain ⟨_, _, _, s2⟩ := hh; exact SqL.of (s2 _ _ R.l)) ?_ ?_
    · rintro i v H2 Hh hi ⟨vs, g1, g2, g3⟩ ⟨rfl, hv⟩
      rw [List.length_map] at hi
      rw [List.getElem?_map] at hv
      obtain ⟨p, hp, rfl⟩ : ∃ p, ps[i]? = some p ∧ v = .ref p := by
        cases e : ps[i]? with
        | none => rw [e] at hv; cases hv
        | some p => rw [e] at hv; cases hv; exact ⟨p, rfl, rfl⟩
      obtain ⟨r, hr⟩ : ∃ r, rs[i]? = some r := ⟨_, List.getElem?_eq_getElem (by rw [← R.len]; exact hi)⟩
      have tp := g3 _ _ (R.at' i p r hp hr)
      have okr := ok r (List.mem_of_getElem? hr)
      have b0 : r.2 ≠ 0 := by have := okr.1.1; omega
      have lg : r.2.natAbs.log2 < 9000 := Nat.lt_trans okr.2.log (by decide)
      have lw := okr.1.low
      refine ⟨rfl, yes_go ⟨_, rfl, p, _, _, _, rfl, rfl, SqT.of tp, at0, _, rfl, p, _, _, _, rfl, rfl, SqT.of tp, at1, fun x dx hx hd ne => rinit_at b0 lg hx hd ne fun H3 l3 s3 => ?_⟩⟩
      rw [lw.1, lw.2] at l3
      refine ⟨vs, s3 _ _ g1, ?_, vs ++ [.ref x], upd_same, ?_, ?_⟩
      · rw [g2.1, List.length_take, sizeLine_eq]
        omega
      · rw [List.take_add_one, hr]
        refine Rats.put ((g2.same s3).snoc l3) fun dx fs z => ?_
        rw [s3 _ _ g1] at z
        cases z
      · intro c o e
        rw [upd_ne (ne_of_none e hD)]
        exact s3 _ _ (g3 _ _ e)
    rintro H2 ⟨vs, g1, g2, g3⟩
    rw [List.length_map, R.len, List.take_length] at g2
    exact ⟨D, vs, rfl, .inr g1, clip_to T.inn (fun rs' z => Nums.eq g2.nums z) g2.nums (by rw [g2.1]; exact ln) fun c H' po hc s => k c H' po (by
      cases z : H c with
      | none => rfl
      | some o => rw [g3 _ _ z] at hc; cases hc) (g3.trans s)⟩
end
end My
/-! Texts whose signs are code points; lists of texts and of truths as data. -/
namespace My
open PySem PySem.Spec PyProof.Rows L2
theorem strOk_app (x y : Str) : PyData.strOk (x ++ y) = (PyData.strOk x && PyData.strOk y) := by
  unfold PyData.strOk
  rw [PySem.Str.cps_append, Array.all_append]
theorem strOk_of (s : String) : PyData.strOk (Str.ofString s) = true := by
  unfold PyData.strOk
  rw [PySem.Str.ofString_eq_toList]
  rw [Array.all_eq_true]
  intro i hi
  simp only [List.getElem_toArray, List.getElem_map, decide_eq_true_eq]
  have := (s.toList[i]'(by simpa using hi)).valid
  rcases this with h | ⟨_, h⟩
  · exact Nat.lt_trans h (by decide)
  · exact h
/-- a list of texts as data -/
theorem dp_strs {K : PySem.W.Frag} {H : Hp} : ∀ zs : List Str, DpAll K H (zs.map V.str) (zs.map PyData.str)
  | [] => .nil
  | z :: zs => .cons (.str z) (dp_strs zs)
theorem lay_strs : ∀ zs : List Str, (∀ z ∈ zs, PyData.strOk z = true) → PyData.canLayAll0 (zs.map PyData.str) = true
  | [], _ => rfl
  | z :: zs, h => by
    show (PyData.strOk z && PyData.canLayAll0 (zs.map PyData.str)) = true
    rw [lay_strs zs fun x hx => h x (List.mem_cons_of_mem _ hx), h z List.mem_cons_self]
    rfl
theorem dep_strs : ∀ zs : List Str, PyData.depthAll (zs.map PyData.str) = 0
  | [] => rfl
  | z :: zs => by
    show max 0 (PyData.depthAll (zs.map PyData.str)) = 0
    rw [dep_strs zs]
    rfl
theorem shaped_strs (zs : List Str) (h : ∀ z ∈ zs, PyData.strOk z = true) : SeqAt.shaped (.list (zs.map PyData.str)) = true := by
  show (PyData.canLayAll0 (zs.map PyData.str) && decide (PyData.depthAll (zs.map PyData.str) + 1 ≤ 64)) = true
  rw [lay_strs zs h, dep_strs]
  rfl
/-- a list of truths as data, shown -/
theorem dp_bls {K : PySem.W.Frag} {H : Hp} : ∀ zs : List Bool, DpAll K H (zs.map V.bl) (zs.map PyData.bool)
  | [] => .nil
  | z :: zs => .cons (.bl z) (dp_bls zs)
theorem dep_bls : ∀ zs : List Bool, PyData.depthAll (zs.map PyData.bool) = 0
  | [] => rfl
  | z :: zs => by
    show max 0 (PyData.depthAll (zs.map PyData.bool)) = 0
    rw [dep_bls zs]
    rfl
theorem showable_bls : ∀ zs : List Bool, PyData.showableAll (zs.map PyData.bool) = true
  | [] => rfl
  | z :: zs => by
    show (true && PyData.showableAll (zs.map PyData.bool)) = true
    rw [showable_bls zs]
    rfl
theorem bls_sum : ∀ zs : List Bool, ((PyData.shownAll (zs.map PyData.bool)).map (·.length)).sum ≤ 5 * zs.length ∧ (PyData.shownAll (zs.map PyData.bool)).length = zs.length
  | [] => ⟨Nat.le_refl _, rfl⟩
  | z :: zs => by
    obtain ⟨h1, h2⟩ := bls_sum zs
    refine ⟨?_, ?_⟩
    · show (PyData.bool z).shown.length + ((PyData.shownAll (zs.map PyData.bool)).map (·.length)).sum ≤ 5 * (zs.length + 1)
      have e : (PyData.bool z).shown.length ≤ 5 := by cases z <;> decide +kernel
      omega
    · show (PyData.shownAll (zs.map PyData.bool)).length + 1 = zs.length + 1
      omega
theorem bls_show {K : PySem.W.Frag} {H : Hp} {l : Addr} (zs : List Bool) (hl : zs.length ≤ 1000) (h : H l = some (.lst (zs.map V.bl))) : Dr K H (.ref l) (.list (zs.map PyData.bool)) ∧ (PyData.list (zs.map PyData.bool)).showable = true ∧ (PyData.list (zs.map PyData.bool)).depth ≤ 60 ∧ (PyData.list (zs.map PyData.bool)).shown.length ≤ sizeLine := by
  refine ⟨.inl (.lst (SqL.of h) (dp_bls zs)), showable_bls zs, ?_, ?_⟩
  · show PyData.depthAll (zs.map PyData.bool) + 1 ≤ 60
    rw [dep_bls]
    decide
  · have h1 := listText_len_le (PyData.shownAll (zs.map PyData.bool))
    obtain ⟨h2, h3⟩ := bls_sum zs
    show (listText (PyData.shownAll (zs.map PyData.bool))).length ≤ sizeLine
    rw [sizeLine_eq]
    omega
theorem bl_show {K : PySem.W.Frag} {H : Hp} (b : Bool) : Dr K H (.bl b) (.bool b) ∧ (PyData.bool b).showable = true ∧ (PyData.bool b).depth ≤ 60 ∧ (PyData.bool b).shown.length ≤ sizeLine := by
  refine ⟨.inl (.bl b), rfl, Nat.zero_le _, ?_⟩
  cases b <;> decide +kernel
end My
namespace My
open PySem PySem.Spec PyProof.Rows L2
theorem int_show {K : PySem.W.Frag} {H : Hp} {i : Int} (h : i.natAbs.log2 < 1920) : Dr K H (.int i) (.int i) ∧ (PyData.int i).showable = true ∧ (PyData.int i).depth ≤ 60 ∧ (PyData.int i).shown.length ≤ sizeLine := by
  refine ⟨.inl (.int i), ?_, Nat.zero_le _, ?_⟩
  · show decide (i.natAbs.log2 < 1920) = true
    exact decide_eq_true h
  · have := num_len h
    show ((toString i : String) : Str).length ≤ sizeLine
    rw [sizeLine_eq]
    omega
theorem shaped_tupI (ns : List Int) : SeqAt.shaped (.tuple (ns.map PyData.int)) = true := by
  show (PyData.canLayAll0 (ns.map PyData.int) && decide (PyData.depthAll (ns.map PyData.int) + 1 ≤ 64)) = true
  rw [lay_ints, dep_ints]
  rfl
theorem bl_len (b : Bool) : (PyData.bool b).shown.length ≤ 5 := by cases b <;> decide +kernel
theorem dep_2 (us ts : List Int) (n : Int) (b : Bool) : PyData.depthAll [PyData.tuple (us.map PyData.int), .int n, .bool b, .list (ts.map PyData.int)] ≤ 10 := by
  show max (PyData.depthAll (us.map PyData.int) + 1) (max 0 (max 0 (max (PyData.depthAll (ts.map PyData.int) + 1) 0))) ≤ 10
  rw [dep_ints, dep_ints]
  decide
/-- [tuple, int, bool, list] shown -/
theorem seen_show {K : PySem.W.Frag} {H : Hp} {l t q : Addr} (us ts : List Int) (n : Int) (b : Bool) (hu : ∀ z ∈ us, z.natAbs.log2 < 1920) (ht : ∀ z ∈ ts, z.natAbs.log2 < 1920) (hn : n.natAbs.log2 < 1920) (lu : us.length ≤ 100) (lt : ts.length ≤ 100) (h : H l = some (.lst [.ref t, .int n, .bl b, .ref q])) (h1 : H t = some (.tup (us.map V.int))) (h2 : H q = some (.lst (ts.map V.int))) :
    Dr K H (.ref l) (.list [.tuple (us.map .int), .int n, .bool b, .list (ts.map .int)]) ∧ (PyData.list [.tuple (us.map .int), .int n, .bool b, .list (ts.map .int)]).showable = true ∧ (PyData.list [.tuple (us.map .int), .int n, .bool b, .list (ts.map .int)]).depth ≤ 60 ∧ (PyData.list [.tuple (us.map .int), .int n, .bool b, .list (ts.map .int)]).shown.length ≤ sizeLine := by
  refine ⟨.inl (.lst (SqL.of h) (.cons (.tup (SqT.of h1) (dp_ints us)) (.cons (.int n) (.cons (.bl b) (.cons (.lst (SqL.of h2) (dp_ints ts)) .nil))))), ?_, ?_, ?_⟩
  · show (PyData.showableAll (us.map PyData.int) && (decide (n.natAbs.log2 < 1920) && (true && (PyData.showableAll (ts.map PyData.int) && true)))) = true
    rw [showable_ints us hu, showable_ints ts ht, decide_eq_true hn]
    rfl
  · have := dep_2 us ts n b
    show _ + 1 ≤ 60
    omega
  · have a1 := tupleText_len_le (PyData.shownAll (us.map PyData.int))
    obtain ⟨a2, a3⟩ := shown_sum us hu
    have b1 := listText_len_le (PyData.shownAll (ts.map PyData.int))
    obtain ⟨b2, b3⟩ := shown_sum ts ht
    have c1 := num_len hn
    have d1 := bl_len b
    have e1 := listText_len_le [(PyData.tuple (us.map PyData.int)).shown, (PyData.int n).shown, (PyData.bool b).shown, (PyData.list (ts.map PyData.int)).shown]
    show (listText [(PyData.tuple (us.map PyData.int)).shown, (PyData.int n).shown, (PyData.bool b).shown, (PyData.list (ts.map PyData.int)).shown]).length ≤ sizeLine
    have e2 : ([(PyData.tuple (us.map PyData.int)).shown, (PyData.int n).shown, (PyData.bool b).shown, (PyData.list (ts.map PyData.int)).shown].map (·.length)).sum = (tupleText (PyData.shownAll (us.map PyData.int))).length + (((toString n : String) : Str).length + ((PyData.bool b).shown.length + ((listText (PyData.shownAll (ts.map PyData.int))).length + 0))) := rfl
    have e3 : [(PyData.tuple (us.map PyData.int)).shown, (PyData.int n).shown, (PyData.bool b).shown, (PyData.list (ts.map PyData.int)).shown].length = 4 := rfl
    rw [e2, e3] at e1
    rw [sizeLine_eq]
    omega
end My
namespace My
open PySem PySem.Spec PyProof.Rows L2
/-- lists of ints as tuples of data -/
def tupsD (uss : List (List Int)) : List PyData := uss.map fun us => .tuple (us.map .int)
/-- tuples of ints at these addresses -/
inductive TupsAt (H : Hp) : List V → List (List Int) → Prop where
  | nil : TupsAt H [] []
  | cons {t : Addr} {us : List Int} {xs : List V} {uss : List (List Int)} (h : H t = some (.tup (us.map V.int))) (r : TupsAt H xs uss) : TupsAt H (.ref t :: xs) (us :: uss)
theorem TupsAt.dp {K : PySem.W.Frag} {H : Hp} {xs : List V} {uss : List (List Int)} (h : TupsAt H xs uss) : DpAll K H xs (tupsD uss) := by
  induction h with
  | nil => exact .nil
  | cons h r ih => exact .cons (.tup (SqT.of h) (dp_ints _)) ih
theorem TupsAt.same {H H' : Hp} {xs : List V} {uss : List (List Int)} (h : TupsAt H xs uss) (s : Same H H') : TupsAt H' xs uss := by
  induction h with
  | nil => exact .nil
  | cons h r ih => exact .cons (s _ _ h) ih
theorem tups_lay : ∀ uss : List (List Int), PyData.depthAll (tupsD uss) ≤ 1
  | [] => Nat.zero_le _
  | us :: uss => by
    show max (PyData.depthAll (us.map PyData.int) + 1) (PyData.depthAll (tupsD uss)) ≤ 1
    rw [dep_ints]
    have := tups_lay uss
    omega
theorem tups_showable : ∀ uss : List (List Int), (∀ us ∈ uss, ∀ z ∈ us, z.natAbs.log2 < 1920) → PyData.showableAll (tupsD uss) = true
  | [], _ => rfl
  | us :: uss, h => by
    show (PyData.showableAll (us.map PyData.int) && PyData.showableAll (tupsD uss)) = true
    rw [showable_ints us (h us List.mem_cons_self), tups_showable uss fun u hu => h u (List.mem_cons_of_mem _ hu)]
    rfl
theorem tups_sum : ∀ uss : List (List Int), (∀ us ∈ uss, us.length ≤ 400 ∧ ∀ z ∈ us, z.natAbs.log2 < 1920) → ((PyData.shownAll (tupsD uss)).map (·.length)).sum ≤ 800000 * uss.length ∧ (PyData.shownAll (tupsD uss)).length = uss.length
  | [], _ => ⟨Nat.le_refl _, rfl⟩
  | us :: uss, h => by
    obtain ⟨h1, h2⟩ := tups_sum uss fun u hu => h u (List.mem_cons_of_mem _ hu)
    obtain ⟨l, z⟩ := h us List.mem_cons_self
    have a1 := tupleText_len_le (PyData.shownAll (us.map PyData.int))
    obtain ⟨a2, a3⟩ := shown_sum us z
    refine ⟨?_, ?_⟩
    · show (tupleText (PyData.shownAll (us.map PyData.int))).length + ((PyData.shownAll (tupsD uss)).map (·.length)).sum ≤ 800000 * (uss.length + 1)
      omega
    · show (PyData.shownAll (tupsD uss)).length + 1 = uss.length + 1
      omega
/-- a list of tuples of ints shown -/
theorem tups_show {K : PySem.W.Frag} {H : Hp} {l : Addr} {xs : List V} (uss : List (List Int)) (h : H l = some (.lst xs)) (at_ : TupsAt H xs uss) (hz : ∀ us ∈ uss, us.length ≤ 400 ∧ ∀ z ∈ us, z.natAbs.log2 < 1920) (hl : uss.length ≤ 10) :
    Dr K H (.ref l) (.list (tupsD uss)) ∧ (PyData.list (tupsD uss)).showable = true ∧ (PyData.list (tupsD uss)).depth ≤ 60 ∧ (PyData.list (tupsD uss)).shown.length ≤ sizeLine := by
  refine ⟨.inl (.lst (SqL.of h) at_.dp), tups_showable uss fun u hu => (hz u hu).2, ?_, ?_⟩
  · have := tups_lay uss
    show PyData.depthAll (tupsD uss) + 1 ≤ 60
    omega
  · have h1 := listText_len_le (PyData.shownAll (tupsD uss))
    obtain ⟨h2, h3⟩ := tups_sum uss hz
    show (listText (PyData.shownAll (tupsD uss))).length ≤ sizeLine
    rw [sizeLine_eq]
    omega
end My
/-! Rules for use within a comprehension: the table of the text is named apart from the context. -/
namespace My
open PySem PySem.Spec PyProof.Rows L2
section
variable {X : Cx} {K : PySem.W.Frag}
theorem pe_fldB {e : Expr} {f : Str} {ta : TE} {pos : Pos} (hK : X.K = K) (he : PE X e ta) (hb : attributeBase e f X.env (eval e X.env) = eval e X.env) : PE X (.Attribute e f pos) (tFld K ta f) := by
  subst hK
  exact pe_fld he hb
theorem call_lenB (hK : X.K = K) : CallR X (.builtin "len") (fun xs H Q => ∃ x n, xs = [x] ∧ LenV K x H n ∧ Q (.int n) H) := by
  subst hK
  exact call_len
theorem cr_sumB (hK : X.K = K) (hc : X.calm = true) : CallR X (.builtin "sum") (rSum K) := by
  subst hK
  exact cr_sum hc
theorem ix_tupP (hK : X.K = K) : IxR X (rIxT K) := by
  subst hK
  exact ix_tup
theorem pg_tupB {es : List Expr} {k n : Nat} {t : TGs} {pos : Pos} (hK : X.K = K) (hc : X.calm = true) (h : PGs X es t) (hn : (assignEach es X.env).length = n := by rfl) (hst : (assignEach es X.env).findIdx? (·.1) = none := by rfl) : PG X (.Tuple es k pos) (gTup K n t) := by
  subst hK
  exact pg_tup hc h hn hst
end
end My
set_option pp.maxSteps 1500
set_option pp.deepTerms.threshold 8
/-! ### the law's pairs, its text, its height -/
namespace My
open PySem PySem.Spec PyProof.Rows L2 GenW
abbrev s_pairs : Stmt := topS 51
theorem sc_pairs : FnScope ["_law_clip_here", "_law_one"] ["_law_clip_here"] (defScope s_pairs) := ⟨rfl, rfl, rfl, by decide +kernel, rfl, by decide +kernel, by decide +kernel⟩
theorem call_isiB {X : Cx} {K : PySem.W.Frag} (h : X.K = K) : CallR X (.builtin "isinstance") (rIsi K) := by
  subst h
  exact call_isi
theorem cfs_no (t : Addr) {x : Str} (h : (x == ("samples" : Str)) = false) : (cfs t).lookup x = none := by
  unfold cfs
  rw [List.lookup_cons, h]
  rfl
theorem RowK.snoc {H : Hp} {D l : Addr} {ps : List Addr} {rs : List (Int × Int)} {r : Int × Int} (h : RowK H D ps rs) (tl : TupAt H l r) : RowK (upd H D (.lst (ps.map V.ref ++ [.ref l]))) D (ps ++ [l]) (rs ++ [r]) := by
  have tup_ne : ∀ {q : Addr} {x : Int × Int}, TupAt H q x → q ≠ D := fun {q x} z y => by
    have z : H q = _ := z
    rw [y, h.l] at z
    cases z
  refine ⟨?_, ?_, ?_⟩
  · rw [List.map_append]
    exact upd_same
  · rw [List.length_append, List.length_append, h.len]
    rfl
  · intro j p r' e1 e2
    by_cases hj : j < ps.length
    · rw [List.getElem?_append_left hj] at e1
      rw [List.getElem?_append_left (by rw [← h.len]; exact hj)] at e2
      have z := h.at' j p r' e1 e2
      show upd H D _ p = _
      rw [upd_ne (tup_ne z)]
      exact z
    · have hj2 : j = ps.length := by
        have := (List.getElem?_eq_some_iff.mp e1).1
        rw [List.length_append] at this
        have : j < ps.length + 1 := this
        omega
      subst hj2
      rw [List.getElem?_append_right (Nat.le_refl _), Nat.sub_self] at e1
      rw [List.getElem?_append_right (by rw [h.len]; exact Nat.le_refl _), h.len, Nat.sub_self] at e2
      cases e1
      cases e2
      show upd H D _ l = _
      rw [upd_ne (tup_ne tl)]
      exact tl
theorem RowK.nil {H : Hp} {D : Addr} (h : H D = some (.lst [])) : RowK H D [] [] := ⟨h, rfl, fun i p r e _ => by simp at e⟩
theorem RowK.get {H : Hp} {l : Addr} {ps : List Addr} {rs : List (Int × Int)} (h : RowK H l ps rs) {i : Nat} {v : V} (e : (ps.map V.ref)[i]? = some v) : ∃ p r, v = .ref p ∧ ps[i]? = some p ∧ rs[i]? = some r ∧ TupAt H p r := by
  rw [List.getElem?_map] at e
  cases e1 : ps[i]? with
  | none => rw [e1] at e; cases e
  | some p =>
    rw [e1] at e
    cases e
    have hi : i < rs.length := by rw [← h.len]; exact (List.getElem?_eq_some_iff.mp e1).1
    exact ⟨p, rs[i], rfl, rfl, List.getElem?_eq_getElem hi, h.at' i p _ e1 (List.getElem?_eq_getElem hi)⟩
/-- rows as data -/
def two (rs : List (Int × Int)) : List (List Int) := rs.map fun r => [r.1, r.2]
theorem RowK.tups {H : Hp} {l : Addr} {ps : List Addr} {rs : List (Int × Int)} (h : RowK H l ps rs) : TupsAt H (ps.map V.ref) (two rs) := by
  have key : ∀ (ps : List Addr) (rs : List (Int × Int)), ps.length = rs.length → (∀ (i : Nat) p r, ps[i]? = some p → rs[i]? = some r → TupAt H p r) → TupsAt H (ps.map V.ref) (two rs) := by
    intro ps
    induction ps with
    | nil =>
      intro rs e _
      cases rs with
      | nil => exact .nil
      | cons _ _ => cases e
    | cons p ps ih =>
      intro rs e k
      cases rs with
      | nil => cases e
      | cons r rs =>
        refine .cons (us := [r.1, r.2]) (k 0 p r rfl rfl) (ih rs (by simpa using e) fun i q x e1 e2 => k (i + 1) q x ?_ ?_)
        · simpa using e1
        · simpa using e2
  exact key ps rs h.len h.at'
theorem RowK.dp {K : PySem.W.Frag} {H : Hp} {l : Addr} {ps : List Addr} {rs : List (Int × Int)} (h : RowK H l ps rs) : Dp K H (.ref l) (.list (tupsD (two rs))) := .lst (SqL.of h.l) h.tups.dp
theorem tups_can : ∀ uss : List (List Int), PyData.canLayAll0 (tupsD uss) = true
  | [] => rfl
  | us :: uss => by
    show (PyData.canLayAll0 (us.map PyData.int) && PyData.canLayAll0 (tupsD uss)) = true
    rw [lay_ints, tups_can uss]
    rfl
theorem tups_shaped (uss : List (List Int)) : SeqAt.shaped (.list (tupsD uss)) = true := by
  show (PyData.canLayAll0 (tupsD uss) && decide (PyData.depthAll (tupsD uss) + 1 ≤ 64)) = true
  rw [tups_can, decide_eq_true (by have := tups_lay uss; omega)]
  rfl
theorem rows_nil (rs : List (Int × Int)) : PyData.eqv (.list (tupsD (two rs))) (.list []) = decide (rs = []) := by
  cases rs with
  | nil => rfl
  | cons r rs => rfl
theorem nil_shaped : SeqAt.shaped (.list []) = true := rfl
theorem nil_dp {K : PySem.W.Frag} {H : Hp} {q : Addr} (h : H q = some (.lst [])) : Dp K H (.ref q) (.list []) := .lst (SqL.of h) .nil
def spPairs (CC CR : Addr) : Sp := fun vs H Q _ => ∃ (p : Addr) (rs : List (Int × Int)), vs = [.ref p] ∧ ClipAt CC CR H p rs ∧ ∀ l ps H', H l = none → RowK H' l ps rs → Same H H' → Q (.ref l) H'
def spWord : Sp := fun vs H Q _ => ∃ (p : Addr) (r : Int × Int), vs = [.ref p] ∧ TupAt H p r ∧ OkR r ∧ ∀ z : Str, z.length ≤ 4000 → Q (.str z) H
def spText : Sp := fun vs H Q _ => ∃ (l : Addr) (ps : List Addr) (rs : List (Int × Int)), vs = [.ref l] ∧ RowK H l ps rs ∧ rs.length ≤ 8 ∧ (∀ r ∈ rs, OkR r) ∧ ∀ (z : Str) H', Same H H' → Q (.str z) H'
section
variable {P : Program} {w : World} {K : PySem.W.Frag} {mg : Str → Option Value} {base : Heap} {Cs : List Addr} {CR CC CL fL CP fP CS fS CM fM : Addr}
theorem ok_pairs {f : Addr} {fd : FuncData} (F : Fun K "_law_pairs" "_law_pairs" s_pairs f fd) (T : CTx P K mg Cs CR CC CL fL CP fP CS fS CM fM) (G_each : GMeth P w K mg base 2 CC "each" (spEach CC)) : FnOk P w K mg base CX0 4 f fd ["_law_clip_here"] (spPairs CC CR) := by
  refine F.ok sc_pairs (fun vs H Q E h => ?_) (fun cdv A outer s H vs Q E hr h => ?_)
  · obtain ⟨p, rs, rfl, _⟩ := h
    rfl
  · obtain ⟨p, rs, rfl, ⟨t, zs, ⟨dx, e⟩, e2, r, l⟩, k⟩ := h
    refine ⟨_, (pss_one (ps_ret (My.pe_lcG (own := [("_law_one", 1)]) rfl sc_pairs.nd (My.pig_m0 G_each rfl T.clC (hr.mono (by decide)) (pv 0)) (blkOk_by (by show blkC ["_law_clip_here", "_law_one"] (defScope s_pairs) _ _ = true; decide +kernel)) (by decide +kernel) (fun _ _ _ _ _ => (pg_name (i := 1) sc_pairs.nd rfl (Or.inl rfl))) (fun _ _ _ _ _ => pts_nil) (fun _ _ _ _ _ => (pe_tup (pa_cons (My.pe_fldB (K := K) rfl (pv 1) rfl) (pa_cons (My.pe_fldB (K := K) rfl (pv 1) rfl) pa_nil))))))), ?_⟩
    refine ⟨_, rfl, p, dx, _, rfl, e, cfs_no t (by decide), _, ⟨p, dx, t, zs, rfl, rfl⟩, fun D hD => ?_⟩
    refine lcG_it walk_tupG (fun i Hh => ∃ ps, RowK Hh D ps (rs.take i) ∧ Same H Hh) ⟨[], .nil upd_same, same_new hD⟩ (fun i Hh _ hh => by obtain ⟨_, _, s⟩ := hh; exact ⟨s _ _ e, s _ _ e2⟩) ?_ ?_
    · rintro i v Hh H2 hi ⟨ps, R, s⟩ ⟨rfl, hv⟩
      obtain ⟨q, rv, rfl, hr', lr⟩ := r.get hv
      obtain ⟨dq, eq⟩ := lr.same s
      refine ⟨rfl, yes_go ⟨_, rfl, q, CR, dq, _, _, rfl, eq, T.cl, T.nT, rfs_top _ _, _, rfl, q, CR, dq, _, _, rfl, eq, T.cl, T.nB, rfs_bot _ _, (by show 2 ≤ sizeLine; decide), fun l hl => ?_⟩⟩
      have s2 := same_new (o := .tup [.int rv.1, .int rv.2]) hl
      refine ⟨_, s2 _ _ R.l, ?_, ps ++ [l], ?_, ?_⟩
      · rw [List.length_map, R.len, List.length_take, sizeLine_eq]
        omega
      · rw [List.take_add_one, hr']
        exact (R.same s2).snoc upd_same
      · intro b o e'
        rw [upd_ne (ne_of_none e' hD)]
        exact s2 _ _ (s _ _ e')
    · rintro H2 ⟨ps, R, s⟩
      rw [List.take_of_length_le (by rw [r.1]; exact Nat.le_refl _)] at R
      exact k D ps H2 hD R s
end
end My
set_option pp.maxSteps 1500
set_option pp.deepTerms.threshold 8
/-! ### clips: alike or not, a place read and set -/
namespace My
open PySem PySem.Spec PyProof.Rows L2
abbrev s_cset : Stmt := inClass (topS 31) 18
theorem sc_cset : FnScope ["self", "at", "worth", "first", "last"] ["self", "at", "worth"] (defScope s_cset) := ⟨rfl, rfl, rfl, by decide +kernel, rfl, by decide +kernel, by decide +kernel⟩
def spClen (CC CR : Addr) : Sp := fun vs H Q _ => ∃ (p t : Addr) (zs : List V) (rs : List (Int × Int)), vs = [.ref p] ∧ ClipT CC CR H p t zs rs ∧ Q (.int rs.length) H
def spCeq (Cs : List Addr) (CR CC : Addr) : Sp := fun vs H Q _ => ∃ (p : Addr) (rs : List (Int × Int)) (v : V), vs = [.ref p, v] ∧ ClipAt CC CR H p rs ∧
  ((∃ q rs2, v = .ref q ∧ ClipAt CC CR H q rs2 ∧ ∀ H', Same H H' → Q (.bl (decide (rs = rs2))) H') ∨ (AnyF Cs H v ∧ notIns CC H v ∧ Q (.bl false) H))
def spCget (CC CR CP : Addr) : Sp := fun vs H Q E => ∃ (p : Addr) (rs : List (Int × Int)) (v : V), vs = [.ref p, v] ∧ ClipAt CC CR H p rs ∧ (∃ t, Ty0 H v t) ∧ strB H v = false ∧
  (∀ (i : Nat) r, v = .int i → rs[i]? = some r → ∀ q, RatAt CR H q r.1 r.2 → Q (.ref q) H) ∧ (btw v 0 ((rs.length : Int) - 1) = false → Errs E CP "value" v H)
def spCset (Cs : List Addr) (CC CR CP CS : Addr) : Sp := fun vs H Q E => ∃ (p : Addr) (rs : List (Int × Int)) (v u : V) (b : Bool), vs = [.ref p, v, u] ∧ ClipAt CC CR H p rs ∧ (∃ t, Ty0 H v t) ∧ strB H v = false ∧ IsNum Cs CR H u b ∧
  (∀ (i : Nat), v = .int i → i < rs.length → ∀ a d, NumAt CR H u a d → d ≠ 0 ∧ d.natAbs.log2 < 9000 ∧ ∀ H', ClipAt CC CR H' p (rs.set i (lowT a d, lowB a d)) → (∀ c o, H c = some o → c ≠ p → H' c = some o) → Q .non H') ∧
  (btw v 0 ((rs.length : Int) - 1) = false → Errs E CP "value" v H) ∧ (btw v 0 ((rs.length : Int) - 1) = true → b = false → Errs E CS "at" v H)
theorem cut_whole {xs : List V} {lo hi : Option Int} (w : HT.sIx xs.length 0 lo = 0 ∧ HT.sIx xs.length xs.length hi = xs.length) : cutV xs lo hi = xs := by
  unfold cutV
  rw [w.1, w.2, List.drop_zero, Nat.sub_zero, List.take_length]
theorem slA_go {K : PySem.W.Frag} {H : Hp} {a : Addr} {xs : List V} {lo hi : Option Int} {Q : VK} (h : H a = some (.tup xs)) (k : ∀ r H', H' r = some (.tup (cutV xs lo hi)) → Same H H' → Q (.ref r) H') : rSlA K (.ref a) lo hi H Q :=
  ⟨a, xs, rfl, SqT.of h, fun w => k a H (by rw [cut_whole w]; exact h) fun _ _ e => e, fun _ p hp => k p _ upd_same (same_new hp)⟩
theorem catA_go {K : PySem.W.Frag} {H : Hp} {a b : Addr} {xs ys : List V} {Q : VK} (ha : H a = some (.tup xs)) (hb : H b = some (.tup ys)) (l : xs.length + ys.length ≤ sizeLine) (k : ∀ r H', H' r = some (.tup (xs ++ ys)) → Same H H' → Q (.ref r) H') : rCatA K (.ref a) (.ref b) H Q :=
  ⟨a, b, xs, ys, rfl, rfl, SqT.of ha, SqT.of hb, l, fun e => k b H (by rw [e]; exact hb) fun _ _ e => e, fun _ e => k a H (by rw [e, List.append_nil]; exact ha) fun _ _ e => e, fun _ _ p hp => k p _ upd_same (same_new hp)⟩
theorem cut_to (xs : List V) (i : Nat) : cutV xs none (some (i : Int)) = xs.take i := by
  unfold cutV
  rw [HT.sIx_none, HT.sIx_nat, List.drop_zero, Nat.sub_zero, ← List.take_eq_take_min]
theorem cut_from (xs : List V) (i : Nat) : cutV xs (some (i : Int)) none = xs.drop i := by
  unfold cutV
  rw [HT.sIx_none, HT.sIx_nat]
  by_cases h : i ≤ xs.length
  · rw [Nat.min_eq_left h, List.take_of_length_le (by rw [List.length_drop]; exact Nat.le_refl _)]
  · rw [Nat.min_eq_right (by omega), List.drop_length, List.drop_of_length_le (by omega), List.take_nil]
theorem set_cut {xs : List V} {i : Nat} (v : V) (h : i < xs.length) : xs.take i ++ [v] ++ xs.drop (i + 1) = xs.set i v := by
  rw [List.set_eq_take_append_cons_drop, if_pos h, List.append_assoc]
  rfl
theorem Rats.set {C : Addr} {H : Hp} {vs : List V} {rs : List (Int × Int)} (h : Rats C H vs rs) {i : Nat} {q : Addr} {r : Int × Int} (l : RatAt C H q r.1 r.2) : Rats C H (vs.set i (.ref q)) (rs.set i r) := by
  refine ⟨by rw [List.length_set, List.length_set, h.1], fun j x e => ?_⟩
  by_cases z : i = j
  · subst z
    rw [List.getElem?_set_self' ] at e
    cases e2 : rs[i]? with
    | none => rw [e2] at e; cases e
    | some y =>
      rw [e2] at e
      cases e
      have hi : i < vs.length := by rw [h.1]; exact (List.getElem?_eq_some_iff.mp e2).1
      exact ⟨q, by rw [List.getElem?_set_self hi], l⟩
  · rw [List.getElem?_set_ne z] at e ⊢
    exact h.2 j x e
theorem Rats.eqf {C : Addr} {H : Hp} {vs us : List V} {rs ss : List (Int × Int)} (h : Rats C H vs rs) (k : Rats C H us ss) : decide (rs = ss) = ((List.range (min vs.length us.length)).all (fun i => decide (rs[i]? = ss[i]?)) && vs.length == us.length) := by
  rw [h.1, k.1]
  by_cases e : rs = ss
  · subst e
    rw [decide_eq_true rfl]
    symm
    rw [Bool.and_eq_true]
    exact ⟨List.all_eq_true.mpr fun i _ => decide_eq_true rfl, beq_self_eq_true _⟩
  · rw [decide_eq_false e]
    symm
    rw [Bool.eq_false_iff]
    intro z
    rw [Bool.and_eq_true] at z
    have hl : rs.length = ss.length := eq_of_beq z.2
    refine e (List.ext_getElem? fun i => ?_)
    by_cases hi : i < rs.length
    · exact of_decide_eq_true (List.all_eq_true.mp z.1 i (List.mem_range.mpr (by omega)))
    · rw [List.getElem?_eq_none (by omega), List.getElem?_eq_none (by omega)]
section
variable {P : Program} {w : World} {K : PySem.W.Frag} {mg : Str → Option Value} {base : Heap} {Cs : List Addr} {CR CC CL fL CP fP CS fS CM fM : Addr}
theorem ok_cset {f : Addr} {fd : FuncData} (F : Fun K "__setitem__" "Clip.__setitem__" s_cset f fd) (T : CTx P K mg Cs CR CC CL fL CP fP CS fS CM fM) (D_isstr : DefAt P w K mg base CX0 1 "is_stretch" ["at"] spIsstr) (D_needplc : DefAt P w K mg base (L2.CX P w) 3 "need_place" ["place", "length"] (spNeedPlc Cs CP)) (L_len : CmpAt P w K mg base CX0 1 CC "__len__" ["self"] (spClen CC CR))
    (S_is_number : StatAt P w K mg base CX0 2 CR "is_number" ["thing"] (spIsnum Cs CR)) (S_of : StatAt P w K mg base CX0 5 CR "of" ["number"] (spOf CR)) : FnOk P w K mg base (L2.CX P w) 6 f fd ["self", "at", "worth"] (spCset Cs CC CR CP CS) := by
  refine F.okX sc_cset (fun vs H Q E h => ?_) (fun cdv A outer s H vs Q E hr h => ?_)
  · obtain ⟨p, rs, v, u, b, rfl, _⟩ := h
    rfl
  · obtain ⟨p, rs, v, u, b, rfl, ⟨t, zs, ⟨dx, e⟩, e2, r, l⟩, ⟨tv, ty⟩, ns, hu, k1, k2, k3⟩ := h
    refine ⟨_, (pss_one (ps_if (pt_val (My.pe_d D_isstr (hr.mono (by decide)) (by rfl) pass0 (pa_cons (pv 1) pa_nil))) (pss_cons ps_never
      (pss_cons ps_never
      (pss_cons ps_never
      (pss_one ps_never)))) (pss_cons (ps_expr (My.pe_d D_needplc (hr.mono (by decide)) (by rfl) (passes_call (takes_of rfl rfl rfl rfl) (fun _ _ _ _ h => h)) (pa_cons (pv 1) (pa_cons (pe_callB (My.call_lenO L_len (hr.mono (by decide)) pass0) (by rfl) T.z_len PySem.boot_len (pa_cons (pv 0) pa_nil)) pa_nil))))
      (pss_cons (ps_if (pt_not (pt_val (My.pe_st S_is_number (hr.mono (by decide)) pass0 (pe_glob (v := .ref CR) (by rfl) T.gR rfl) (pa_cons (pv 2) pa_nil)))) (pss_one (ps_raise1 rfl T.e_BadSample (hr.mono (by decide) : Room 0 _) (takes_of rfl rfl rfl rfl) (pa_cons (pv 1) pa_nil))) pss_nil)
      (pss_one (ps_fld (pv 0) (pe_op op_catA (pe_op op_catA (pe_slice sl_tupA (pe_fld (pv 0) rfl) po_none (po_some (pv 1))) (pe_tup (pa_cons (My.pe_st S_of (hr.mono (by decide)) pass0 (pe_glob (v := .ref CR) (by rfl) T.gR rfl) (pa_cons (pv 2) pa_nil)) pa_nil))) (pe_slice sl_tupA (pe_fld (pv 0) rfl) (po_some (pe_op op_add (pv 1) pe_int)) po_none)) rfl)))))), ?_⟩
    refine ⟨_, rfl, v, rfl, ⟨tv, ty⟩, _, rfl, ?_⟩
    rw [ns]
    refine iteF ?_
    refine ⟨_, rfl, _, rfl, p, dx, _, rfl, e, p, t, zs, rs, rfl, ⟨⟨dx, e⟩, e2, r, l⟩, _, rfl, by omega, by omega, v, rs.length, rfl, .inl ⟨tv, ty⟩, fun z => ?_, k2⟩
    refine ⟨rfl, _, rfl, u, b, rfl, hu, _, rfl, ?_⟩
    cases b with
    | false => exact iteT ⟨_, rfl, _, rfl, fun d hd => (k3 z rfl).go hd⟩
    | true =>
      refine iteF ?_
      obtain ⟨a, d, hn⟩ := hu.at
      obtain ⟨i, rfl, h1, h2⟩ := btw_int z
      obtain ⟨n, rfl⟩ := Int.eq_ofNat_of_zero_le h1
      have hlt : n < rs.length := by omega
      obtain ⟨d0, lg, k1⟩ := k1 n rfl hlt a d hn
      refine ⟨_, rfl, p, CC, dx, _, _, rfl, e, T.clC, T.nS, cfs_get t, _, rfl, n, rfl, slA_go e2 fun r1 H1 f1 s1 => ?_⟩
      refine ⟨rfl, _, rfl, u, a, d, rfl, hn.same s1, d0, lg, fun q H2 lq s2 => ⟨(by show 1 ≤ sizeLine; decide), fun t3 h3 => ?_⟩⟩
      have s3 := same_new (o := .tup [.ref q]) h3
      refine catA_go (s3 _ _ (s2 _ _ f1)) upd_same ?_ fun r4 H4 f4 s4 => ?_
      · rw [sizeLine_eq, cut_to, List.length_take]
        show min n zs.length + 1 ≤ _
        rw [r.1]
        omega
      have s04 := ((s1.trans s2).trans s3).trans s4
      refine ⟨_, rfl, p, CC, dx, _, _, rfl, s04 _ _ e, T.clC, T.nS, cfs_get t, _, rfl, _, _, rfl, rfl, _, rfl, ?_⟩
      dsimp only [tNoPart]
      refine slA_go (s04 _ _ e2) fun r5 H5 f5 s5 => ?_
      refine catA_go (s5 _ _ f4) f5 ?_ fun r6 H6 f6 s6 => ?_
      · have := cutV_length zs none (some (n : Int))
        have := cutV_length zs (some ((n : Int) + 1)) none
        have := r.1
        rw [List.length_append, sizeLine_eq]
        show (cutV zs none (some (n : Int))).length + 1 + (cutV zs (some ((n : Int) + 1)) none).length ≤ _
        omega
      have s06 := (s04.trans s5).trans s6
      have e6 := s06 _ _ e
      refine ⟨_, rfl, p, CC, dx, _, rfl, e6, T.clC, T.nS, (by show 1 < 1000; decide), ?_⟩
      have f7 : H6 r6 = some (.tup (zs.set n (.ref q))) := by
        rw [f6, cut_to, show ((n : Int) + 1) = ((n + 1 : Nat) : Int) from rfl, cut_from, set_cut _ (by rw [r.1]; exact hlt)]
      have rp : r6 ≠ p := fun z => by
        rw [z, e6] at f7
        cases f7
      rw [cfs_put]
      refine k1 _ ⟨r6, zs.set n (.ref q), ⟨dx, upd_same⟩, ?_, ?_, by rw [List.length_set]; exact l⟩ fun c o e' ne => ?_
      · rw [upd_ne rp]
        exact f7
      · refine Rats.put (Rats.set (r.same s06) (lq.same (((s3.trans s4).trans s5).trans s6))) fun dx' fs z => ?_
        rw [e6] at z
        cases z
        exact T.ne rfl
      · rw [upd_ne ne]
        exact s06 _ _ e'
end
end My
/-! == and != of data with any texts. -/
namespace My
open PySem PySem.Spec PyProof.Rows L2
section
variable {X : Cx}
def rEqP (K : PySem.W.Frag) : R2 := fun x y H Q => ∃ d e, Dp K H x d ∧ Dp K H y e ∧ d.plain = true ∧ e.plain = true ∧ min d.depth e.depth ≤ 60 ∧ Q (.bl (PyData.eqv d e)) H
def rNeP (K : PySem.W.Frag) : R2 := fun x y H Q => ∃ d e, Dp K H x d ∧ Dp K H y e ∧ d.plain = true ∧ e.plain = true ∧ min d.depth e.depth ≤ 60 ∧ Q (.bl (!PyData.eqv d e)) H
theorem op_eqP (hu : X.A.units + 64 < cLine) : OpR X (compareOp .Eq) (rEqP X.K) := by
  intro pins s σ H x y v u Q I rx ry h
  obtain ⟨d, e, hd, he, sd, se, dp, q⟩ := h
  obtain ⟨as, r1⟩ := Dp.reads I d x v hd rx
  obtain ⟨bs, r2⟩ := Dp.reads I e y u he ry
  exact SeqAt.eq_plain r1 r2 sd se (by omega) ⟨.bl _, H, I, rfl, q⟩
theorem op_neP (hu : X.A.units + 64 < cLine) : OpR X (compareOp .NotEq) (rNeP X.K) := by
  intro pins s σ H x y v u Q I rx ry h
  obtain ⟨d, e, hd, he, sd, se, dp, q⟩ := h
  obtain ⟨as, r1⟩ := Dp.reads I d x v hd rx
  obtain ⟨bs, r2⟩ := Dp.reads I e y u he ry
  exact SeqAt.ne_plain r1 r2 sd se (by omega) ⟨.bl _, H, I, rfl, q⟩
theorem plain_strs : ∀ zs : List Str, PyData.plainAll (zs.map PyData.str) = true
  | [] => rfl
  | z :: zs => by
    show (true && PyData.plainAll (zs.map PyData.str)) = true
    rw [plain_strs zs]
    rfl
end
end My
set_option pp.maxSteps 1500
set_option pp.deepTerms.threshold 8
/-! ### a clip is a row -/
namespace My
open PySem PySem.Spec PyProof.Rows L2 GenW
abbrev s_lis : Stmt := topS 52
theorem sc_lis : FnScope ["_law_clip_here", "_law_row", "_law_one"] ["_law_clip_here", "_law_row"] (defScope s_lis) := ⟨rfl, rfl, rfl, by decide +kernel, rfl, by decide +kernel, by decide +kernel⟩
theorem two_bd {k : Nat} (hk : k ≤ 1900) {rs : List (Int × Int)} (ok : ∀ r ∈ rs, Bd k r) : ∀ us ∈ two rs, us.length = 2 ∧ ∀ z ∈ us, z.natAbs.log2 < 1920 := fun us hu => by
  obtain ⟨r, hr, rfl⟩ := List.mem_map.mp hu
  refine ⟨rfl, fun z hz => ?_⟩
  have := (ok r hr).log hk
  simp only [List.mem_cons, List.not_mem_nil, or_false] at hz
  rcases hz with rfl | rfl
  · exact this.1
  · exact this.2
theorem tups_sum2 : ∀ uss : List (List Int), (∀ us ∈ uss, us.length = 2 ∧ ∀ z ∈ us, z.natAbs.log2 < 1920) → ((PyData.shownAll (tupsD uss)).map (·.length)).sum ≤ 8000 * uss.length ∧ (PyData.shownAll (tupsD uss)).length = uss.length
  | [], _ => ⟨Nat.le_refl _, rfl⟩
  | us :: uss, h => by
    obtain ⟨h1, h2⟩ := tups_sum2 uss fun u hu => h u (List.mem_cons_of_mem _ hu)
    obtain ⟨l2, hz⟩ := h us List.mem_cons_self
    have e1 := tupleText_len_le (PyData.shownAll (us.map PyData.int))
    obtain ⟨e2, e3⟩ := shown_sum us hz
    rw [l2] at e2 e3
    rw [e3] at e1
    refine ⟨?_, ?_⟩
    · show (tupleText (PyData.shownAll (us.map PyData.int))).length + ((PyData.shownAll (tupsD uss)).map (·.length)).sum ≤ 8000 * (uss.length + 1)
      omega
    · show (PyData.shownAll (tupsD uss)).length + 1 = uss.length + 1
      omega
theorem RowK.show {K : PySem.W.Frag} {H : Hp} {l : Addr} {ps : List Addr} {rs : List (Int × Int)} {k : Nat} (hk : k ≤ 1900) (h : RowK H l ps rs) (ok : ∀ r ∈ rs, Bd k r) (ln : rs.length ≤ 1000) :
    Dr K H (.ref l) (.list (tupsD (two rs))) ∧ (PyData.list (tupsD (two rs))).showable = true ∧ (PyData.list (tupsD (two rs))).depth ≤ 60 ∧ (PyData.list (tupsD (two rs))).shown.length ≤ sizeLine := by
  have hz := two_bd hk ok
  refine ⟨.inl (.lst (SqL.of h.l) h.tups.dp), tups_showable (two rs) fun u hu => (hz u hu).2, ?_, ?_⟩
  · have := tups_lay (two rs)
    show PyData.depthAll (tupsD (two rs)) + 1 ≤ 60
    omega
  · have h1 := listText_len_le (PyData.shownAll (tupsD (two rs)))
    obtain ⟨h2, h3⟩ := tups_sum2 (two rs) hz
    have h4 : (two rs).length = rs.length := by unfold two; rw [List.length_map]
    show (listText (PyData.shownAll (tupsD (two rs)))).length ≤ sizeLine
    rw [sizeLine_eq]
    omega
theorem nat_show {K : PySem.W.Frag} {H : Hp} {n : Nat} (h : n ≤ 2000) : Dr K H (.int n) (.int n) ∧ (PyData.int n).showable = true ∧ (PyData.int n).depth ≤ 60 ∧ (PyData.int n).shown.length ≤ sizeLine := int_show (Nat.lt_of_lt_of_le (PySem.Flt.log2_lt_of (k := 40) (by decide) (by
  rw [Int.natAbs_natCast]
  exact Nat.lt_of_le_of_lt h (by decide))) (by decide))
def spLis (CC CR : Addr) : Sp := fun vs H Q _ => ∃ (p l : Addr) (ps : List Addr) (rs : List (Int × Int)), vs = [.ref p, .ref l] ∧ ClipAt CC CR H p rs ∧ RowK H l ps rs ∧ (∀ r ∈ rs, Bd 1900 r) ∧ rs.length ≤ 1000 ∧ ∀ H', Same H H' → Q (.bl true) H'
section
variable {P : Program} {w : World} {K : PySem.W.Frag} {mg : Str → Option Value} {base : Heap} {Cs : List Addr} {CR CC CL fL CP fP CS fS CM fM : Addr}
theorem ok_lis {f : Addr} {fd : FuncData} (F : Fun K "_law_is" "_law_is" s_lis f fd) (T : CTx P K mg Cs CR CC CL fL CP fP CS fS CM fM) (G_each : GMeth P w K mg base 2 CC "each" (spEach CC)) (L_len : CmpAt P w K mg base CX0 1 CC "__len__" ["self"] (spClen CC CR))
    (D_pairs : DefAt P w K mg base CX0 4 "_law_pairs" ["_law_clip_here"] (spPairs CC CR)) : FnG P w K mg base CX0 5 f fd ["_law_clip_here", "_law_row"] (spLis CC CR) := by
  refine okG F sc_lis (fun vs H Q E h => ?_) (fun cdv A outer s H vs Q E hf hgd hr h => ?_)
  · obtain ⟨p, l, ps, rs, rfl, _⟩ := h
    rfl
  · obtain ⟨p, l, ps, rs, rfl, ⟨t, zs, ⟨dx, e⟩, e2, r, l2⟩, R, ok, ln, k⟩ := h
    refine ⟨_, (pss_cons (ps_if (PW.pt (pw_or (pt_not (pt_val (pe_callB call_isi (by rfl) T.z_isinstance boot_isinstance (pa_cons (pv 0) (pa_cons (pe_glob (v := .ref CC) (by rfl) T.gC rfl) pa_nil))))) (pw_or1 (pt_cmpR op_ne (pe_callB (My.call_repr hgd hr) (by rfl) T.z_repr boot_repr (pa_cons (pe_callB (My.call_lenO L_len (hr.mono (by decide)) pass0) (by rfl) T.z_len PySem.boot_len (pa_cons (pv 0) pa_nil)) pa_nil)) (pe_callB (My.call_repr hgd hr) (by rfl) T.z_repr boot_repr (pa_cons (pe_callB call_len (by rfl) T.z_len PySem.boot_len (pa_cons (pv 1) pa_nil)) pa_nil)) (nomark _))))) (pss_one (ps_ret pe_bl)) pss_nil)
      (pss_cons (ps_if (pt_cmpR (op_neD hr.units) (My.pe_lcG (own := [("_law_one", 2)]) rfl sc_lis.nd (My.pig_m0 G_each rfl T.clC (hr.mono (by decide)) (pv 0)) (blkOk_by (by show blkC ["_law_clip_here", "_law_row", "_law_one"] (defScope s_lis) _ _ = true; decide +kernel)) (by decide +kernel) (fun _ _ _ _ _ => (pg_name (i := 2) sc_lis.nd rfl (Or.inl rfl))) (fun _ _ _ _ _ => (pts_one (pt_not (pt_val (pe_callB (My.call_isiB (K := K) rfl) (by rfl) T.z_isinstance boot_isinstance (pa_cons (pv 2) (pa_cons (pe_glob (v := .ref CR) (by rfl) T.gR rfl) pa_nil))))))) (fun _ _ _ _ _ => (pv 2))) (pe_lst pa_nil) (nomark _)) (pss_one (ps_ret pe_bl)) pss_nil)
      (pss_one (ps_ret (pe_cmpR op_eq (pe_callB (My.call_repr hgd hr) (by rfl) T.z_repr boot_repr (pa_cons (My.pe_d D_pairs (hr.mono (by decide)) (by rfl) pass0 (pa_cons (pv 0) pa_nil)) pa_nil)) (pe_callB (My.call_repr hgd hr) (by rfl) T.z_repr boot_repr (pa_cons (pv 1) pa_nil)) (nomark _)))))), ?_⟩
    obtain ⟨n1, n2, n3, n4⟩ := nat_show (K := K) (H := H) l2
    have el : (ps.map V.ref).length = rs.length := by rw [List.length_map, R.len]
    refine ⟨_, rfl, .ref p, .ref CC, _, _, true, rfl, .own _, T.ownC.ty e, T.ownC.me, _, rfl, ?_⟩
    refine iteF ?_
    refine ⟨_, rfl, p, dx, _, rfl, e, p, t, zs, rs, rfl, ⟨⟨dx, e⟩, e2, r, l2⟩, _, rfl, by omega, by omega, _, .int rs.length, rfl, n1, n2, n3, n4, _, rfl, .ref l, _, rfl, .inl ⟨_, SqL.of R.l, rfl⟩, _, .int rs.length, by rw [el], n1, n2, n3, n4, rfl, _, rfl, ?_⟩
    rw [decide_eq_true (rfl : V.str (PyData.int rs.length).shown = V.str (PyData.int rs.length).shown)]
    refine iteF ?_
    refine ⟨_, rfl, p, dx, _, rfl, e, cfs_no t (by decide), _, ⟨p, dx, t, zs, rfl, rfl⟩, fun D hD => ?_⟩
    refine lcG_it walk_tupG (fun i Hh => Hh D = some (.lst []) ∧ Same H Hh) ⟨upd_same, same_new hD⟩ (fun i Hh _ hh => ⟨hh.2 _ _ e, hh.2 _ _ e2⟩) ?_ ?_
    · rintro i v Hh H2 hi ⟨g1, s1⟩ ⟨rfl, hv⟩
      obtain ⟨q, rv, rfl, hr', lr⟩ := r.get hv
      obtain ⟨dq, eq⟩ := lr.same s1
      refine ⟨rfl, _, rfl, .ref q, .ref CR, _, _, true, rfl, .own _, T.own.ty eq, T.own.me, _, rfl, ?_⟩
      exact iteF ⟨g1, s1⟩
    · rintro H2 ⟨g1, s1⟩
      refine ⟨(by show 0 ≤ sizeLine; decide), fun q hq => ?_⟩
      have s2 := s1.trans (same_new (o := .lst []) hq)
      refine ⟨_, _, nil_dp (same_new hq _ _ g1), nil_dp upd_same, nil_shaped, nil_shaped, _, rfl, iteF ?_⟩
      refine ⟨_, rfl, p, rs, rfl, ⟨t, zs, ⟨dx, s2 _ _ e⟩, s2 _ _ e2, r.same s2, l2⟩, fun l3 ps3 H4 hl R3 s4 => ?_⟩
      obtain ⟨i1, i2, i3, i4⟩ := R3.show (K := K) (k := 1900) (by decide) ok ln
      obtain ⟨j1, j2, j3, j4⟩ := (R.same (s2.trans s4)).show (K := K) (k := 1900) (by decide) ok ln
      refine ⟨_, _, rfl, i1, i2, i3, i4, _, rfl, _, _, rfl, j1, j2, j3, j4, rfl, ?_⟩
      rw [decide_eq_true (rfl : V.str (PyData.list (tupsD (two rs))).shown = V.str (PyData.list (tupsD (two rs))).shown)]
      exact k _ (s2.trans s4)
end
end My
set_option pp.maxSteps 1500
set_option pp.deepTerms.threshold 8
/-! ### ratios: sums and products; the law's own -/
namespace My
open PySem PySem.Spec PyProof.Rows L2
abbrev s_radd : Stmt := inClass (topS 19) 7
theorem sc_radd : FnScope ["self", "other", "top", "bottom"] ["self", "other"] (defScope s_radd) := ⟨rfl, rfl, rfl, by decide +kernel, rfl, by decide +kernel, by decide +kernel⟩
abbrev s_rmul : Stmt := inClass (topS 19) 11
theorem sc_rmul : FnScope ["self", "other", "top", "bottom"] ["self", "other"] (defScope s_rmul) := ⟨rfl, rfl, rfl, by decide +kernel, rfl, by decide +kernel, by decide +kernel⟩
abbrev s_lsum : Stmt := topS 46
theorem sc_lsum : FnScope ["_law_one", "_law_other"] ["_law_one", "_law_other"] (defScope s_lsum) := ⟨rfl, rfl, rfl, by decide +kernel, rfl, by decide +kernel, by decide +kernel⟩
abbrev s_lprod : Stmt := topS 47
theorem sc_lprod : FnScope ["_law_one", "_law_other"] ["_law_one", "_law_other"] (defScope s_lprod) := ⟨rfl, rfl, rfl, by decide +kernel, rfl, by decide +kernel, by decide +kernel⟩
theorem pos_ne {x y : Int} (h : 0 < x) (k : 0 < y) : x * y ≠ 0 := Int.mul_ne_zero (by omega) (by omega)
theorem bd_w {x y : Int} (hx : x.natAbs < 2 ^ 1900) (hy : y.natAbs < 2 ^ 1900) : CMulW x y := Sm.mul (i := 1900) (j := 1900) hx hy
theorem bd_p {x y : Int} (hx : x.natAbs < 2 ^ 1900) (hy : y.natAbs < 2 ^ 1900) : (x * y).natAbs.log2 < 9000 := Nat.lt_of_lt_of_le (PySem.Flt.log2_lt_of (k := 3800) (by decide) (nat_mul_lt hx hy)) (by decide)
/-- a number and a number -/
def spBinE (C : Addr) (f : Int × Int → Int × Int → Int × Int) : Sp := fun vs H Q _ => ∃ (p : Addr) (r s : Int × Int) (v : V), vs = [.ref p, v] ∧ RatAt C H p r.1 r.2 ∧ NumAt C H v s.1 s.2 ∧ Bd 1900 r ∧ Bd 1900 s ∧ ∀ (q : Addr) (H' : Hp), RatAt C H' q (f r s).1 (f r s).2 → Same H H' → Q (.ref q) H'
def spLbin (f : Int × Int → Int × Int → Int × Int) : Sp := fun vs H Q _ => ∃ (p q : Addr) (r s : Int × Int), vs = [.ref p, .ref q] ∧ TupAt H p r ∧ TupAt H q s ∧ Bd 1900 r ∧ Bd 1900 s ∧ ∀ (l : Addr) (H' : Hp), H l = none → TupAt H' l (f r s) → Same H H' → Q (.ref l) H'
section
variable {P : Program} {w : World} {K : PySem.W.Frag} {mg : Str → Option Value} {base : Heap} {Cs : List Addr} {CR CC CL fL CP fP CS fS CM fM : Addr}
theorem ok_radd {f : Addr} {fd : FuncData} (F : Fun K "__add__" "Ratio.__add__" s_radd f fd) (T : RTx K mg Cs CR) (S_is_number : StatAt P w K mg base CX0 2 CR "is_number" ["thing"] (spIsnum Cs CR)) (D_partsof : DefAt P w K mg base CX0 1 "parts_of" ["number"] (spParts0 CR)) (M_Ratio : MakeAt P w K mg base (L2.CX P w) 3 "Ratio" CR ["self", "top", "bottom"] (spRinit CR) []) : FnOk P w K mg base CX0 5 f fd ["self", "other"] (spBinE CR rAdd) := by
  refine F.ok sc_radd (fun vs H Q E h => ?_) (fun cdv A outer s H vs Q E hr h => ?_)
  · obtain ⟨p, r, s, v, rfl, _⟩ := h
    rfl
  · obtain ⟨p, ⟨a, b⟩, ⟨c, d⟩, v, rfl, hp, hv, br, bs, k⟩ := h
    refine ⟨_, (pss_cons (ps_if (pt_not (pt_val (My.pe_st S_is_number (hr.mono (by decide)) pass0 (pe_glob (v := .ref CR) (by rfl) T.gR rfl) (pa_cons (pv 1) pa_nil)))) (pss_one ps_never) pss_nil)
      (pss_cons (ps_asg (My.pe_d D_partsof (hr.mono (by decide)) (by rfl) pass0 (pa_cons (pv 1) pa_nil)) (pg_tup rfl (pgs_cons (pg_name (i := 2) sc_radd.nd rfl (Or.inl rfl)) (pgs_cons (pg_name (i := 3) sc_radd.nd rfl (Or.inl rfl)) pgs_nil))))
      (pss_one (ps_ret (My.pe_mk M_Ratio (hr.mono (by decide)) (by rfl) passL (pa_cons (pe_op op_add (pe_op op_mulW (pe_fld (pv 0) rfl) (pv 3)) (pe_op op_mulW (pv 2) (pe_fld (pv 0) rfl))) (pa_cons (pe_op op_mulW (pe_fld (pv 0) rfl) (pv 3)) pa_nil))))))), ?_⟩
    refine ⟨rfl, _, rfl, v, true, rfl, .num hv, _, rfl, iteF ?_⟩
    refine ⟨_, rfl, v, c, d, rfl, hv, fun t ht => ⟨t, _, rfl, SqT.of upd_same, rfl, _, _, rfl, _, _, rfl, rfl, ?_⟩⟩
    have st := same_new (o := .tup [.int c, .int d]) ht
    obtain ⟨dx, e0⟩ := hp
    have e1 := st _ _ e0
    refine ⟨_, rfl, p, CR, dx, _, _, rfl, e1, T.cl, T.nT, rfs_top _ _, _, rfl, _, _, rfl, rfl, bd_w br.2.1 bs.2.2, _, rfl, _, rfl, p, CR, dx, _, _, rfl, e1, T.cl, T.nB, rfs_bot _ _, _, _, rfl, rfl, bd_w bs.2.1 br.2.2, _, _, rfl, rfl, _, rfl, p, CR, dx, _, _, rfl, e1, T.cl, T.nB, rfs_bot _ _, _, rfl, _, _, rfl, rfl, bd_w br.2.2 bs.2.2, fun x dx' hx hd ne => rinit_at (pos_ne br.1.1 bs.1.1) (bd_p br.2.2 bs.2.2) hx hd ne fun H' l s => k x H' l (st.trans s)⟩
theorem ok_rmul {f : Addr} {fd : FuncData} (F : Fun K "__mul__" "Ratio.__mul__" s_rmul f fd) (T : RTx K mg Cs CR) (S_is_number : StatAt P w K mg base CX0 2 CR "is_number" ["thing"] (spIsnum Cs CR)) (D_partsof : DefAt P w K mg base CX0 1 "parts_of" ["number"] (spParts0 CR)) (M_Ratio : MakeAt P w K mg base (L2.CX P w) 3 "Ratio" CR ["self", "top", "bottom"] (spRinit CR) []) : FnOk P w K mg base CX0 5 f fd ["self", "other"] (spBinE CR rMul) := by
  refine F.ok sc_rmul (fun vs H Q E h => ?_) (fun cdv A outer s H vs Q E hr h => ?_)
  · obtain ⟨p, r, s, v, rfl, _⟩ := h
    rfl
  · obtain ⟨p, ⟨a, b⟩, ⟨c, d⟩, v, rfl, hp, hv, br, bs, k⟩ := h
    refine ⟨_, (pss_cons (ps_if (pt_not (pt_val (My.pe_st S_is_number (hr.mono (by decide)) pass0 (pe_glob (v := .ref CR) (by rfl) T.gR rfl) (pa_cons (pv 1) pa_nil)))) (pss_one ps_never) pss_nil)
      (pss_cons (ps_asg (My.pe_d D_partsof (hr.mono (by decide)) (by rfl) pass0 (pa_cons (pv 1) pa_nil)) (pg_tup rfl (pgs_cons (pg_name (i := 2) sc_rmul.nd rfl (Or.inl rfl)) (pgs_cons (pg_name (i := 3) sc_rmul.nd rfl (Or.inl rfl)) pgs_nil))))
      (pss_one (ps_ret (My.pe_mk M_Ratio (hr.mono (by decide)) (by rfl) passL (pa_cons (pe_op op_mulW (pe_fld (pv 0) rfl) (pv 2)) (pa_cons (pe_op op_mulW (pe_fld (pv 0) rfl) (pv 3)) pa_nil))))))), ?_⟩
    refine ⟨rfl, _, rfl, v, true, rfl, .num hv, _, rfl, iteF ?_⟩
    refine ⟨_, rfl, v, c, d, rfl, hv, fun t ht => ⟨t, _, rfl, SqT.of upd_same, rfl, _, _, rfl, _, _, rfl, rfl, ?_⟩⟩
    have st := same_new (o := .tup [.int c, .int d]) ht
    obtain ⟨dx, e0⟩ := hp
    have e1 := st _ _ e0
    refine ⟨_, rfl, p, CR, dx, _, _, rfl, e1, T.cl, T.nT, rfs_top _ _, _, rfl, _, _, rfl, rfl, bd_w br.2.1 bs.2.1, _, rfl, p, CR, dx, _, _, rfl, e1, T.cl, T.nB, rfs_bot _ _, _, rfl, _, _, rfl, rfl, bd_w br.2.2 bs.2.2, fun x dx' hx hd ne => rinit_at (pos_ne br.1.1 bs.1.1) (bd_p br.2.2 bs.2.2) hx hd ne fun H' l s => k x H' l (st.trans s)⟩
theorem ok_lsum {f : Addr} {fd : FuncData} (F : Fun K "_law_sum" "_law_sum" s_lsum f fd) (D_frac : DefAt P w K mg base CX0 1 "_law_frac" ["_law_top", "_law_bottom"] spFrac) : FnOk P w K mg base CX0 3 f fd ["_law_one", "_law_other"] (spLbin rAdd) := by
  refine F.ok sc_lsum (fun vs H Q E h => ?_) (fun cdv A outer s H vs Q E hr h => ?_)
  · obtain ⟨p, q, r, s, rfl, _⟩ := h
    rfl
  · obtain ⟨p, q, ⟨a, b⟩, ⟨c, d⟩, rfl, hp, hq, br, bs, k⟩ := h
    refine ⟨_, (pss_one (ps_ret (My.pe_d D_frac (hr.mono (by decide)) (by rfl) pass0 (pa_cons (pe_op op_add (pe_op op_mulW (pe_ix ix_tup (pv 0) pe_int (fun _ _ => rfl)) (pe_ix ix_tup (pv 1) pe_int (fun _ _ => rfl))) (pe_op op_mulW (pe_ix ix_tup (pv 1) pe_int (fun _ _ => rfl)) (pe_ix ix_tup (pv 0) pe_int (fun _ _ => rfl)))) (pa_cons (pe_op op_mulW (pe_ix ix_tup (pv 0) pe_int (fun _ _ => rfl)) (pe_ix ix_tup (pv 1) pe_int (fun _ _ => rfl))) pa_nil))))), ?_⟩
    refine ⟨_, rfl, p, _, _, _, rfl, rfl, SqT.of hp, at0, _, rfl, q, _, _, _, rfl, rfl, SqT.of hq, at1, _, _, rfl, rfl, bd_w br.2.1 bs.2.2, _, rfl, q, _, _, _, rfl, rfl, SqT.of hq, at0, _, rfl, p, _, _, _, rfl, rfl, SqT.of hp, at1, _, _, rfl, rfl, bd_w bs.2.1 br.2.2, _, _, rfl, rfl, ?_⟩
    refine ⟨_, rfl, p, _, _, _, rfl, rfl, SqT.of hp, at1, _, rfl, q, _, _, _, rfl, rfl, SqT.of hq, at1, _, _, rfl, rfl, bd_w br.2.2 bs.2.2, _, _, rfl, Int.mul_pos br.1.1 bs.1.1, bd_p br.2.2 bs.2.2, fun l hl => k l _ hl upd_same (same_new hl)⟩
theorem ok_lprod {f : Addr} {fd : FuncData} (F : Fun K "_law_product" "_law_product" s_lprod f fd) (D_frac : DefAt P w K mg base CX0 1 "_law_frac" ["_law_top", "_law_bottom"] spFrac) : FnOk P w K mg base CX0 3 f fd ["_law_one", "_law_other"] (spLbin rMul) := by
  refine F.ok sc_lprod (fun vs H Q E h => ?_) (fun cdv A outer s H vs Q E hr h => ?_)
  · obtain ⟨p, q, r, s, rfl, _⟩ := h
    rfl
  · obtain ⟨p, q, ⟨a, b⟩, ⟨c, d⟩, rfl, hp, hq, br, bs, k⟩ := h
    refine ⟨_, (pss_one (ps_ret (My.pe_d D_frac (hr.mono (by decide)) (by rfl) pass0 (pa_cons (pe_op op_mulW (pe_ix ix_tup (pv 0) pe_int (fun _ _ => rfl)) (pe_ix ix_tup (pv 1) pe_int (fun _ _ => rfl))) (pa_cons (pe_op op_mulW (pe_ix ix_tup (pv 0) pe_int (fun _ _ => rfl)) (pe_ix ix_tup (pv 1) pe_int (fun _ _ => rfl))) pa_nil))))), ?_⟩
    refine ⟨_, rfl, p, _, _, _, rfl, rfl, SqT.of hp, at0, _, rfl, q, _, _, _, rfl, rfl, SqT.of hq, at0, _, _, rfl, rfl, bd_w br.2.1 bs.2.1, ?_⟩
    refine ⟨_, rfl, p, _, _, _, rfl, rfl, SqT.of hp, at1, _, rfl, q, _, _, _, rfl, rfl, SqT.of hq, at1, _, _, rfl, rfl, bd_w br.2.2 bs.2.2, _, _, rfl, Int.mul_pos br.1.1 bs.1.1, bd_p br.2.2 bs.2.2, fun l hl => k l _ hl upd_same (same_new hl)⟩
end
end My
set_option pp.maxSteps 1500
set_option pp.deepTerms.threshold 8
/-! ### edits: echoes -/
namespace My
open PySem PySem.Spec PyProof.Rows L2 GenW
abbrev s_needcnt : Stmt := topS 35
theorem sc_needcnt : FnScope ["value", "least", "part"] ["value", "least", "part"] (defScope s_needcnt) := ⟨rfl, rfl, rfl, by decide +kernel, rfl, by decide +kernel, by decide +kernel⟩
abbrev s_needshr : Stmt := topS 36
theorem sc_needshr : FnScope ["value", "share"] ["value"] (defScope s_needshr) := ⟨rfl, rfl, rfl, by decide +kernel, rfl, by decide +kernel, by decide +kernel⟩
abbrev s_einit : Stmt := inClass (topS 37) 0
theorem sc_einit : FnScope ["self", "span"] ["self", "span"] (defScope s_einit) := ⟨rfl, rfl, rfl, by decide +kernel, rfl, by decide +kernel, by decide +kernel⟩
abbrev s_echinit : Stmt := inClass (topS 40) 0
abbrev s_echplain : Stmt := inClass (topS 40) 3
theorem sc_echplain : FnScope ["self", "n"] ["self", "n"] (defScope s_echplain) := ⟨rfl, rfl, rfl, by decide +kernel, rfl, by decide +kernel, by decide +kernel⟩
abbrev s_elenat : Stmt := inClass (topS 37) 13
theorem sc_elenat : FnScope ["self", "n"] ["self", "n"] (defScope s_elenat) := ⟨rfl, rfl, rfl, by decide +kernel, rfl, by decide +kernel, by decide +kernel⟩
structure ETx (P : Program) (K : PySem.W.Frag) (mg : Str → Option Value) (Cs : List Addr) (CR CC CL fL CP fP CS fS CM fM CE CSt : Addr) (tM tF : Tok) : Prop extends CTx P K mg Cs CR CC CL fL CP fP CS fS CM fM where
  oE : Own K CE
  nO : NoAttr K CE "own_span"
  nD : NoAttr K CE "delay"
  nSh : NoAttr K CE "share"
  nTa : NoAttr K CE "tail"
  gMost : mg "MOST" = some (.int 60 tM)
  gFar : mg "FARTHEST" = some (.int (10 ^ 40) tF)
  gE : mg "Echo" = some (.ref CE)
  gStep : mg "Step" = some (.ref CSt)
  isStep : PySem.W.kitOne K (.ref CE) (.ref CSt) = some true
theorem ETx.clE {P : Program} {K : PySem.W.Frag} {mg : Str → Option Value} {Cs : List Addr} {CR CC CL fL CP fP CS fS CM fM CE CSt : Addr} {tM tF : Tok} (T : ETx P K mg Cs CR CC CL fL CP fP CS fS CM fM CE CSt tM tF) : Cls K CE := T.oE.cl
def efs (d : Int) (q : Addr) (t : Bool) : List (Str × V) := putF "tail" (.bl t) (putF "share" (.ref q) (putF "delay" (.int d) (putF "own_span" (.int d) [])))
theorem efs_tail (d : Int) (q : Addr) (t : Bool) : (efs d q t).lookup ("tail" : Str) = some (.bl t) := by
  unfold efs
  rw [lookup_putF, if_pos rfl]
theorem efs_share (d : Int) (q : Addr) (t : Bool) : (efs d q t).lookup ("share" : Str) = some (.ref q) := by
  unfold efs
  rw [lookup_putF, if_neg (by decide +kernel), lookup_putF, if_pos rfl]
theorem efs_delay (d : Int) (q : Addr) (t : Bool) : (efs d q t).lookup ("delay" : Str) = some (.int d) := by
  unfold efs
  rw [lookup_putF, if_neg (by decide +kernel), lookup_putF, if_neg (by decide +kernel), lookup_putF, if_pos rfl]
theorem efs_no (d : Int) (q : Addr) (t : Bool) {m : Str} (h1 : ¬ m = "tail") (h2 : ¬ m = "share") (h3 : ¬ m = "delay") (h4 : ¬ m = "own_span") : (efs d q t).lookup m = none := by
  unfold efs
  rw [lookup_putF, if_neg h1, lookup_putF, if_neg h2, lookup_putF, if_neg h3, lookup_putF, if_neg h4]
  rfl
/-- an echo: its delay, its share, with a tail or not -/
def EchoAt (CE CR : Addr) (H : Hp) (e : Addr) (d : Nat) (s : Int × Int) (t : Bool) : Prop := ∃ dx q, H e = some (.ins CE dx (efs d q t)) ∧ RatAt CR H q s.1 s.2
theorem EchoAt.same {CE CR : Addr} {H H' : Hp} {e : Addr} {d : Nat} {s : Int × Int} {t : Bool} (h : EchoAt CE CR H e d s t) (k : Same H H') : EchoAt CE CR H' e d s t := by
  obtain ⟨dx, q, h1, h2⟩ := h
  exact ⟨dx, q, k _ _ h1, h2.same k⟩
def spNeedcnt : Sp := fun vs H Q _ => ∃ d : Int, vs = [.int d, .int 1, .str "delay"] ∧ 1 ≤ d ∧ d ≤ 60 ∧ Q .non H
def spNeedshr (CR : Addr) : Sp := fun vs H Q _ => ∃ (v : V) (s : Int × Int), vs = [v] ∧ NumAt CR H v s.1 s.2 ∧ Lw s.1 s.2 ∧ s.1.natAbs < 10 ^ 30 ∧ s.2.natAbs < 10 ^ 30 ∧ ∀ (q : Addr) (H' : Hp), RatAt CR H' q s.1 s.2 → Same H H' → Q (.ref q) H'
def spEinit (CE : Addr) : Sp := fun vs H Q _ => ∃ (x dx : Addr) (fs : List (Str × V)) (v : V), vs = [.ref x, v] ∧ H x = some (.ins CE dx fs) ∧ fs.length < 900 ∧ Q .non (upd H x (.ins CE dx (putF "own_span" v fs)))
def spEchinit (CE CR : Addr) : Sp := fun vs H Q _ => ∃ (x dx : Addr) (d : Int) (v : V) (s : Int × Int) (t : Bool), vs = [.ref x, .int d, v, .bl t] ∧ H x = some (.ins CE dx []) ∧ 1 ≤ d ∧ d ≤ 60 ∧ NumAt CR H v s.1 s.2 ∧ (∀ q, v = .ref q → q ≠ x) ∧ Lw s.1 s.2 ∧ s.1.natAbs < 10 ^ 30 ∧ s.2.natAbs < 10 ^ 30 ∧
  ∀ (q : Addr) (H' : Hp), H' x = some (.ins CE dx (efs d q t)) → RatAt CR H' q s.1 s.2 → (∀ c o, H c = some o → c ≠ x → H' c = some o) → Q .non H'
def spPlain (CE CR : Addr) : Sp := fun vs H Q _ => ∃ (e : Addr) (d : Nat) (s : Int × Int) (t : Bool) (n : Nat), vs = [.ref e, .int n] ∧ EchoAt CE CR H e d s t ∧ Q (.int (n + if t then d else 0 : Nat)) H
def spLenat (CE CR : Addr) : Sp := fun vs H Q _ => ∃ (e : Addr) (d : Nat) (s : Int × Int) (t : Bool) (n : Nat), vs = [.ref e, .int n] ∧ n ≤ 1000 ∧ EchoAt CE CR H e d s t ∧ Q (.int (n + if t then d else 0 : Nat)) H
section
variable {P : Program} {w : World} {K : PySem.W.Frag} {mg : Str → Option Value} {base : Heap} {Cs : List Addr} {CR CC CL fL CP fP CS fS CM fM CE CSt : Addr} {tM tF : Tok}
theorem ok_needcnt {f : Addr} {fd : FuncData} (F : Fun K "need_count" "need_count" s_needcnt f fd) (T : ETx P K mg Cs CR CC CL fL CP fP CS fS CM fM CE CSt tM tF) (D_isbtw : DefAt P w K mg base CX0 2 "is_between" ["value", "least", "most"] (spIsbtw Cs)) : FnOk P w K mg base CX0 3 f fd ["value", "least", "part"] spNeedcnt := by
  refine F.ok sc_needcnt (fun vs H Q E h => ?_) (fun cdv A outer s H vs Q E hr h => ?_)
  · obtain ⟨d, rfl, _⟩ := h
    rfl
  · obtain ⟨d, rfl, d1, d2, k⟩ := h
    refine ⟨_, (pss_one (ps_if (pt_not (pt_val (My.pe_d D_isbtw (hr.mono (by decide)) (by rfl) pass0 (pa_cons (pv 0) (pa_cons (pv 1) (pa_cons (pe_glob (v := .int 60) rfl T.gMost ⟨_, rfl⟩) pa_nil)))))) (pss_one ps_never) pss_nil)), ?_⟩
    refine ⟨_, rfl, _, rfl, .int d, 1, 60, rfl, .inl ⟨_, .int d⟩, _, rfl, ?_⟩
    rw [btw_of d1 d2]
    exact iteF k
theorem ok_needshr {f : Addr} {fd : FuncData} (F : Fun K "need_share" "need_share" s_needshr f fd) (T : ETx P K mg Cs CR CC CL fL CP fP CS fS CM fM CE CSt tM tF) (S_is_number : StatAt P w K mg base CX0 2 CR "is_number" ["thing"] (spIsnum Cs CR)) (S_of : StatAt P w K mg base CX0 5 CR "of" ["number"] (spOf CR)) : FnOk P w K mg base CX0 6 f fd ["value"] (spNeedshr CR) := by
  refine F.ok sc_needshr (fun vs H Q E h => ?_) (fun cdv A outer s H vs Q E hr h => ?_)
  · obtain ⟨v, s, rfl, _⟩ := h
    rfl
  · obtain ⟨v, s, rfl, hv, lw, b1, b2, k⟩ := h
    refine ⟨_, (pss_cons (ps_if (pt_not (pt_val (My.pe_st S_is_number (hr.mono (by decide)) pass0 (pe_glob (v := .ref CR) (by rfl) T.gR rfl) (pa_cons (pv 0) pa_nil)))) (pss_one ps_never) pss_nil)
      (pss_cons (ps_set (i := 1) sc_needshr.nd rfl (Or.inl rfl) (My.pe_st S_of (hr.mono (by decide)) pass0 (pe_glob (v := .ref CR) (by rfl) T.gR rfl) (pa_cons (pv 0) pa_nil)))
      (pss_cons (ps_if (PW.pt (pw_or (pt_cmpR op_ge (pe_callB call_abs (by rfl) T.z_abs boot_abs (pa_cons (pe_fld (pv 1) rfl) pa_nil)) (pe_op op_pow pe_int pe_int) (nomark _)) (pw_or1 (pt_cmpR op_ge (pe_fld (pv 1) rfl) (pe_op op_pow pe_int pe_int) (nomark _))))) (pss_one ps_never) pss_nil)
      (pss_one (ps_ret (pv 1)))))), ?_⟩
    refine ⟨rfl, _, rfl, v, true, rfl, .num hv, _, rfl, iteF ?_⟩
    refine ⟨rfl, _, rfl, v, s.1, s.2, rfl, hv, (by have := lw.1; omega), Nat.lt_of_lt_of_le (PySem.Flt.log2_lt_of (k := 100) (by decide) (Nat.lt_trans b2 (by decide))) (by decide), fun q H' l s' => ?_⟩
    rw [lw.low.1, lw.low.2] at l
    obtain ⟨dx, e1⟩ := id l
    refine ⟨_, rfl, q, CR, dx, _, _, rfl, e1, T.cl, T.nT, rfs_top _ _, ?_⟩
    have e30 : (10 : Int) ^ Int.toNat 30 = 10 ^ 30 := rfl
    refine ⟨_, rfl, _, _, rfl, rfl, ⟨by decide, by decide, by decide⟩, _, _, rfl, rfl, _, rfl, ?_⟩
    have d1 : decide ((10 : Int) ^ Int.toNat 30 ≤ if s.1 < 0 then -s.1 else s.1) = false := decide_eq_false (by rw [e30]; split <;> omega)
    rw [d1]
    refine iteF ⟨_, rfl, q, CR, dx, _, _, rfl, e1, T.cl, T.nB, rfs_bot _ _, _, _, rfl, rfl, ⟨by decide, by decide, by decide⟩, _, _, rfl, rfl, _, rfl, ?_⟩
    have d2 : decide ((10 : Int) ^ Int.toNat 30 ≤ s.2) = false := decide_eq_false (by rw [e30]; omega)
    rw [d2]
    exact iteF ⟨_, rfl, k q H' l s'⟩
theorem ok_einit {f : Addr} {fd : FuncData} (F : FunD K "__init__" "Edit.__init__" (defArgs s_einit) (defBody s_einit) (defScope s_einit) [.int 0] [] f fd) (T : ETx P K mg Cs CR CC CL fL CP fP CS fS CM fM CE CSt tM tF) : FnOk P w K mg base CX0 1 f fd ["self", "span"] (spEinit CE) := by
  refine F.ok sc_einit (fun vs H Q E h => ?_) (fun cdv A outer s H vs Q E hr h => ?_)
  · obtain ⟨x, dx, fs, v, rfl, _⟩ := h
    rfl
  · obtain ⟨x, dx, fs, v, rfl, e, l, k⟩ := h
    refine ⟨_, (pss_one (ps_fld (pv 0) (pv 1) rfl)), ?_⟩
    exact ⟨_, rfl, _, rfl, x, CE, dx, fs, rfl, e, T.clE, T.nO, by omega, k⟩
theorem ok_echplain {f : Addr} {fd : FuncData} (F : Fun K "plain_length" "Echo.plain_length" s_echplain f fd) (T : ETx P K mg Cs CR CC CL fL CP fP CS fS CM fM CE CSt tM tF) : FnOk P w K mg base CX0 1 f fd ["self", "n"] (spPlain CE CR) := by
  refine F.ok sc_echplain (fun vs H Q E h => ?_) (fun cdv A outer s H vs Q E hr h => ?_)
  · obtain ⟨e, d, s, t, n, rfl, _⟩ := h
    rfl
  · obtain ⟨e, d, s, t, n, rfl, ⟨dx, q, e1, e2⟩, k⟩ := h
    refine ⟨_, (pss_one (ps_ret (pe_ifExp (pt_val (pe_fld (pv 0) rfl)) (pe_op op_add (pv 1) (pe_fld (pv 0) rfl)) (pv 1)))), ?_⟩
    refine ⟨_, rfl, e, CE, dx, _, _, rfl, e1, T.clE, T.nTa, efs_tail _ _ _, _, rfl, ?_⟩
    cases t with
    | true => exact iteT ⟨_, rfl, _, rfl, e, CE, dx, _, _, rfl, e1, T.clE, T.nD, efs_delay _ _ _, _, _, rfl, rfl, k⟩
    | false => exact iteF ⟨_, rfl, k⟩
theorem ok_elenat {f : Addr} {fd : FuncData} (F : Fun K "length_at" "Edit.length_at" s_elenat f fd) (T : ETx P K mg Cs CR CC CL fL CP fP CS fS CM fM CE CSt tM tF) (D_isbtw : DefAt P w K mg base CX0 2 "is_between" ["value", "least", "most"] (spIsbtw Cs)) (X_plain_length : MethAt P w K mg base CX0 1 CE "plain_length" ["self", "n"] (spPlain CE CR)) : FnOk P w K mg base CX0 3 f fd ["self", "n"] (spLenat CE CR) := by
  refine F.ok sc_elenat (fun vs H Q E h => ?_) (fun cdv A outer s H vs Q E hr h => ?_)
  · obtain ⟨e, d, s, t, n, rfl, _⟩ := h
    rfl
  · obtain ⟨e, d, s, t, n, rfl, hn, he, k⟩ := h
    refine ⟨_, (pss_cons (ps_if (pt_not (pt_val (My.pe_d D_isbtw (hr.mono (by decide)) (by rfl) pass0 (pa_cons (pv 1) (pa_cons pe_int (pa_cons (pe_glob (v := .int (10 ^ 40)) rfl T.gFar ⟨_, rfl⟩) pa_nil)))))) (pss_one ps_never) pss_nil)
      (pss_one (ps_ret (My.pe_mt T.clE X_plain_length (hr.mono (by decide)) pass0 (pv 0) (pa_cons (pv 1) pa_nil))))), ?_⟩
    obtain ⟨dx, q, e1, e2⟩ := id he
    refine ⟨_, rfl, .int n, 0, 10 ^ 40, rfl, .inl ⟨_, .int _⟩, _, rfl, ?_⟩
    rw [btw_of (by omega) (by omega)]
    exact iteF ⟨_, rfl, e, dx, _, rfl, e1, efs_no _ _ _ (by decide +kernel) (by decide +kernel) (by decide +kernel) (by decide +kernel), _, rfl, e, d, s, t, n, rfl, he, k⟩
theorem ns_echinit : NdefX.NScope ["self", "delay", "share", "tail", "__class__"] ["self", "delay", "share", "tail"] ["__class__"] (defScope s_echinit) := NdefX.nscope_by (by decide +kernel)
theorem ok_echinit {f f2 cda cc : Addr} {dV kV doc pm ct oc : Value} {an od : Option Addr} {osl : Array (Option Value)} (lk : K.lookup f = some ⟨oc, od, .func (PySem.W.ksFn "__init__" "Echo.__init__" (defArgs s_echinit) (defBody s_echinit) (defScope s_echinit) dV kV doc pm an (.ref cda) ct cc), osl⟩)
    (hcd : PySem.W.codeIn K (.ref cda) "Echo.__init__" = true) (S : SupM.SaysS P K CE f cda cc (PySem.W.ksFn "__init__" "Echo.__init__" (defArgs s_echinit) (defBody s_echinit) (defScope s_echinit) dV kV doc pm an (.ref cda) ct cc)) (U : SupM.SupOf P K mg CE f2 "__init__") (F2 : FnR P w K mg base CX0 1 f2 (spEinit CE))
    (T : ETx P K mg Cs CR CC CL fL CP fP CS fS CM fM CE CSt tM tF) (D_needcnt : DefAt P w K mg base CX0 3 "need_count" ["value", "least", "part"] spNeedcnt) (D_needshr : DefAt P w K mg base CX0 6 "need_share" ["value"] (spNeedshr CR)) :
    FnOk P w K mg base CX0 8 f (PySem.W.ksFn "__init__" "Echo.__init__" (defArgs s_echinit) (defBody s_echinit) (defScope s_echinit) dV kV doc pm an (.ref cda) ct cc) ["self", "delay", "share", "tail"] (spEchinit CE CR) := by
  refine SupM.fn_sup lk hcd S ns_echinit (fun vs H Q E h => ?_) (fun A outer s H vs Q E hr h => ?_)
  · obtain ⟨x, dx, d, v, s, t, rfl, _⟩ := h
    rfl
  · obtain ⟨x, dx, d, v, s, t, rfl, hx, d1, d2, hv, nv, lw, b1, b2, k⟩ := h
    refine ⟨_, SupM.psat_cons (ps_expr (My.pe_d D_needcnt (hr.mono (by decide)) (by rfl) pass0 (pa_cons (pv 1) (pa_cons pe_int (pa_cons pe_str pa_nil))))) (SupM.psat_sup (d := "delay") (j := 1) U ⟨S, rfl, rfl, rfl, (by show (defScope s_echinit).names.lookup _ = _; decide +kernel), (by show (defScope s_echinit).names.lookup _ = _; decide +kernel), (by show (defScope s_echinit).names.lookup _ = _; decide +kernel), ⟨_, rfl, rfl⟩, rfl⟩ F2 (hr.mono (by decide)) pass0 (by decide +kernel) rfl (pv 1) (SupM.psat_of
      (pss_cons (ps_fld (pv 0) (pv 1) rfl)
      (pss_cons (ps_fld (pv 0) (My.pe_d D_needshr (hr.mono (by decide)) (by rfl) pass0 (pa_cons (pv 2) pa_nil)) rfl)
      (pss_cons (ps_if (pt_not (pt_val (pe_callB call_isi (by rfl) T.z_isinstance boot_isinstance (pa_cons (pv 3) (pa_cons (pe_bltn (v := .ty "bool") (by rfl) T.z_bool boot_bool rfl) pa_nil))))) (pss_one ps_never) pss_nil)
      (pss_one (ps_fld (pv 0) (pv 3) rfl))))))), ?_⟩
    refine ⟨_, rfl, d, rfl, d1, d2, ?_⟩
    refine ⟨x, .int d, dx, [], rfl, rfl, hx, x, dx, [], .int d, rfl, hx, (by show 0 < 900; decide), ?_⟩
    have n1 : NumAt CR (upd H x (.ins CE dx (putF "own_span" (.int d) []))) v s.1 s.2 := by
      rcases hv with ⟨p, rfl, dp, e⟩ | hv
      · exact .inl ⟨p, rfl, dp, by rw [upd_ne (nv p rfl)]; exact e⟩
      · exact .inr hv
    have o1 : ∀ c o, H c = some o → c ≠ x → upd H x (.ins CE dx (putF "own_span" (.int d) [])) c = some o := fun c o e ne => by rw [upd_ne ne]; exact e
    have x1 : upd H x (.ins CE dx (putF "own_span" (.int d) [])) x = some (.ins CE dx (putF "own_span" (.int d) [])) := upd_same
    generalize upd H x (.ins CE dx (putF "own_span" (.int d) [])) = H1 at n1 o1 x1 ⊢
    refine ⟨_, rfl, _, rfl, x, CE, dx, _, rfl, x1, T.clE, T.nD, (by show 1 < 1000; decide), ?_⟩
    have n2 : NumAt CR (upd H1 x (.ins CE dx (putF "delay" (.int d) (putF "own_span" (.int d) [])))) v s.1 s.2 := by
      rcases n1 with ⟨p, rfl, dp, e⟩ | hv
      · exact .inl ⟨p, rfl, dp, by rw [upd_ne (nv p rfl)]; exact e⟩
      · exact .inr hv
    have o2 : ∀ c o, H c = some o → c ≠ x → upd H1 x (.ins CE dx (putF "delay" (.int d) (putF "own_span" (.int d) []))) c = some o := fun c o e ne => by rw [upd_ne ne]; exact o1 c o e ne
    have x2 : upd H1 x (.ins CE dx (putF "delay" (.int d) (putF "own_span" (.int d) []))) x = some (.ins CE dx (putF "delay" (.int d) (putF "own_span" (.int d) []))) := upd_same
    generalize upd H1 x (.ins CE dx (putF "delay" (.int d) (putF "own_span" (.int d) []))) = H2 at n2 o2 x2 ⊢
    refine ⟨_, rfl, v, s, rfl, n2, lw, b1, b2, fun q H3 l3 s3 => ?_⟩
    have x3 := s3 _ _ x2
    refine ⟨_, rfl, x, CE, dx, _, rfl, x3, T.clE, T.nSh, (by show 2 < 1000; decide), ?_⟩
    have qx : q ≠ x := fun z => by
      obtain ⟨dq, eq⟩ := l3
      rw [z, x3] at eq
      injection eq with eq
      injection eq with e1 e2 e3
      have e4 := congrArg (List.lookup ("top" : Str)) e3
      rw [rfs_top, lookup_putF, if_neg (by decide +kernel), lookup_putF, if_neg (by decide +kernel)] at e4
      cases e4
    refine ⟨_, rfl, .bl t, .ty "bool", _, _, true, rfl, .ty _, .base (.bl t), kit_ty (by decide +kernel), _, rfl, iteF ?_⟩
    refine ⟨_, rfl, _, rfl, x, CE, dx, _, rfl, upd_same, T.clE, T.nTa, (by show 3 < 1000; decide), ?_⟩
    refine k q _ upd_same ?_ fun c o e ne => ?_
    · obtain ⟨dq, eq⟩ := l3
      exact ⟨dq, by rw [upd_ne qx, upd_ne qx]; exact eq⟩
    · rw [upd_ne ne, upd_ne ne]
      exact s3 _ _ (o2 c o e ne)
end
end My
set_option pp.maxSteps 1500
set_option pp.deepTerms.threshold 8
/-! ### what an echo makes -/
namespace My
open PySem PySem.Spec PyProof.Rows L2 GenW
abbrev s_echmade : Stmt := inClass (topS 40) 2
theorem sc_echmade : FnScope ["self", "row", "longer", "found", "at"] ["self", "row"] (defScope s_echmade) := ⟨rfl, rfl, rfl, by decide +kernel, rfl, by decide +kernel, by decide +kernel⟩
abbrev s_ecall : Stmt := inClass (topS 37) 14
theorem sc_ecall : FnScope ["self", "clip", "sample"] ["self", "clip"] (defScope s_ecall) := ⟨rfl, rfl, rfl, by decide +kernel, rfl, by decide +kernel, by decide +kernel⟩
/-- the i-th sample behind an echo -/
def fE (d : Nat) (s : Int × Int) (rs : List (Int × Int)) (i : Nat) : Int × Int := if i < d then rs.getD i (0, 1) else rAdd (rs.getD i (0, 1)) (rMul s (rs.getD (i - d) (0, 1)))
def lenE (d : Nat) (t : Bool) (n : Nat) : Nat := n + if t then d else 0
def echoL (d : Nat) (s : Int × Int) (t : Bool) (rs : List (Int × Int)) : List (Int × Int) := (List.range (lenE d t rs.length)).map (fE d s rs)
theorem echoL_len (d : Nat) (s : Int × Int) (t : Bool) (rs : List (Int × Int)) : (echoL d s t rs).length = lenE d t rs.length := by
  unfold echoL
  rw [List.length_map, List.length_range]
theorem echoL_at {d : Nat} {s : Int × Int} {t : Bool} {rs : List (Int × Int)} {i : Nat} (h : i < lenE d t rs.length) : (echoL d s t rs)[i]? = some (fE d s rs i) := by
  unfold echoL
  rw [List.getElem?_map, List.getElem?_range h]
  rfl
theorem getD_bd {k : Nat} (hk : 0 < k) {rs : List (Int × Int)} (h : ∀ r ∈ rs, Bd k r) (i : Nat) : Bd k (rs.getD i (0, 1)) := by
  rw [List.getD_eq_getElem?_getD]
  cases e : rs[i]? with
  | none => exact Bd.zero hk
  | some r => exact h r (List.mem_of_getElem? e)
theorem fE_bd {k : Nat} (hk : 0 < k) {d : Nat} {s : Int × Int} {rs : List (Int × Int)} (hs : Bd 100 s) (h : ∀ r ∈ rs, Bd k r) (i : Nat) : Bd (2 * k + 101) (fE d s rs i) := by
  unfold fE
  split
  · exact (getD_bd hk h i).le (by omega)
  · exact ((getD_bd hk h i).add (hs.mul (getD_bd hk h (i - d)))).le (by omega)
theorem echoL_bd {k : Nat} (hk : 0 < k) {d : Nat} {s : Int × Int} {t : Bool} {rs : List (Int × Int)} (hs : Bd 100 s) (h : ∀ r ∈ rs, Bd k r) : ∀ r ∈ echoL d s t rs, Bd (2 * k + 101) r := fun r hr => by
  obtain ⟨i, _, rfl⟩ := List.mem_map.mp hr
  exact fE_bd hk hs h i
/-- the row, made longer -/
def longL (d : Nat) (t : Bool) (rs : List (Int × Int)) : List (Int × Int) := rs ++ List.replicate (if t then d else 0) (0, 1)
theorem longL_len (d : Nat) (t : Bool) (rs : List (Int × Int)) : (longL d t rs).length = lenE d t rs.length := by
  unfold longL lenE
  rw [List.length_append, List.length_replicate]
theorem longL_at {d : Nat} {t : Bool} {rs : List (Int × Int)} {i : Nat} (h : i < lenE d t rs.length) : (longL d t rs)[i]? = some (rs.getD i (0, 1)) := by
  have hl := longL_len d t rs
  rw [List.getElem?_eq_getElem (by omega), List.getD_eq_getElem?_getD]
  congr 1
  unfold longL
  by_cases hi : i < rs.length
  · rw [List.getElem_append_left hi, List.getElem?_eq_getElem hi]
    rfl
  · rw [List.getElem_append_right (by omega), List.getElem_replicate, List.getElem?_eq_none (by omega)]
    rfl
theorem Rats.app {C : Addr} {H : Hp} {vs us : List V} {rs ss : List (Int × Int)} (h : Rats C H vs rs) (k : Rats C H us ss) : Rats C H (vs ++ us) (rs ++ ss) := by
  refine ⟨by rw [List.length_append, List.length_append, h.1, k.1], fun i r e => ?_⟩
  by_cases hi : i < rs.length
  · rw [List.getElem?_append_left hi] at e
    obtain ⟨q, e1, e2⟩ := h.2 i r e
    exact ⟨q, by rw [List.getElem?_append_left (by rw [h.1]; exact hi)]; exact e1, e2⟩
  · rw [List.getElem?_append_right (by omega)] at e
    obtain ⟨q, e1, e2⟩ := k.2 _ r e
    exact ⟨q, by rw [List.getElem?_append_right (by rw [h.1]; omega), h.1]; exact e1, e2⟩
theorem Rats.rep {C : Addr} {H : Hp} {x : Addr} {n : Nat} (h : RatAt C H x 0 1) : Rats C H (List.replicate n (.ref x)) (List.replicate n (0, 1)) := by
  refine ⟨by rw [List.length_replicate, List.length_replicate], fun i r e => ?_⟩
  rw [List.getElem?_replicate] at e
  split at e
  · rename_i hi
    cases e
    exact ⟨x, by rw [List.getElem?_replicate, if_pos hi], h⟩
  · cases e
theorem Rats.take {C : Addr} {H : Hp} {vs : List V} {rs : List (Int × Int)} (h : Rats C H vs rs) (n : Nat) : Rats C H (vs.take n) (rs.take n) := by
  refine ⟨by rw [List.length_take, List.length_take, h.1], fun i r e => ?_⟩
  rw [List.getElem?_take] at e
  split at e
  · rename_i hi
    obtain ⟨q, e1, e2⟩ := h.2 i r e
    exact ⟨q, by rw [List.getElem?_take, if_pos hi]; exact e1, e2⟩
  · cases e
/-- a list of ratios -/
def RatL (C : Addr) (H : Hp) (l : Addr) (rs : List (Int × Int)) : Prop := ∃ vs, H l = some (.lst vs) ∧ Rats C H vs rs
theorem RatL.same {C : Addr} {H H' : Hp} {l : Addr} {rs : List (Int × Int)} (h : RatL C H l rs) (s : Same H H') : RatL C H' l rs := by
  obtain ⟨vs, e, r⟩ := h
  exact ⟨vs, s _ _ e, r.same s⟩
theorem echo_take (d : Nat) (s : Int × Int) (t : Bool) (rs : List (Int × Int)) : (echoL d s t rs).take d = (longL d t rs).take d := by
  refine List.ext_getElem? fun i => ?_
  rw [List.getElem?_take, List.getElem?_take]
  split
  · rename_i hi
    by_cases h : i < lenE d t rs.length
    · rw [echoL_at h, longL_at h]
      unfold fE
      rw [if_pos hi]
    · rw [List.getElem?_eq_none (by rw [echoL_len]; omega), List.getElem?_eq_none (by rw [longL_len]; omega)]
  · rfl
theorem ite_tC {c : Bool} {x y : V} {σ : L2.St} {H : Hp} {A : VK} {B : Prop} (h : A (if c = true then x else y) H) (hb : A x H → B) : if c = true then B else tC y σ H A := by
  cases c with
  | true => exact hb h
  | false => exact h
def spEchmade (CE CR : Addr) : Sp := fun vs H Q _ => ∃ (e l : Addr) (d k : Nat) (s : Int × Int) (t : Bool) (rs : List (Int × Int)), vs = [.ref e, .ref l] ∧ EchoAt CE CR H e d s t ∧ d ≤ 60 ∧ Bd 100 s ∧ RatL CR H l rs ∧ rs.length ≤ 500 ∧ 0 < k ∧ k ≤ 800 ∧ (∀ r ∈ rs, Bd k r) ∧
  ∀ (m : Addr) (H' : Hp), RatL CR H' m (echoL d s t rs) → Same H H' → Q (.ref m) H'
def spEcall (CE CC CR : Addr) : Sp := fun vs H Q _ => ∃ (e c : Addr) (d k : Nat) (s : Int × Int) (t : Bool) (rs : List (Int × Int)), vs = [.ref e, .ref c] ∧ EchoAt CE CR H e d s t ∧ d ≤ 60 ∧ Bd 100 s ∧ ClipAt CC CR H c rs ∧ rs.length ≤ 500 ∧ 0 < k ∧ k ≤ 800 ∧ (∀ r ∈ rs, Bd k r) ∧
  ∀ (m : Addr) (H' : Hp), ClipAt CC CR H' m (echoL d s t rs) → H m = none → Same H H' → Q (.ref m) H'
section
variable {P : Program} {w : World} {K : PySem.W.Frag} {mg : Str → Option Value} {base : Heap} {Cs : List Addr} {CR CC CL fL CP fP CS fS CM fM CE CSt : Addr} {tM tF : Tok}
theorem ok_echmade {f : Addr} {fd : FuncData} (F : Fun K "made" "Echo.made" s_echmade f fd) (T : ETx P K mg Cs CR CC CL fL CP fP CS fS CM fM CE CSt tM tF) (M_Ratio1 : MakeAt P w K mg base (L2.CX P w) 3 "Ratio" CR ["self", "top", "bottom"] (spRinit CR) [.int 1])
    (CE_radd : CmpAt P w K mg base CX0 5 CR "__add__" ["self", "other"] (spBinE CR rAdd)) (B_radd : BinF K CR (Operator.info .Add).2) (CE_rmul : CmpAt P w K mg base CX0 5 CR "__mul__" ["self", "other"] (spBinE CR rMul)) (B_rmul : BinF K CR (Operator.info .Mult).2) :
    FnOk P w K mg base CX0 7 f fd ["self", "row"] (spEchmade CE CR) := by
  refine F.ok sc_echmade (fun vs H Q E h => ?_) (fun cdv A outer s H vs Q E hr h => ?_)
  · obtain ⟨e, l, d, k, s, t, rs, rfl, _⟩ := h
    rfl
  · obtain ⟨e, l, d, k, s, t, rs, rfl, ⟨dx, q, e1, e2⟩, d60, bs, ⟨zs, el, r⟩, ln, k0, k8, bd, kk⟩ := h
    refine ⟨_, (pss_cons (ps_set (i := 2) sc_echmade.nd rfl (Or.inl rfl) (pe_op op_cat (pv 1) (pe_op op_rep (pe_lst (pa_cons (My.pe_mk M_Ratio1 (hr.mono (by decide)) (by rfl) passL (pa_cons pe_int pa_nil)) pa_nil)) (pe_ifExp (pt_val (pe_fld (pv 0) rfl)) (pe_fld (pv 0) rfl) pe_int))))
      (pss_cons (ps_set (i := 3) sc_echmade.nd rfl (Or.inl rfl) (pe_slice sl_list (pv 2) po_none (po_some (pe_fld (pv 0) rfl))))
      (pss_cons (ps_for PassesOwn.never rfl (pi_range2 rfl T.z_range (pa_cons (pe_fld (pv 0) rfl) (pa_cons (pe_callB call_len (by rfl) T.z_len PySem.boot_len (pa_cons (pv 2) pa_nil)) pa_nil))) (pg_name (i := 4) sc_echmade.nd rfl (Or.inl rfl)) (pss_one (ps_expr (pe_bm PySem.F.plainAttrs_list PySem.F.slot_list_append PySem.F.type_list_append mt_append (pv 3) (pa_cons (pe_op (My.op_binO CE_radd B_radd (hr.mono (by decide)) pass0) (pe_ix ix_list (pv 2) (pv 4) (fun _ _ => rfl)) (pe_op (My.op_binO CE_rmul B_rmul (hr.mono (by decide)) pass0) (pe_fld (pv 0) rfl) (pe_ix ix_list (pv 2) (pe_op op_sub (pv 4) (pe_fld (pv 0) rfl)) (fun _ _ => rfl)))) pa_nil)))))
      (pss_one (ps_ret (pv 3)))))), ?_⟩
    refine ⟨_, rfl, fun x dx' hx hd ne => rinit_at (by decide) (by decide) hx hd ne fun H1 l1 s1 => ⟨(by show 1 ≤ sizeLine; decide), fun l2 h2 => ?_⟩⟩
    have s2 := s1.trans (same_new (o := .lst [.ref x]) h2)
    have x2 := l1.same (same_new (o := .lst [.ref x]) h2)
    have w2 : (upd H1 l2 (.lst [.ref x])) l2 = some (.lst [.ref x]) := upd_same
    generalize upd H1 l2 (.lst [.ref x]) = H2 at s2 x2 w2 ⊢
    refine ⟨_, rfl, e, CE, dx, _, _, rfl, s2 _ _ e1, T.clE, T.nTa, efs_tail _ _ _, _, rfl, ?_⟩
    refine ite_tC ?_ fun z => ⟨_, rfl, e, CE, dx, _, _, rfl, s2 _ _ e1, T.clE, T.nD, efs_delay _ _ _, z⟩
    obtain ⟨N, hN⟩ : ∃ N : Nat, N = (if t then d else 0) := ⟨_, rfl⟩
    have eN : (if t = true then V.int (d : Int) else V.int 0) = V.int (N : Nat) := by
      rw [hN]
      cases t <;> rfl
    have N60 : N ≤ 60 := by
      rw [hN]
      split <;> omega
    rw [eN]
    refine ⟨l2, N, _, rfl, rfl, w2, by omega, by omega, (by show 1 * _ ≤ sizeLine; rw [sizeLine_eq]; omega), fun l3 h3 => ?_⟩
    have s3 := s2.trans (same_new (o := .lst (List.replicate (Int.toNat (N : Nat)) [V.ref x]).flatten) h3)
    have eF : (List.replicate (Int.toNat (N : Nat)) [V.ref x]).flatten = List.replicate N (V.ref x) := by
      rw [Int.toNat_natCast]
      exact List.flatten_replicate_singleton
    refine ⟨l, l3, _, _, rfl, rfl, s3 _ _ el, upd_same, (by rw [eF, List.length_replicate, r.1, sizeLine_eq]; omega), fun l4 h4 => ?_⟩
    have z0 : RatAt CR H2 x 0 1 := x2
    have s4 := s3.trans (same_new (o := .lst (zs ++ (List.replicate (Int.toNat (N : Nat)) [V.ref x]).flatten)) h4)
    have r4 : Rats CR (upd (upd H2 l3 (.lst (List.replicate (Int.toNat (N : Nat)) [V.ref x]).flatten)) l4 (.lst (zs ++ (List.replicate (Int.toNat (N : Nat)) [V.ref x]).flatten))) (zs ++ List.replicate N (V.ref x)) (longL d t rs) := by
      have r5 := (r.same s4).app ((Rats.rep (n := N) z0).same ((same_new (o := .lst (List.replicate (Int.toNat (N : Nat)) [V.ref x]).flatten) h3).trans (same_new (o := .lst (zs ++ (List.replicate (Int.toNat (N : Nat)) [V.ref x]).flatten)) h4)))
      rw [hN] at r5 ⊢
      exact r5
    have w4 : (upd (upd H2 l3 (.lst (List.replicate (Int.toNat (N : Nat)) [V.ref x]).flatten)) l4 (.lst (zs ++ (List.replicate (Int.toNat (N : Nat)) [V.ref x]).flatten))) l4 = some (.lst (zs ++ List.replicate N (V.ref x))) := by rw [upd_same, eF]
    generalize upd (upd H2 l3 (.lst (List.replicate (Int.toNat (N : Nat)) [V.ref x]).flatten)) l4 (.lst (zs ++ (List.replicate (Int.toNat (N : Nat)) [V.ref x]).flatten)) = H4 at s4 r4 w4 ⊢
    generalize hZ : zs ++ List.replicate N (V.ref x) = Z at r4 w4
    refine ⟨_, rfl, _, rfl, e, CE, dx, _, _, rfl, s4 _ _ e1, T.clE, T.nD, efs_delay _ _ _, d, rfl, l4, Z, rfl, SqL.of w4, fun l5 h5 => ?_⟩
    rw [cut_to]
    have s5 := s4.trans (same_new (o := .lst (Z.take d)) h5)
    have r45 := r4.same (same_new (o := .lst (Z.take d)) h5)
    have w45 := same_new (o := .lst (Z.take d)) h5 _ _ w4
    have w5 : (upd H4 l5 (.lst (Z.take d))) l5 = some (.lst (Z.take d)) := upd_same
    have n45 : l4 ≠ l5 := ne_of_none w4 h5
    have h5H : H l5 = none := by
      cases z : H l5 with
      | none => rfl
      | some o => rw [s4 _ _ z] at h5; cases h5
    generalize upd H4 l5 (.lst (Z.take d)) = H5 at s5 r45 w45 w5 ⊢
    have lZ : Z.length = lenE d t rs.length := by rw [r4.1, longL_len]
    refine ⟨_, rfl, e, CE, dx, _, _, rfl, s5 _ _ e1, T.clE, T.nD, efs_delay _ _ _, _, rfl, _, _, rfl, .inl ⟨_, SqL.of w45, rfl⟩, ?_⟩
    refine ⟨_, _, rfl, ?_⟩
    have le : lenE d t rs.length ≤ 600 := by
      unfold lenE
      rw [← hN]
      omega
    refine ⟨⟨by omega, by omega, by omega, by omega⟩, for_range (lo := (d : Int)) (n := ((Z.length : Int) - d).toNat) (fun i σ H' => ∃ v ws, σ = [some (.ref e), some (.ref l), some (.ref l4), some (.ref l5), v] ∧ H' l5 = some (.lst ws) ∧ Rats CR H' ws ((echoL d s t rs).take (d + i)) ∧ Rats CR H' Z (longL d t rs) ∧ RatAt CR H' q s.1 s.2 ∧ H' e = some (.ins CE dx (efs d q t)) ∧ H' l4 = some (.lst Z) ∧ Same H H')
      ⟨none, _, rfl, w5, ?_, r45, e2.same s5, s5 _ _ e1, w45, s5⟩ ?_ ?_⟩
    · rw [Nat.add_zero, echo_take]
      exact r45.take d
    · rintro i σ H' hi ⟨v, ws, rfl, g1, g2, g3, g4, g5, g6, g7⟩
      have hj : d + i < lenE d t rs.length := by omega
      obtain ⟨qa, a1, a2⟩ := g3.2 (d + i) _ (longL_at hj)
      obtain ⟨qb, b1, b2⟩ := g3.2 i _ (longL_at (by omega))
      refine ⟨_, rfl, .inl ⟨rfl, _, SqL.of g1⟩, ?_⟩
      obtain ⟨da, ea⟩ := id a2
      obtain ⟨db, eb⟩ := id b2
      obtain ⟨dq, eq⟩ := id g4
      have bi := getD_bd k0 bd (d + i)
      have bj := getD_bd k0 bd i
      refine ⟨_, rfl, _, rfl, l4, Z, _, .ref qa, rfl, rfl, SqL.of g6, at_of (j := d + i) (by omega) a1, ?_⟩
      refine ⟨_, rfl, e, CE, dx, _, _, rfl, g5, T.clE, T.nSh, efs_share _ _ _, ?_⟩
      refine ⟨_, rfl, _, rfl, _, rfl, e, CE, dx, _, _, rfl, g5, T.clE, T.nD, efs_delay _ _ _, _, _, rfl, rfl, l4, Z, _, .ref qb, rfl, rfl, SqL.of g6, at_of (j := i) (by omega) b1, ?_⟩
      refine ⟨q, dq, _, rfl, eq, .inl ⟨qb, _, _, rfl, eb⟩, q, s, _, .ref qb, rfl, g4, .inl ⟨qb, rfl, b2⟩, bs.le (by decide), bj.le (by omega), fun m H6 lm s6 => ?_⟩
      obtain ⟨dm, em⟩ := id lm
      refine ⟨qa, da, _, rfl, s6 _ _ ea, .inl ⟨m, _, _, rfl, em⟩, qa, _, _, .ref m, rfl, a2.same s6, .inl ⟨m, rfl, lm⟩, bi.le (by omega), (bs.mul bj).le (by omega), fun m2 H7 l7 s7 => ?_⟩
      have s67 := s6.trans s7
      have g1' := s67 _ _ g1
      have nI : ∀ dx fs, H7 l5 ≠ some (.ins CR dx fs) := fun dx fs z => by rw [g1'] at z; cases z
      have lw : ws.length = d + i := by
        rw [g2.1, List.length_take, echoL_len]
        omega
      refine ⟨l5, ws, .ref m2, rfl, rfl, g1', by rw [lw, sizeLine_eq]; omega, _, ws ++ [.ref m2], rfl, upd_same, ?_, ?_, ?_, ?_, ?_, ?_⟩
      · have ef : (echoL d s t rs).take (d + (i + 1)) = (echoL d s t rs).take (d + i) ++ [fE d s rs (d + i)] := by
          rw [show d + (i + 1) = d + i + 1 from rfl, List.take_add_one, echoL_at hj]
          rfl
        rw [ef]
        refine Rats.put (Rats.snoc (g2.same s67) ?_) nI
        have efE : fE d s rs (d + i) = rAdd (rs.getD (d + i) (0, 1)) (rMul s (rs.getD i (0, 1))) := by
          unfold fE
          rw [if_neg (by omega), Nat.add_sub_cancel_left]
        rw [efE]
        exact l7
      · exact Rats.put (g3.same s67) nI
      · have ne : q ≠ l5 := fun z => by rw [z, g1] at eq; cases eq
        exact ⟨dq, by rw [upd_ne ne]; exact s67 _ _ eq⟩
      · have ne : e ≠ l5 := fun z => by rw [z, g1] at g5; cases g5
        rw [upd_ne ne]
        exact s67 _ _ g5
      · rw [upd_ne n45]
        exact s67 _ _ g6
      · intro c o ec
        rw [upd_ne (ne_of_none ec h5H)]
        exact s67 _ _ (g7 _ _ ec)
    · rintro σ H' ⟨v, ws, rfl, g1, g2, g3, g4, g5, g6, g7⟩
      refine ⟨_, rfl, kk l5 H' ⟨ws, g1, ?_⟩ g7⟩
      rw [List.take_of_length_le (by rw [echoL_len]; omega)] at g2
      exact g2
theorem ok_ecall {f : Addr} {fd : FuncData} (F : Fun K "__call__" "Edit.__call__" s_ecall f fd) (T : ETx P K mg Cs CR CC CL fL CP fP CS fS CM fM CE CSt tM tF) (G_each : GMeth P w K mg base 2 CC "each" (spEach CC)) (X_made : MethAt P w K mg base CX0 7 CE "made" ["self", "row"] (spEchmade CE CR))
    (K_of : ClsAt P w K mg base (L2.CX P w) 8 CC "of" (spCof Cs CR CC CS CM)) : FnOk P w K mg base CX0 9 f fd ["self", "clip"] (spEcall CE CC CR) := by
  refine F.ok sc_ecall (fun vs H Q E h => ?_) (fun cdv A outer s H vs Q E hr h => ?_)
  · obtain ⟨e, c, d, k, s, t, rs, rfl, _⟩ := h
    rfl
  · obtain ⟨e, c, d, k, s, t, rs, rfl, he, d60, bs, ⟨tt, zs, ⟨dc, ec⟩, e2, r, l2⟩, ln, k0, k8, bd, kk⟩ := h
    refine ⟨_, (pss_one (ps_ret (My.pe_cm K_of (hr.mono (by decide)) passL (pe_glob (v := .ref CC) (by rfl) T.gC rfl) (pa_cons (My.pe_mt T.clE X_made (hr.mono (by decide)) pass0 (pv 0) (pa_cons (My.pe_lcG (own := [("sample", 2)]) rfl sc_ecall.nd (My.pig_m0 G_each rfl T.clC (hr.mono (by decide)) (pv 1)) (blkOk_by (by show blkC ["self", "clip", "sample"] (defScope s_ecall) _ _ = true; decide +kernel)) (by decide +kernel) (fun _ _ _ _ _ => (pg_name (i := 2) sc_ecall.nd rfl (Or.inl rfl))) (fun _ _ _ _ _ => pts_nil) (fun _ _ _ _ _ => (pv 2))) pa_nil)) pa_nil)))), ?_⟩
    obtain ⟨dx, q, e1, eq⟩ := id he
    refine ⟨rfl, _, rfl, e, dx, _, rfl, e1, efs_no _ _ _ (by decide +kernel) (by decide +kernel) (by decide +kernel) (by decide +kernel), ?_⟩
    refine ⟨_, rfl, c, dc, _, rfl, ec, cfs_no tt (by decide), _, ⟨c, dc, tt, zs, rfl, rfl⟩, fun D hD => ?_⟩
    have lz := r.1
    refine lcG_it walk_tupG (fun i Hh => Hh D = some (.lst (zs.take i)) ∧ Same H Hh) ⟨upd_same, same_new hD⟩ (fun i Hh _ hh => ⟨hh.2 _ _ ec, hh.2 _ _ e2⟩) ?_ ?_
    · rintro i v Hh H2 hi ⟨g1, s1⟩ ⟨rfl, hv⟩
      refine ⟨rfl, yes_go ⟨_, rfl, _, g1, by rw [List.length_take, sizeLine_eq]; omega, ?_, fun b o eb => ?_⟩⟩
      · rw [upd_same, take1 hv]
      · rw [upd_ne (ne_of_none eb hD)]
        exact s1 _ _ eb
    rintro H1 ⟨g1, s1⟩
    rw [List.take_length] at g1
    refine ⟨e, D, d, k, s, t, rs, rfl, he.same s1, d60, bs, ⟨zs, g1, r.same s1⟩, ln, k0, k8, bd, fun m H2 ⟨ws, wm, rm⟩ s2 => ?_⟩
    have le : lenE d t rs.length ≤ 600 := by
      unfold lenE
      split <;> omega
    exact ⟨m, ws, rfl, .inr wm, clip_to T.inn (fun rs' z => Nums.eq rm.nums z) rm.nums (by rw [rm.1, echoL_len]; omega) fun c' H' po hc s3 => kk c' H' po (none_back (s1.trans s2) hc) ((s1.trans s2).trans s3)⟩
end
end My
set_option pp.maxSteps 1500
set_option pp.deepTerms.threshold 8
/-! ### clips led by echoes -/
namespace My
open PySem PySem.Spec PyProof.Rows L2 GenW
abbrev s_cledby : Stmt := inClass (topS 31) 9
theorem sc_cledby : FnScope ["self", "step"] ["self", "step"] (defScope s_cledby) := ⟨rfl, rfl, rfl, by decide +kernel, rfl, by decide +kernel, by decide +kernel⟩
abbrev s_cdo : Stmt := inClass (topS 31) 10
theorem sc_cdo : FnScope ["self", "step"] ["self", "step"] (defScope s_cdo) := ⟨rfl, rfl, rfl, by decide +kernel, rfl, by decide +kernel, by decide +kernel⟩
def spLedby (CE CC CR : Addr) : Sp := fun vs H Q _ => ∃ (e c : Addr) (d k : Nat) (s : Int × Int) (t : Bool) (rs : List (Int × Int)), vs = [.ref c, .ref e] ∧ EchoAt CE CR H e d s t ∧ d ≤ 60 ∧ Bd 100 s ∧ ClipAt CC CR H c rs ∧ rs.length ≤ 500 ∧ 0 < k ∧ k ≤ 800 ∧ (∀ r ∈ rs, Bd k r) ∧
  ∀ (m : Addr) (H' : Hp), ClipAt CC CR H' m (echoL d s t rs) → H m = none → Same H H' → Q (.ref m) H'
def spDo (CE CC CR : Addr) : Sp := fun vs H Q _ => ∃ (e c : Addr) (d k : Nat) (s : Int × Int) (t : Bool) (rs : List (Int × Int)), vs = [.ref c, .ref e] ∧ EchoAt CE CR H e d s t ∧ d ≤ 60 ∧ Bd 100 s ∧ ClipAt CC CR H c rs ∧ rs.length ≤ 500 ∧ 0 < k ∧ k ≤ 800 ∧ (∀ r ∈ rs, Bd k r) ∧
  ∀ (H' : Hp), ClipAt CC CR H' c (echoL d s t rs) → (∀ a o, H a = some o → a ≠ c → H' a = some o) → Q .non H'
section
variable {P : Program} {w : World} {K : PySem.W.Frag} {mg : Str → Option Value} {base : Heap} {Cs : List Addr} {CR CC CL fL CP fP CS fS CM fM CE CSt : Addr} {tM tF : Tok}
theorem ok_cledby {f : Addr} {fd : FuncData} (F : Fun K "led_by" "Clip.led_by" s_cledby f fd) (T : ETx P K mg Cs CR CC CL fL CP fP CS fS CM fM CE CSt tM tF) (C_Echo : CallAt P w K mg base CX0 9 CE ["self", "clip"] (spEcall CE CC CR)) : FnOk P w K mg base CX0 10 f fd ["self", "step"] (spLedby CE CC CR) := by
  refine F.ok sc_cledby (fun vs H Q E h => ?_) (fun cdv A outer s H vs Q E hr h => ?_)
  · obtain ⟨e, c, d, k, s, t, rs, rfl, _⟩ := h
    rfl
  · obtain ⟨e, c, d, k, s, t, rs, rfl, he, d60, bs, hc, ln, k0, k8, bd, kk⟩ := h
    refine ⟨_, (pss_cons (ps_if (pt_not (pt_val (pe_callB call_isi (by rfl) T.z_isinstance boot_isinstance (pa_cons (pv 1) (pa_cons (pe_glob (v := .ref CSt) (by rfl) T.gStep rfl) pa_nil))))) (pss_one ps_never) pss_nil)
      (pss_one (ps_ret (My.pe_cl C_Echo (hr.mono (by decide)) pass0 (pv 1) (pa_cons (pv 0) pa_nil))))), ?_⟩
    obtain ⟨dx, q, e1, eq⟩ := id he
    refine ⟨_, rfl, .ref e, .ref CSt, _, _, true, rfl, .own _, T.oE.ty e1, T.isStep, _, rfl, iteF ?_⟩
    exact ⟨_, rfl, e, rfl, _, rfl, .inr ⟨_, _, e1⟩, e, c, d, k, s, t, rs, rfl, he, d60, bs, hc, ln, k0, k8, bd, kk⟩
theorem ok_cdo {f : Addr} {fd : FuncData} (F : Fun K "do" "Clip.do" s_cdo f fd) (T : ETx P K mg Cs CR CC CL fL CP fP CS fS CM fM CE CSt tM tF) (X_led_by : MethAt P w K mg base CX0 10 CC "led_by" ["self", "step"] (spLedby CE CC CR)) : FnOk P w K mg base CX0 12 f fd ["self", "step"] (spDo CE CC CR) := by
  refine F.ok sc_cdo (fun vs H Q E h => ?_) (fun cdv A outer s H vs Q E hr h => ?_)
  · obtain ⟨e, c, d, k, s, t, rs, rfl, _⟩ := h
    rfl
  · obtain ⟨e, c, d, k, s, t, rs, rfl, he, d60, bs, hc, ln, k0, k8, bd, kk⟩ := h
    refine ⟨_, (pss_one (ps_fld (pv 0) (pe_fld (My.pe_mt T.clC X_led_by (hr.mono (by decide)) pass0 (pv 0) (pa_cons (pv 1) pa_nil)) rfl) rfl)), ?_⟩
    obtain ⟨tt, zs, ⟨dc, ec⟩, e2, r, l2⟩ := id hc
    refine ⟨_, rfl, c, dc, _, rfl, ec, cfs_no tt (by decide), _, rfl, e, c, d, k, s, t, rs, rfl, he, d60, bs, hc, ln, k0, k8, bd, fun m H1 ⟨t1, z1, ⟨d1, m1⟩, m2, r1, l1⟩ mn s1 => ?_⟩
    have ec1 := s1 _ _ ec
    refine ⟨m, CC, d1, _, _, rfl, m1, T.clC, T.nS, cfs_get t1, _, rfl, c, CC, dc, _, rfl, ec1, T.clC, T.nS, (by show 1 < 1000; decide), ?_⟩
    rw [cfs_put]
    have tc : t1 ≠ c := fun z => by rw [z, ec1] at m2; cases m2
    refine kk _ ⟨t1, z1, ⟨dc, upd_same⟩, by rw [upd_ne tc]; exact m2, Rats.put r1 (fun dx fs z => ?_), l1⟩ fun a o ea ne => by rw [upd_ne ne]; exact s1 _ _ ea
    rw [ec1] at z
    cases z
    exact T.ne rfl
end
end My
set_option pp.maxSteps 1500
set_option pp.deepTerms.threshold 8
/-! ### the law's own echoes -/
namespace My
open PySem PySem.Spec PyProof.Rows L2 GenW
abbrev s_lshare : Stmt := topS 53
theorem sc_lshare : FnScope ["_law_pen_here"] ["_law_pen_here"] (defScope s_lshare) := ⟨rfl, rfl, rfl, by decide +kernel, rfl, by decide +kernel, by decide +kernel⟩
abbrev s_lscaled : Stmt := topS 54
theorem sc_lscaled : FnScope ["_law_row", "_law_share_here", "_law_one"] ["_law_row", "_law_share_here"] (defScope s_lscaled) := ⟨rfl, rfl, rfl, by decide +kernel, rfl, by decide +kernel, by decide +kernel⟩
abbrev s_lover : Stmt := topS 56
theorem sc_lover : FnScope ["_law_row", "_law_begin", "_law_other", "_law_found", "_law_at"] ["_law_row", "_law_begin", "_law_other"] (defScope s_lover) := ⟨rfl, rfl, rfl, by decide +kernel, rfl, by decide +kernel, by decide +kernel⟩
abbrev s_echoed : Stmt := topS 61
theorem sc_echoed : FnScope ["_law_row", "_law_delay", "_law_share_here", "_law_has_tail", "_law_found", "_law_at", "_law_one"] ["_law_row", "_law_delay", "_law_share_here", "_law_has_tail"] (defScope s_echoed) := ⟨rfl, rfl, rfl, by decide +kernel, rfl, by decide +kernel, by decide +kernel⟩
/-- tuples that stand for these fractions -/
def Tups (H : Hp) (vs : List V) (rs : List (Int × Int)) : Prop := vs.length = rs.length ∧ ∀ (i : Nat) (r : Int × Int), rs[i]? = some r → ∃ q, vs[i]? = some (.ref q) ∧ TupAt H q r
theorem Tups.same {H H' : Hp} {vs : List V} {rs : List (Int × Int)} (h : Tups H vs rs) (s : Same H H') : Tups H' vs rs := ⟨h.1, fun i r e => by obtain ⟨q, e1, e2⟩ := h.2 i r e; exact ⟨q, e1, s _ _ e2⟩⟩
theorem Tups.nil {H : Hp} : Tups H [] [] := ⟨rfl, fun i r e => by simp at e⟩
theorem Tups.app {H : Hp} {vs us : List V} {rs ss : List (Int × Int)} (h : Tups H vs rs) (k : Tups H us ss) : Tups H (vs ++ us) (rs ++ ss) := by
  refine ⟨by rw [List.length_append, List.length_append, h.1, k.1], fun i r e => ?_⟩
  by_cases hi : i < rs.length
  · rw [List.getElem?_append_left hi] at e
    obtain ⟨q, e1, e2⟩ := h.2 i r e
    exact ⟨q, by rw [List.getElem?_append_left (by rw [h.1]; exact hi)]; exact e1, e2⟩
  · rw [List.getElem?_append_right (by omega)] at e
    obtain ⟨q, e1, e2⟩ := k.2 _ r e
    exact ⟨q, by rw [List.getElem?_append_right (by rw [h.1]; omega), h.1]; exact e1, e2⟩
theorem Tups.one {H : Hp} {x : Addr} {r : Int × Int} (h : TupAt H x r) : Tups H [.ref x] [r] := by
  refine ⟨rfl, fun i r' e => ?_⟩
  cases i with
  | zero => cases e; exact ⟨x, rfl, h⟩
  | succ i => cases e
theorem Tups.snoc {H : Hp} {vs : List V} {rs : List (Int × Int)} {x : Addr} {r : Int × Int} (h : Tups H vs rs) (l : TupAt H x r) : Tups H (vs ++ [.ref x]) (rs ++ [r]) := h.app (.one l)
theorem Tups.rep {H : Hp} {x : Addr} {n : Nat} {r : Int × Int} (h : TupAt H x r) : Tups H (List.replicate n (.ref x)) (List.replicate n r) := by
  refine ⟨by rw [List.length_replicate, List.length_replicate], fun i r' e => ?_⟩
  rw [List.getElem?_replicate] at e
  split at e
  · rename_i hi
    cases e
    exact ⟨x, by rw [List.getElem?_replicate, if_pos hi], h⟩
  · cases e
theorem Tups.take {H : Hp} {vs : List V} {rs : List (Int × Int)} (h : Tups H vs rs) (n : Nat) : Tups H (vs.take n) (rs.take n) := by
  refine ⟨by rw [List.length_take, List.length_take, h.1], fun i r e => ?_⟩
  rw [List.getElem?_take] at e
  split at e
  · rename_i hi
    obtain ⟨q, e1, e2⟩ := h.2 i r e
    exact ⟨q, by rw [List.getElem?_take, if_pos hi]; exact e1, e2⟩
  · cases e
theorem Tups.set {H : Hp} {vs : List V} {rs : List (Int × Int)} (h : Tups H vs rs) {i : Nat} {q : Addr} {r : Int × Int} (l : TupAt H q r) : Tups H (vs.set i (.ref q)) (rs.set i r) := by
  refine ⟨by rw [List.length_set, List.length_set, h.1], fun j x e => ?_⟩
  rw [List.getElem?_set] at e
  split at e
  · rename_i hij
    split at e
    · rename_i hi
      cases e
      exact ⟨q, by rw [List.getElem?_set, if_pos hij, if_pos (by rw [h.1]; exact hi)], l⟩
    · cases e
  · rename_i hij
    obtain ⟨q', e1, e2⟩ := h.2 j x e
    exact ⟨q', by rw [List.getElem?_set, if_neg hij]; exact e1, e2⟩
theorem Tups.put {H : Hp} {vs : List V} {rs : List (Int × Int)} {c : Addr} {o : HO} (h : Tups H vs rs) (n : ∀ xs, H c ≠ some (.tup xs)) : Tups (upd H c o) vs rs := ⟨h.1, fun i r e => by
  obtain ⟨q, e1, e2⟩ := h.2 i r e
  exact ⟨q, e1, by
    show upd H c o q = _
    rw [upd_ne (fun z => n _ (by rw [← z]; exact e2))]
    exact e2⟩⟩
def TupL (H : Hp) (l : Addr) (rs : List (Int × Int)) : Prop := ∃ vs, H l = some (.lst vs) ∧ Tups H vs rs
theorem TupL.same {H H' : Hp} {l : Addr} {rs : List (Int × Int)} (h : TupL H l rs) (s : Same H H') : TupL H' l rs := by
  obtain ⟨vs, e, r⟩ := h
  exact ⟨vs, s _ _ e, r.same s⟩
theorem RowK.tl {H : Hp} {l : Addr} {ps : List Addr} {rs : List (Int × Int)} (h : RowK H l ps rs) : TupL H l rs := by
  refine ⟨_, h.l, by rw [List.length_map, h.len], fun i r e => ?_⟩
  have hi := (List.getElem?_eq_some_iff.mp e).1
  have hp : i < ps.length := by rw [h.len]; exact hi
  exact ⟨ps[i], by rw [List.getElem?_map, List.getElem?_eq_getElem hp]; rfl, h.at' i _ _ (List.getElem?_eq_getElem hp) e⟩
theorem TupL.row {H : Hp} {l : Addr} {rs : List (Int × Int)} (h : TupL H l rs) : ∃ ps, RowK H l ps rs := by
  obtain ⟨vs, e, r⟩ := h
  have key : ∀ (us : List V), (∀ u ∈ us, ∃ q, u = V.ref q) → ∃ ps : List Addr, us = ps.map V.ref := fun us => by
    induction us with
    | nil => exact fun _ => ⟨[], rfl⟩
    | cons u us ih =>
      intro hu
      obtain ⟨q, rfl⟩ := hu u List.mem_cons_self
      obtain ⟨ps, rfl⟩ := ih fun u hu' => hu u (List.mem_cons_of_mem _ hu')
      exact ⟨q :: ps, rfl⟩
  obtain ⟨ps, rfl⟩ := key vs fun u hu => by
    obtain ⟨i, hi⟩ := List.getElem?_of_mem hu
    have hl := (List.getElem?_eq_some_iff.mp hi).1
    have hr : i < rs.length := by rw [← r.1]; exact hl
    obtain ⟨q, e1, _⟩ := r.2 i rs[i] (List.getElem?_eq_getElem hr)
    rw [hi] at e1
    exact ⟨q, Option.some.inj e1⟩
  refine ⟨ps, e, by rw [← r.1, List.length_map], fun i p x e1 e2 => ?_⟩
  obtain ⟨q, q1, q2⟩ := r.2 i x e2
  rw [List.getElem?_map, e1] at q1
  cases q1
  exact q2
/-- a share that is let -/
def ShOk (s : Int × Int) : Prop := Lw s.1 s.2 ∧ s.1.natAbs < 10 ^ 30 ∧ s.2.natAbs < 10 ^ 30
theorem ShOk.bd {s : Int × Int} (h : ShOk s) : Bd 100 s := ⟨h.1, Nat.lt_trans h.2.1 (by decide), Nat.lt_trans h.2.2 (by decide)⟩
theorem rMul_comm (r s : Int × Int) : rMul r s = rMul s r := by
  unfold rMul
  rw [Int.mul_comm r.1, Int.mul_comm r.2]
def spLshare : Sp := fun vs H Q _ => ∃ (pn cl : Addr) (n : Nat), vs = [.ref pn] ∧ PenC H pn cl n ∧ n < 90000 ∧ ∀ l s H', TupAt H' l s → ShOk s → PenC H' pn cl (n + 1) → But pn H H' → Q (.ref l) H'
def spLscaled : Sp := fun vs H Q _ => ∃ (l p : Addr) (rs : List (Int × Int)) (s : Int × Int), vs = [.ref l, .ref p] ∧ TupL H l rs ∧ TupAt H p s ∧ Bd 100 s ∧ rs.length ≤ 1000 ∧ (∀ r ∈ rs, Bd 1900 r) ∧ ∀ m H', TupL H' m (rs.map fun r => rMul r s) → Same H H' → Q (.ref m) H'
/-- one row added to another, from b on -/
def overL (b : Nat) (rs ss : List (Int × Int)) (n : Nat) : List (Int × Int) := (List.range rs.length).map fun i => if b ≤ i ∧ i < b + n then rAdd (rs.getD i (0, 1)) (ss.getD (i - b) (0, 1)) else rs.getD i (0, 1)
theorem over_len (b : Nat) (rs ss : List (Int × Int)) (n : Nat) : (overL b rs ss n).length = rs.length := by
  unfold overL
  rw [List.length_map, List.length_range]
theorem over_at {b : Nat} {rs ss : List (Int × Int)} {n i : Nat} (h : i < rs.length) : (overL b rs ss n)[i]? = some (if b ≤ i ∧ i < b + n then rAdd (rs.getD i (0, 1)) (ss.getD (i - b) (0, 1)) else rs.getD i (0, 1)) := by
  unfold overL
  rw [List.getElem?_map, List.getElem?_range h]
  rfl
theorem getD_at {rs : List (Int × Int)} {i : Nat} (h : i < rs.length) : rs[i]? = some (rs.getD i (0, 1)) := by
  rw [List.getD_eq_getElem?_getD, List.getElem?_eq_getElem h]
  rfl
theorem over_zero (b : Nat) (rs ss : List (Int × Int)) : overL b rs ss 0 = rs := by
  refine List.ext_getElem? fun i => ?_
  by_cases h : i < rs.length
  · rw [over_at h, if_neg (by omega), getD_at h]
  · rw [List.getElem?_eq_none (by rw [over_len]; omega), List.getElem?_eq_none (by omega)]
theorem over_succ {b : Nat} {rs ss : List (Int × Int)} {n : Nat} (h : b + n < rs.length) : overL b rs ss (n + 1) = (overL b rs ss n).set (b + n) (rAdd (rs.getD (b + n) (0, 1)) (ss.getD n (0, 1))) := by
  refine List.ext_getElem? fun i => ?_
  by_cases hi : i < rs.length
  · rw [over_at hi, List.getElem?_set]
    by_cases e : b + n = i
    · subst e
      rw [if_pos (show b ≤ b + n ∧ b + n < b + (n + 1) by omega), if_pos rfl, if_pos (by rw [over_len]; exact h), Nat.add_sub_cancel_left]
    · rw [if_neg e, over_at hi]
      by_cases c : b ≤ i ∧ i < b + n
      · rw [if_pos c, if_pos (by omega)]
      · rw [if_neg c, if_neg (by omega)]
  · rw [List.getElem?_eq_none (by rw [over_len]; omega), List.getElem?_eq_none (by rw [List.length_set, over_len]; omega)]
def spLover : Sp := fun vs H Q _ => ∃ (l m : Addr) (b : Nat) (rs ss : List (Int × Int)), vs = [.ref l, .int b, .ref m] ∧ TupL H l rs ∧ TupL H m ss ∧ b + ss.length = rs.length ∧ rs.length ≤ 1000 ∧ (∀ r ∈ rs, Bd 1900 r) ∧ (∀ r ∈ ss, Bd 1900 r) ∧ ∀ q H', TupL H' q (overL b rs ss ss.length) → Same H H' → Q (.ref q) H'
def spEchoed : Sp := fun vs H Q _ => ∃ (l p : Addr) (d k : Nat) (rs : List (Int × Int)) (s : Int × Int) (t : Bool), vs = [.ref l, .int d, .ref p, .bl t] ∧ TupL H l rs ∧ TupAt H p s ∧ Bd 100 s ∧ d ≤ 60 ∧ 1 ≤ d ∧ rs.length ≤ 500 ∧ 0 < k ∧ k ≤ 800 ∧ (∀ r ∈ rs, Bd k r) ∧ ∀ m H', TupL H' m (echoL d s t rs) → H m = none → Same H H' → Q (.ref m) H'
section
variable {P : Program} {w : World} {K : PySem.W.Frag} {mg : Str → Option Value} {base : Heap} {Cs : List Addr} {CR CC CL fL CP fP CS fS CM fM CE CSt : Addr} {tM tF : Tok}
theorem ok_lshare {f : Addr} {fd : FuncData} (F : Fun K "_law_share" "_law_share" s_lshare f fd) (D_pick : DefAt P w K mg base CX0 2 "_law_pick" ["_law_pen_here", "_law_some"] spPickC) : FnOk P w K mg base CX0 3 f fd ["_law_pen_here"] spLshare := by
  refine F.ok sc_lshare (fun vs H Q E h => ?_) (fun cdv A outer s H vs Q E hr h => ?_)
  · obtain ⟨pn, cl, n, rfl, _⟩ := h
    rfl
  · obtain ⟨pn, cl, n, rfl, hp, hn, k⟩ := h
    refine ⟨_, (pss_one (ps_ret (My.pe_d D_pick (hr.mono (by decide)) (by rfl) pass0 (pa_cons (pv 0) (pa_cons (pe_lst (pa_cons (pe_tup (pa_cons pe_int (pa_cons pe_int pa_nil))) (pa_cons (pe_tup (pa_cons (pe_un un_neg pe_int) (pa_cons pe_int pa_nil))) (pa_cons (pe_tup (pa_cons pe_int (pa_cons pe_int pa_nil))) (pa_cons (pe_tup (pa_cons (pe_un un_neg pe_int) (pa_cons pe_int pa_nil))) (pa_cons (pe_tup (pa_cons pe_int (pa_cons pe_int pa_nil))) (pa_cons (pe_tup (pa_cons pe_int (pa_cons pe_int pa_nil))) (pa_cons (pe_tup (pa_cons (pe_op op_sub (pe_op op_pow pe_int pe_int) pe_int) (pa_cons (pe_op op_pow pe_int pe_int) pa_nil))) pa_nil)))))))) pa_nil))))), ?_⟩
    refine ⟨_, rfl, (by show 2 ≤ sizeLine; decide), fun t1 h1 => ⟨_, rfl, (by show 2 ≤ sizeLine; decide), fun t2 h2 => ⟨(by show 2 ≤ sizeLine; decide), fun t3 h3 => ⟨_, rfl, (by show 2 ≤ sizeLine; decide), fun t4 h4 => ⟨(by show 2 ≤ sizeLine; decide), fun t5 h5 => ⟨(by show 2 ≤ sizeLine; decide), fun t6 h6 => ?_⟩⟩⟩⟩⟩⟩
    refine ⟨_, _, rfl, rfl, ⟨by decide, by decide, by decide⟩, _, _, rfl, rfl, _, _, rfl, rfl, ⟨by decide, by decide, by decide⟩, (by show 2 ≤ sizeLine; decide), fun t7 h7 => ⟨(by show 7 ≤ sizeLine; decide), fun l8 h8 => ?_⟩⟩
    have a1 := same_new (o := .tup [.int 1, .int 1]) h1
    have a2 := same_new (o := .tup [.int (-1), .int 1]) h2
    have a3 := same_new (o := .tup [.int 1, .int 2]) h3
    have a4 := same_new (o := .tup [.int (-2), .int 3]) h4
    have a5 := same_new (o := .tup [.int 3, .int 1]) h5
    have a6 := same_new (o := .tup [.int 0, .int 1]) h6
    have a7 := same_new (o := .tup [.int (10 ^ Int.toNat 30 - 1), .int (10 ^ Int.toNat 29)]) h7
    have a8 := same_new (o := .lst [.ref t1, .ref t2, .ref t3, .ref t4, .ref t5, .ref t6, .ref t7]) h8
    have w1 := a8 _ _ (a7 _ _ (a6 _ _ (a5 _ _ (a4 _ _ (a3 _ _ (a2 _ _ (upd_same)))))))
    have w2 := a8 _ _ (a7 _ _ (a6 _ _ (a5 _ _ (a4 _ _ (a3 _ _ (upd_same))))))
    have w3 := a8 _ _ (a7 _ _ (a6 _ _ (a5 _ _ (a4 _ _ (upd_same)))))
    have w4 := a8 _ _ (a7 _ _ (a6 _ _ (a5 _ _ (upd_same))))
    have w5 := a8 _ _ (a7 _ _ (a6 _ _ (upd_same)))
    have w6 := a8 _ _ (a7 _ _ (upd_same))
    have w7 := a8 _ _ (upd_same)
    have s8 := (((((((a1).trans a2).trans a3).trans a4).trans a5).trans a6).trans a7).trans a8
    refine ⟨pn, cl, l8, n, _, rfl, upd_same, pen_ne (hp.same (((((((a1).trans a2).trans a3).trans a4).trans a5).trans a6).trans a7)).pen h8, (by show 0 < 7; decide), (by show 7 ≤ 1000; decide), hp.same s8, by omega, fun v H9 hv p9 u9 => ?_⟩
    have up : ∀ (x : Addr) (s : Int × Int), TupAt _ x s → TupAt H9 x s := fun x s e => u9 _ _ e fun z => (hp.same s8).notup _ (by rw [← z]; exact e)
    have uu : But pn H H9 := (but_same s8).trans u9
    simp only [List.mem_cons, List.mem_nil_iff, or_false] at hv
    rcases hv with rfl | rfl | rfl | rfl | rfl | rfl | rfl
    · exact k _ (1, 1) H9 (up _ _ w1) ⟨⟨by decide, by decide⟩, by decide, by decide⟩ p9 uu
    · exact k _ (-1, 1) H9 (up _ _ w2) ⟨⟨by decide, by decide⟩, by decide, by decide⟩ p9 uu
    · exact k _ (1, 2) H9 (up _ _ w3) ⟨⟨by decide, by decide⟩, by decide, by decide⟩ p9 uu
    · exact k _ (-2, 3) H9 (up _ _ w4) ⟨⟨by decide, by decide⟩, by decide, by decide⟩ p9 uu
    · exact k _ (3, 1) H9 (up _ _ w5) ⟨⟨by decide, by decide⟩, by decide, by decide⟩ p9 uu
    · exact k _ (0, 1) H9 (up _ _ w6) ⟨⟨by decide, by decide⟩, by decide, by decide⟩ p9 uu
    · exact k _ (10 ^ Int.toNat 30 - 1, 10 ^ Int.toNat 29) H9 (up _ _ w7) ⟨⟨by decide +kernel, by decide +kernel⟩, by decide +kernel, by decide +kernel⟩ p9 uu
theorem ok_lscaled {f : Addr} {fd : FuncData} (F : Fun K "_law_scaled" "_law_scaled" s_lscaled f fd) (D_lprod : DefAt P w K mg base CX0 3 "_law_product" ["_law_one", "_law_other"] (spLbin rMul)) : FnOk P w K mg base CX0 5 f fd ["_law_row", "_law_share_here"] spLscaled := by
  refine F.ok sc_lscaled (fun vs H Q E h => ?_) (fun cdv A outer s H vs Q E hr h => ?_)
  · obtain ⟨l, p, rs, s, rfl, _⟩ := h
    rfl
  · obtain ⟨l, p, rs, s, rfl, ⟨zs, el, r⟩, tp, bs, ln, bd, k⟩ := h
    refine ⟨_, (pss_one (ps_ret (pe_lc (own := [("_law_one", 2)]) rfl sc_lscaled.nd (pi_list (pv 0)) (blkOk_by (by show blkC ["_law_row", "_law_share_here", "_law_one"] (defScope s_lscaled) _ _ = true; decide +kernel)) (fun _ _ _ _ _ => (pg_name (i := 2) sc_lscaled.nd rfl (Or.inl rfl))) (fun _ _ _ _ _ => pts_nil) (fun _ _ _ _ _ => (My.pe_d D_lprod (hr.mono (by decide)) (by rfl) pass0 (pa_cons (pv 2) (pa_cons (pv 1) pa_nil))))))), ?_⟩
    refine ⟨_, rfl, l, rfl, ⟨_, SqL.of el⟩, fun D hD => ?_⟩
    have lz := r.1
    refine lc_list (K := K) (a := l) (xs := zs) (fun i Hh => ∃ ws, Hh D = some (.lst ws) ∧ Tups Hh ws ((rs.map fun r => rMul r s).take i) ∧ Same H Hh) ⟨[], upd_same, Tups.nil, same_new hD⟩ (fun i Hh _ hh => by obtain ⟨_, _, _, s'⟩ := hh; exact SqL.of (s' _ _ el)) ?_ ?_
    · rintro i x Hh hx ⟨ws, g1, g2, g3⟩
      have hi := (List.getElem?_eq_some_iff.mp hx).1
      have hr : i < rs.length := by omega
      obtain ⟨q, q1, q2⟩ := r.2 i rs[i] (List.getElem?_eq_getElem hr)
      rw [hx] at q1
      cases q1
      refine ⟨rfl, yes_go ⟨_, rfl, _, rfl, q, p, rs[i], s, rfl, g3 _ _ q2, g3 _ _ tp, bd _ (List.getElem_mem hr), bs.le (by decide), fun m H2 mn tm s2 => ?_⟩⟩
      have g1' := s2 _ _ g1
      have lw : ws.length = i := by
        rw [g2.1, List.length_take, List.length_map]
        omega
      refine ⟨ws, g1', by rw [lw, sizeLine_eq]; omega, ws ++ [.ref m], upd_same, ?_, fun b o eb => ?_⟩
      · have ef : (rs.map fun r => rMul r s).take (i + 1) = (rs.map fun r => rMul r s).take i ++ [rMul rs[i] s] := by
          rw [List.take_add_one, List.getElem?_map, List.getElem?_eq_getElem hr]
          rfl
        rw [ef]
        exact Tups.put ((g2.same s2).snoc tm) fun xs z => by rw [g1'] at z; cases z
      · rw [upd_ne (ne_of_none eb hD)]
        exact s2 _ _ (g3 _ _ eb)
    · rintro Hh ⟨ws, g1, g2, g3⟩
      rw [List.take_of_length_le (by rw [List.length_map]; omega)] at g2
      exact k D Hh ⟨ws, g1, g2⟩ g3
theorem ok_lover {f : Addr} {fd : FuncData} (F : Fun K "_law_over" "_law_over" s_lover f fd) (T : BI mg) (D_lsum : DefAt P w K mg base CX0 3 "_law_sum" ["_law_one", "_law_other"] (spLbin rAdd)) : FnOk P w K mg base CX0 5 f fd ["_law_row", "_law_begin", "_law_other"] spLover := by
  refine F.ok sc_lover (fun vs H Q E h => ?_) (fun cdv A outer s H vs Q E hr h => ?_)
  · obtain ⟨l, m, b, rs, ss, rfl, _⟩ := h
    rfl
  · obtain ⟨l, m, b, rs, ss, rfl, ⟨zs, el, r⟩, ⟨ys, em, y⟩, hb, ln, bd1, bd2, k⟩ := h
    refine ⟨_, (pss_cons (ps_set (i := 3) sc_lover.nd rfl (Or.inl rfl) (pe_op op_cat (pv 0) (pe_op op_rep (pe_lst (pa_cons (pe_tup (pa_cons pe_int (pa_cons pe_int pa_nil))) pa_nil)) (pe_op op_sub (pe_op op_add (pv 1) (pe_callB call_len (by rfl) T.z_len PySem.boot_len (pa_cons (pv 2) pa_nil))) (pe_callB call_len (by rfl) T.z_len PySem.boot_len (pa_cons (pv 0) pa_nil))))))
      (pss_cons (ps_for PassesOwn.never rfl (pi_range1 rfl T.z_range (pa_cons (pe_callB call_len (by rfl) T.z_len PySem.boot_len (pa_cons (pv 2) pa_nil)) pa_nil)) (pg_name (i := 4) sc_lover.nd rfl (Or.inl rfl)) (pss_one (ps_asg (My.pe_d D_lsum (hr.mono (by decide)) (by rfl) pass0 (pa_cons (pe_ix ix_list (pv 3) (pe_op op_add (pv 1) (pv 4)) (fun _ _ => rfl)) (pa_cons (pe_ix ix_list (pv 2) (pv 4) (fun _ _ => rfl)) pa_nil))) (pg_sub (pv 3) (pe_op op_add (pv 1) (pv 4)) set_list))))
      (pss_one (ps_ret (pv 3))))), ?_⟩
    have lz := r.1
    have ly := y.1
    refine ⟨_, rfl, (by show 2 ≤ sizeLine; decide), fun t1 h1 => ⟨(by show 1 ≤ sizeLine; decide), fun l2 h2 => ?_⟩⟩
    have a1 := same_new (o := .tup [.int 0, .int 1]) h1
    have a2 := same_new (o := .lst [.ref t1]) h2
    have s2 := a1.trans a2
    refine ⟨_, rfl, _, rfl, _, _, rfl, .inl ⟨_, SqL.of (s2 _ _ em), rfl⟩, _, _, rfl, rfl, _, rfl, _, _, rfl, .inl ⟨_, SqL.of (s2 _ _ el), rfl⟩, _, _, rfl, rfl, ?_⟩
    have e0 : (b : Int) + (ys.length : Int) - (zs.length : Int) = 0 := by omega
    refine ⟨l2, 0, _, rfl, congrArg V.int e0, upd_same, by decide, by decide, (by show 1 * 0 ≤ sizeLine; decide), fun l3 h3 => ?_⟩
    have a3 := same_new (o := .lst (List.replicate (Int.toNat 0) [V.ref t1]).flatten) h3
    have s3 := s2.trans a3
    refine ⟨l, l3, zs, [], rfl, rfl, s3 _ _ el, upd_same, (by rw [lz, sizeLine_eq]; show rs.length + 0 ≤ _; omega), fun l4 h4 => ?_⟩
    rw [List.append_nil]
    have a4 := same_new (o := .lst zs) h4
    have s4 := s3.trans a4
    have w4 : (upd (upd (upd (upd H t1 (.tup [.int 0, .int 1])) l2 (.lst [.ref t1])) l3 (.lst (List.replicate (Int.toNat 0) [V.ref t1]).flatten)) l4 (.lst zs)) l4 = some (.lst zs) := upd_same
    have h4H : H l4 = none := none_back s3 h4
    generalize upd (upd (upd (upd H t1 (.tup [.int 0, .int 1])) l2 (.lst [.ref t1])) l3 (.lst (List.replicate (Int.toNat 0) [V.ref t1]).flatten)) l4 (.lst zs) = H4 at s4 w4 ⊢
    refine ⟨_, rfl, _, _, rfl, .inl ⟨_, SqL.of (s4 _ _ em), rfl⟩, ?_⟩
    refine ⟨_, rfl, by omega, by omega, for_range (fun i σ H' => ∃ v ws, σ = [some (.ref l), some (.int b), some (.ref m), some (.ref l4), v] ∧ H' l4 = some (.lst ws) ∧ Tups H' ws (overL b rs ss i) ∧ Same H H') ⟨none, zs, rfl, w4, ?_, s4⟩ ?_ ?_⟩
    · rw [over_zero]
      exact r.same s4
    · rintro i σ H' hi ⟨v, ws, rfl, g1, g2, g3⟩
      have hb2 : b + i < rs.length := by omega
      have hi2 : i < ss.length := by omega
      obtain ⟨qa, a1', a2'⟩ := g2.2 (b + i) _ (over_at (n := i) hb2)
      rw [if_neg (by omega)] at a2'
      obtain ⟨qb, b1, b2⟩ := (y.same g3).2 i _ (getD_at hi2)
      have lw : ws.length = rs.length := by rw [g2.1, over_len]
      refine ⟨_, rfl, _, rfl, _, rfl, _, _, rfl, rfl, l4, ws, _, .ref qa, rfl, rfl, SqL.of g1, at_of (j := b + i) (by omega) a1', _, rfl, _, rfl, m, ys, _, .ref qb, rfl, rfl, SqL.of (g3 _ _ em), at_of (j := i) (by omega) b1, qa, qb, _, _, rfl, a2', b2, ?_, ?_, fun q H2 hn tq s2 => ?_⟩
      · exact bd1 _ (List.mem_of_getElem? (getD_at hb2))
      · exact bd2 _ (List.mem_of_getElem? (getD_at hi2))
      have g1' := s2 _ _ g1
      refine ⟨_, rfl, _, rfl, _, rfl, _, _, rfl, rfl, l4, ws, _, b + i, rfl, rfl, g1', ?_, _, _, rfl, upd_same, ?_, ?_⟩
      · unfold ixN
        rw [if_pos (by omega), if_pos (by omega)]
        congr 1
        omega
      · rw [over_succ hb2]
        exact Tups.put ((g2.same s2).set tq) fun xs z => by rw [g1'] at z; cases z
      · intro c o ec
        rw [upd_ne (ne_of_none ec h4H)]
        exact s2 _ _ (g3 _ _ ec)
    · rintro σ H' ⟨v, ws, rfl, g1, g2, g3⟩
      refine ⟨_, rfl, k l4 H' ⟨ws, g1, ?_⟩ g3⟩
      have e1 : (Int.toNat (ys.length : Int)) = ss.length := by rw [Int.toNat_natCast]; exact ly
      rw [e1] at g2
      exact g2
theorem ok_echoed {f : Addr} {fd : FuncData} (F : Fun K "_law_echoed" "_law_echoed" s_echoed f fd) (T : BI mg) (D_lsum : DefAt P w K mg base CX0 3 "_law_sum" ["_law_one", "_law_other"] (spLbin rAdd)) (D_lprod : DefAt P w K mg base CX0 3 "_law_product" ["_law_one", "_law_other"] (spLbin rMul)) :
    FnOk P w K mg base CX0 5 f fd ["_law_row", "_law_delay", "_law_share_here", "_law_has_tail"] spEchoed := by
  refine F.ok sc_echoed (fun vs H Q E h => ?_) (fun cdv A outer s H vs Q E hr h => ?_)
  · obtain ⟨l, p, d, k, rs, s, t, rfl, _⟩ := h
    rfl
  · obtain ⟨l, p, d, k, rs, s, t, rfl, ⟨zs, el, r⟩, tp, bs, d60, d1, ln, k0, k8, bd, kk⟩ := h
    refine ⟨_, (pss_cons (ps_set (i := 4) sc_echoed.nd rfl (Or.inl rfl) (pe_lst pa_nil))
      (pss_cons (ps_for PassesOwn.never rfl (pi_range1 rfl T.z_range (pa_cons (pe_op op_add (pe_callB call_len (by rfl) T.z_len PySem.boot_len (pa_cons (pv 0) pa_nil)) (pe_op op_mul (pv 1) (pe_callTy call_int1 (by rfl) T.z_int boot_int (pa_cons (pv 3) pa_nil)))) pa_nil)) (pg_name (i := 5) sc_echoed.nd rfl (Or.inl rfl)) (C8.pss_cut (ps_set (i := 6) sc_echoed.nd rfl (Or.inl rfl) (pe_ifExp (pt_cmpR op_lt (pv 5) (pe_callB call_len (by rfl) T.z_len PySem.boot_len (pa_cons (pv 0) pa_nil)) (nomark _)) (pe_ix ix_list (pv 0) (pv 5) (fun _ _ => rfl)) (pe_tup (pa_cons pe_int (pa_cons pe_int pa_nil)))))
      (C8.pss_cut (ps_if (pt_chain op_le op_lt pe_int (pe_op op_sub (pv 5) (pv 1)) (pe_callB call_len (by rfl) T.z_len PySem.boot_len (pa_cons (pv 0) pa_nil))) (pss_one (ps_set (i := 6) sc_echoed.nd rfl (Or.inl rfl) (My.pe_d D_lsum (hr.mono (by decide)) (by rfl) pass0 (pa_cons (pv 6) (pa_cons (My.pe_d D_lprod (hr.mono (by decide)) (by rfl) pass0 (pa_cons (pe_ix ix_list (pv 0) (pe_op op_sub (pv 5) (pv 1)) (fun _ _ => rfl)) (pa_cons (pv 2) pa_nil))) pa_nil))))) pss_nil)
      (pss_one (ps_expr (pe_bm PySem.F.plainAttrs_list PySem.F.slot_list_append PySem.F.type_list_append mt_append (pv 4) (pa_cons (pv 6) pa_nil)))))))
      (pss_one (ps_ret (pv 4))))), ?_⟩
    have lz := r.1
    refine ⟨(by show 0 ≤ sizeLine; decide), fun D hD => ?_⟩
    have s1 := same_new (o := .lst []) hD
    refine ⟨_, rfl, _, _, rfl, .inl ⟨_, SqL.of (s1 _ _ el), rfl⟩, _, rfl, _, rfl, .inr ⟨t, rfl, ?_⟩⟩
    have eN : (zs.length : Int) + (d : Int) * (if t = true then 1 else 0) = ((lenE d t rs.length : Nat) : Int) := by
      unfold lenE
      cases t <;> simp [lz]
    have le : lenE d t rs.length ≤ 600 := by
      unfold lenE
      split <;> omega
    refine ⟨_, _, rfl, rfl, .inl ⟨by omega, by omega⟩, _, _, rfl, rfl, ((lenE d t rs.length : Nat) : Int), congrArg (fun z => [V.int z]) eN, by omega, by omega, for_range (fun i σ H' => ∃ v6 v7 ws, σ = [some (.ref l), some (.int d), some (.ref p), some (.bl t), some (.ref D), v6, v7] ∧ H' D = some (.lst ws) ∧ Tups H' ws ((echoL d s t rs).take i) ∧ Same H H') ⟨none, none, [], rfl, upd_same, Tups.nil, s1⟩ ?_ ?_⟩
    · rintro i σ H' hi ⟨v6, v7, ws, rfl, g1, g2, g3⟩
      rw [Int.toNat_natCast] at hi
      have g4 := g3 _ _ el
      have g5 : TupAt H' p s := g3 _ _ tp
      have e5 : V.int (0 + (i : Int)) = V.int i := by rw [Int.zero_add]
      rw [e5]
      refine ⟨fun σ H1 => ∃ q1, σ = [some (.ref l), some (.int d), some (.ref p), some (.bl t), some (.ref D), some (.int i), some (.ref q1)] ∧ TupAt H1 q1 (rs.getD i (0, 1)) ∧ Same H' H1, ?_, ?_⟩
      · refine ⟨_, rfl, _, rfl, _, _, rfl, .inl ⟨_, SqL.of g4, rfl⟩, _, _, rfl, rfl, _, rfl, ?_⟩
        refine ite2 (fun c => ?_) (fun c => ?_)
        · have hi2 : i < rs.length := by
            have := of_decide_eq_true c
            omega
          obtain ⟨qa, a1, a2⟩ := r.2 i _ (getD_at hi2)
          exact ⟨_, rfl, _, rfl, l, zs, _, .ref qa, rfl, rfl, SqL.of g4, at_of (j := i) (by omega) a1, qa, rfl, g3 _ _ a2, fun b o e => e⟩
        · have hi2 : ¬ i < rs.length := by
            intro z
            exact c (decide_eq_true (by omega))
          refine ⟨(by show 2 ≤ sizeLine; decide), fun q1 h1 => ⟨q1, rfl, ?_, same_new h1⟩⟩
          rw [List.getD_eq_getElem?_getD, List.getElem?_eq_none (by omega)]
          exact upd_same
      rintro σ H1 ⟨q1, rfl, t1, s1'⟩
      refine ⟨fun σ H2 => ∃ q2, σ = [some (.ref l), some (.int d), some (.ref p), some (.bl t), some (.ref D), some (.int i), some (.ref q2)] ∧ TupAt H2 q2 (fE d s rs i) ∧ Same H' H2, ?_, ?_⟩
      · have el1 := s1' _ _ g4
        refine ⟨_, rfl, _, rfl, _, _, rfl, rfl, _, _, rfl, rfl, _, rfl, ?_⟩
        refine ite2 (fun c => ?_) (fun c => ?_)
        · have hdi : d ≤ i := by
            have := of_decide_eq_true c
            omega
          have hlt : i - d < rs.length := by
            unfold lenE at hi
            split at hi <;> omega
          refine ⟨_, rfl, _, _, rfl, .inl ⟨_, SqL.of el1, rfl⟩, _, _, rfl, rfl, _, rfl, ?_⟩
          rw [decide_eq_true (show (i : Int) - (d : Int) < (zs.length : Nat) by omega)]
          refine iteT ?_
          obtain ⟨qb, b1, b2⟩ := r.2 (i - d) _ (getD_at hlt)
          have bi := getD_bd k0 bd i
          have bj := getD_bd k0 bd (i - d)
          refine ⟨_, rfl, _, rfl, _, rfl, _, rfl, _, _, rfl, rfl, l, zs, _, .ref qb, rfl, rfl, SqL.of el1, at_of (j := i - d) (by omega) b1, _, rfl, qb, p, _, s, rfl, s1' _ _ (g3 _ _ b2), s1' _ _ g5, bj.le (by omega), bs.le (by decide), fun m H2 mn tm s2 => ?_⟩
          refine ⟨q1, m, _, _, rfl, s2 _ _ t1, tm, bi.le (by omega), (bj.mul bs).le (by omega), fun q2 H3 qn t3 s3 => ⟨q2, rfl, ?_, (s1'.trans s2).trans s3⟩⟩
          unfold fE
          rw [if_neg (by omega), rMul_comm s]
          exact t3
        · have hdi : i < d := by
            by_cases z : i < d
            · exact z
            · exact absurd (decide_eq_true (show (0 : Int) ≤ (i : Int) - (d : Int) by omega)) c
          refine ⟨_, rfl, iteF ⟨q1, rfl, ?_, s1'⟩⟩
          unfold fE
          rw [if_pos hdi]
          exact t1
      rintro σ H2 ⟨q2, rfl, t2, s2⟩
      have g1' := s2 _ _ g1
      have lw : ws.length = i := by
        rw [g2.1, List.length_take, echoL_len]
        omega
      refine ⟨_, rfl, .inl ⟨rfl, _, SqL.of g1'⟩, _, rfl, D, ws, .ref q2, rfl, rfl, g1', by rw [lw, sizeLine_eq]; omega, _, _, ws ++ [.ref q2], rfl, upd_same, ?_, ?_⟩
      · have ef : (echoL d s t rs).take (i + 1) = (echoL d s t rs).take i ++ [fE d s rs i] := by
          rw [List.take_add_one, echoL_at hi]
          rfl
        rw [ef]
        exact Tups.put ((g2.same s2).snoc t2) fun xs z => by rw [g1'] at z; cases z
      · intro c o ec
        rw [upd_ne (ne_of_none ec hD)]
        exact s2 _ _ (g3 _ _ ec)
    · rintro σ H' ⟨v6, v7, ws, rfl, g1, g2, g3⟩
      rw [Int.toNat_natCast, List.take_of_length_le (by rw [echoL_len]; omega)] at g2
      exact ⟨_, rfl, kk D H' ⟨ws, g1, g2⟩ hD g3⟩
end
end My
set_option pp.maxSteps 1500
set_option pp.deepTerms.threshold 8
/-! ### echoes done by adding rows -/
namespace My
open PySem PySem.Spec PyProof.Rows L2 GenW
abbrev s_ldone : Stmt := topS 57
theorem sc_ldone : FnScope ["_law_deed", "_law_row", "_law_kind", "_law_n", "_law_longer", "_law_sent"] ["_law_deed", "_law_row"] (defScope s_ldone) := ⟨rfl, rfl, rfl, by decide +kernel, rfl, by decide +kernel, by decide +kernel⟩
theorem longL_getD (d : Nat) (t : Bool) (rs : List (Int × Int)) (i : Nat) (h : i < lenE d t rs.length) : (longL d t rs).getD i (0, 1) = rs.getD i (0, 1) := by
  rw [List.getD_eq_getElem?_getD, longL_at h]
  rfl
theorem over_echo (d : Nat) (s : Int × Int) (t : Bool) (rs : List (Int × Int)) : overL (min d (lenE d t rs.length)) (longL d t rs) (((longL d t rs).take (lenE d t rs.length - d)).map fun r => rMul r s) (lenE d t rs.length - d) = echoL d s t rs := by
  have hl := longL_len d t rs
  refine List.ext_getElem? fun i => ?_
  by_cases hi : i < lenE d t rs.length
  · rw [over_at (by omega), echoL_at hi, longL_getD d t rs i hi]
    unfold fE
    congr 1
    by_cases hd : i < d
    · rw [if_pos hd, if_neg (by omega)]
    · have hj : i - d < lenE d t rs.length - d := by omega
      have hm : min d (lenE d t rs.length) = d := by omega
      rw [if_neg hd, hm, if_pos (by omega)]
      congr 1
      rw [List.getD_eq_getElem?_getD, List.getElem?_map, List.getElem?_take, if_pos hj, longL_at (by omega), rMul_comm s]
      rfl
  · rw [List.getElem?_eq_none (by rw [over_len]; omega), List.getElem?_eq_none (by rw [echoL_len]; omega)]
theorem str_ne {x y : Str} (h : ¬ x = y) : decide (V.str x = V.str y) = false := decide_eq_false fun z => by
  injection z with z
  exact h z
def spLdone : Sp := fun vs H Q _ => ∃ (tt l p : Addr) (d k : Nat) (rs : List (Int × Int)) (s : Int × Int) (t : Bool), vs = [.ref tt, .ref l] ∧ H tt = some (.tup [.str "echo", .int d, .ref p, .bl t]) ∧ TupL H l rs ∧ TupAt H p s ∧ Bd 100 s ∧ d ≤ 60 ∧ rs.length ≤ 500 ∧ 0 < k ∧ k ≤ 800 ∧ (∀ r ∈ rs, Bd k r) ∧ ∀ m H', TupL H' m (echoL d s t rs) → Same H H' → Q (.ref m) H'
section
variable {P : Program} {w : World} {K : PySem.W.Frag} {mg : Str → Option Value} {base : Heap} {Cs : List Addr} {CR CC CL fL CP fP CS fS CM fM CE CSt : Addr} {tM tF : Tok}
theorem ok_ldone {f : Addr} {fd : FuncData} (F : Fun K "_law_done" "_law_done" s_ldone f fd) (T : BI mg) (zmax : mg "max" = none) (zmin : mg "min" = none) (D_lscaled : DefAt P w K mg base CX0 5 "_law_scaled" ["_law_row", "_law_share_here"] spLscaled) (D_lover : DefAt P w K mg base CX0 5 "_law_over" ["_law_row", "_law_begin", "_law_other"] spLover) :
    FnOk P w K mg base CX0 7 f fd ["_law_deed", "_law_row"] spLdone := by
  refine F.ok sc_ldone (fun vs H Q E h => ?_) (fun cdv A outer s H vs Q E hr h => ?_)
  · obtain ⟨tt, l, p, d, k, rs, s, t, rfl, _⟩ := h
    rfl
  · obtain ⟨tt, l, p, d, k, rs, s, t, rfl, et, ⟨zs, el, r⟩, tp, bs, d60, ln, k0, k8, bd, kk⟩ := h
    refine ⟨_, (pss_cons (ps_par (i := 2) (j := 3) (by rfl) sc_ldone.nd rfl rfl (by decide) rfl rfl (pa_cons (pe_ix ix_tup (pv 0) pe_int (fun _ _ => rfl)) (pa_cons (pe_callB call_len (by rfl) T.z_len PySem.boot_len (pa_cons (pv 1) pa_nil)) pa_nil)) (by rfl))
      (pss_cons (ps_if (pt_cmpR op_eq (pv 2) pe_str (nomark _)) (pss_one ps_never) pss_nil)
      (pss_cons (ps_if (pt_cmpR op_eq (pv 2) pe_str (nomark _)) (pss_one ps_never) pss_nil)
      (pss_cons (ps_if (pt_cmpR op_eq (pv 2) pe_str (nomark _)) (pss_one ps_never) pss_nil)
      (pss_cons (ps_if (pt_cmpR op_eq (pv 2) pe_str (nomark _)) (pss_one ps_never) pss_nil)
      (pss_cons (ps_if (pt_cmpR op_eq (pv 2) pe_str (nomark _)) (pss_one ps_never) pss_nil)
      (pss_cons (ps_if (pt_cmpR op_eq (pv 2) pe_str (nomark _)) (pss_one ps_never) pss_nil)
      (pss_cons (ps_if (pt_cmpR op_eq (pv 2) pe_str (nomark _)) (pss_cons (ps_set (i := 4) sc_ldone.nd rfl (Or.inl rfl) (pe_op op_cat (pv 1) (pe_op op_rep (pe_lst (pa_cons (pe_tup (pa_cons pe_int (pa_cons pe_int pa_nil))) pa_nil)) (pe_op op_mul (pe_ix ix_tup (pv 0) pe_int (fun _ _ => rfl)) (pe_callTy call_int1 (by rfl) T.z_int boot_int (pa_cons (pe_ix ix_tup (pv 0) pe_int (fun _ _ => rfl)) pa_nil))))))
      (pss_cons (ps_set (i := 5) sc_ldone.nd rfl (Or.inl rfl) (My.pe_d D_lscaled (hr.mono (by decide)) (by rfl) pass0 (pa_cons (pe_slice sl_list (pv 4) po_none (po_some (pe_callB (call_max2 rfl) (by rfl) zmax boot_max (pa_cons pe_int (pa_cons (pe_op op_sub (pe_callB call_len (by rfl) T.z_len PySem.boot_len (pa_cons (pv 4) pa_nil)) (pe_ix ix_tup (pv 0) pe_int (fun _ _ => rfl))) pa_nil))))) (pa_cons (pe_ix ix_tup (pv 0) pe_int (fun _ _ => rfl)) pa_nil))))
      (pss_one (ps_ret (My.pe_d D_lover (hr.mono (by decide)) (by rfl) pass0 (pa_cons (pv 4) (pa_cons (pe_callB (call_min2 rfl) (by rfl) zmin boot_min (pa_cons (pe_ix ix_tup (pv 0) pe_int (fun _ _ => rfl)) (pa_cons (pe_callB call_len (by rfl) T.z_len PySem.boot_len (pa_cons (pv 4) pa_nil)) pa_nil))) (pa_cons (pv 5) pa_nil)))))))) pss_nil)
      (pss_cons (ps_if (pt_cmpR op_eq (pv 2) pe_str (nomark _)) (pss_one ps_never) pss_nil)
      (pss_one ps_never)))))))))), ?_⟩
    have lz := r.1
    refine ⟨_, rfl, tt, _, _, _, rfl, rfl, SqT.of et, rfl, _, rfl, _, _, rfl, .inl ⟨_, SqL.of el, rfl⟩, _, _, rfl, ?_⟩
    refine ⟨_, rfl, rfl, _, rfl, ?_⟩
    rw [str_ne (by decide +kernel)]
    refine iteF ⟨_, rfl, rfl, _, rfl, ?_⟩
    rw [str_ne (by decide +kernel)]
    refine iteF ⟨_, rfl, rfl, _, rfl, ?_⟩
    rw [str_ne (by decide +kernel)]
    refine iteF ⟨_, rfl, rfl, _, rfl, ?_⟩
    rw [str_ne (by decide +kernel)]
    refine iteF ⟨_, rfl, rfl, _, rfl, ?_⟩
    rw [str_ne (by decide +kernel)]
    refine iteF ⟨_, rfl, rfl, _, rfl, ?_⟩
    rw [str_ne (by decide +kernel)]
    refine iteF ⟨_, rfl, rfl, _, rfl, ?_⟩
    rw [decide_eq_true (rfl : V.str (Str.ofString "echo") = V.str (Str.ofString "echo"))]
    refine iteT ?_
    refine ⟨_, rfl, (by show 2 ≤ sizeLine; decide), fun t1 h1 => ⟨(by show 1 ≤ sizeLine; decide), fun l2 h2 => ?_⟩⟩
    have a1 := same_new (o := .tup [.int 0, .int 1]) h1
    have a2 := same_new (o := .lst [.ref t1]) h2
    have s2 := a1.trans a2
    have u1 : TupAt _ t1 (0, 1) := a2 _ _ (upd_same (H := H) (a := t1) (o := .tup [.int 0, .int 1]))
    have u2 : (upd (upd H t1 (.tup [.int 0, .int 1])) l2 (.lst [.ref t1])) l2 = some (.lst [.ref t1]) := upd_same
    generalize upd (upd H t1 (.tup [.int 0, .int 1])) l2 (.lst [.ref t1]) = H2 at s2 u1 u2 ⊢
    obtain ⟨N, hN⟩ : ∃ N : Nat, N = (if t then d else 0) := ⟨_, rfl⟩
    have eN : (d : Int) * (if t = true then 1 else 0) = ((N : Nat) : Int) := by
      rw [hN]
      cases t <;> simp
    have N60 : N ≤ 60 := by
      rw [hN]
      split <;> omega
    refine ⟨_, rfl, tt, _, _, _, rfl, rfl, SqT.of (s2 _ _ et), rfl, _, rfl, tt, _, _, _, rfl, rfl, SqT.of (s2 _ _ et), rfl, .inr ⟨t, rfl, _, _, rfl, rfl, .inl ⟨by omega, by omega⟩, ?_⟩⟩
    refine ⟨l2, N, _, rfl, congrArg V.int eN, u2, by omega, by omega, (by show 1 * _ ≤ sizeLine; rw [sizeLine_eq]; omega), fun l3 h3 => ?_⟩
    have eF : (List.replicate (Int.toNat (N : Nat)) [V.ref t1]).flatten = List.replicate N (V.ref t1) := by
      rw [Int.toNat_natCast]
      exact List.flatten_replicate_singleton
    have a3 := same_new (o := .lst (List.replicate (Int.toNat (N : Nat)) [V.ref t1]).flatten) h3
    have s3 := s2.trans a3
    refine ⟨l, l3, _, _, rfl, rfl, s3 _ _ el, upd_same, (by rw [eF, List.length_replicate, lz, sizeLine_eq]; omega), fun l4 h4 => ?_⟩
    have a4 := same_new (o := .lst (zs ++ (List.replicate (Int.toNat (N : Nat)) [V.ref t1]).flatten)) h4
    have s4 := s3.trans a4
    have w4 : TupL (upd (upd H2 l3 (.lst (List.replicate (Int.toNat (N : Nat)) [V.ref t1]).flatten)) l4 (.lst (zs ++ (List.replicate (Int.toNat (N : Nat)) [V.ref t1]).flatten))) l4 (longL d t rs) := by
      refine ⟨_, upd_same, ?_⟩
      rw [eF]
      have r5 := (r.same s4).app ((Tups.rep (n := N) u1).same (a3.trans a4))
      rw [eF] at r5
      unfold longL
      rw [← hN]
      exact r5
    generalize upd (upd H2 l3 (.lst (List.replicate (Int.toNat (N : Nat)) [V.ref t1]).flatten)) l4 (.lst (zs ++ (List.replicate (Int.toNat (N : Nat)) [V.ref t1]).flatten)) = H4 at s4 w4 ⊢
    obtain ⟨Z, eZ, rZ⟩ := id w4
    have lZ : Z.length = lenE d t rs.length := by rw [rZ.1, longL_len]
    have le : lenE d t rs.length ≤ 600 := by
      unfold lenE
      split <;> omega
    refine ⟨_, rfl, ?_⟩
    refine ⟨_, rfl, _, _, rfl, .inl ⟨_, SqL.of eZ, rfl⟩, _, rfl, tt, _, _, _, rfl, rfl, SqT.of (s4 _ _ et), rfl, _, _, rfl, rfl, _, _, rfl, ?_⟩
    have eM : (if (Z.length : Int) - (d : Int) > 0 then (Z.length : Int) - (d : Int) else 0) = ((lenE d t rs.length - d : Nat) : Int) := by
      split <;> omega
    refine ⟨_, congrArg V.int eM, l4, Z, rfl, SqL.of eZ, fun l5 h5 => ?_⟩
    rw [cut_to]
    have a5 := same_new (o := .lst (Z.take (lenE d t rs.length - d))) h5
    have s5 := s4.trans a5
    have w5 : TupL (upd H4 l5 (.lst (Z.take (lenE d t rs.length - d)))) l5 ((longL d t rs).take (lenE d t rs.length - d)) := ⟨_, upd_same, (rZ.same a5).take _⟩
    have w45 := w4.same a5
    generalize upd H4 l5 (.lst (Z.take (lenE d t rs.length - d))) = H5 at s5 w5 w45 ⊢
    have bL : ∀ r ∈ longL d t rs, Bd k r := fun r hr => by
      rcases List.mem_append.mp hr with h | h
      · exact bd r h
      · rw [(List.mem_replicate.mp h).2]
        exact Bd.zero k0
    refine ⟨_, rfl, tt, _, _, _, rfl, rfl, SqT.of (s5 _ _ et), rfl, l5, p, _, s, rfl, w5, s5 _ _ tp, bs, (by rw [List.length_take]; omega), fun r hr => (bL r (List.mem_of_mem_take hr)).le (by omega), fun m H6 tm s6 => ?_⟩
    obtain ⟨Z6, eZ6, rZ6⟩ := w45.same s6
    have s06 := s5.trans s6
    have l6 : Z6.length = lenE d t rs.length := by rw [rZ6.1, longL_len]
    refine ⟨_, rfl, _, rfl, tt, _, _, _, rfl, rfl, SqT.of (s06 _ _ et), rfl, _, rfl, _, _, rfl, .inl ⟨_, SqL.of eZ6, rfl⟩, _, _, rfl, ?_⟩
    have eB : (if (Z6.length : Int) < (d : Int) then (Z6.length : Int) else (d : Int)) = ((min d (lenE d t rs.length) : Nat) : Int) := by
      split <;> omega
    have lS : (((longL d t rs).take (lenE d t rs.length - d)).map fun r => rMul r s).length = lenE d t rs.length - d := by
      rw [List.length_map, List.length_take, longL_len]
      omega
    refine ⟨_, rfl, l4, m, min d (lenE d t rs.length), longL d t rs, _, congrArg (fun z => [V.ref l4, V.int z, V.ref m]) eB, ⟨Z6, eZ6, rZ6⟩, tm, ?_, ?_, fun r hr => (bL r hr).le (by omega), fun r hr => ?_, fun q H7 tq s7 => ?_⟩
    · rw [lS, longL_len]
      omega
    · rw [longL_len]
      omega
    · obtain ⟨x, hx, rfl⟩ := List.mem_map.mp hr
      exact ((bL x (List.mem_of_mem_take hx)).mul bs).le (by omega)
    · rw [lS, over_echo] at tq
      exact kk q H7 tq (s06.trans s7)
end
end My
/-! A lambda with parameters and names of its own, handed to a def behind other arguments, called there. -/
namespace LamP
open PySem PySem.Spec PyProof.Rows L2 LamX
/-! ### its names -/
structure LamN (sc scope : Scope) (N ps ls : List Str) : Prop where
  kind : scope.kind = .function
  co : scope.isCoroutine = false
  gen : scope.isGenerator = false
  cell : ∀ y ∈ scope.names, y.2 ≠ .cell
  loc : ∀ y ∈ scope.names, y.2 = .local → y.1 ∈ ps ++ ls
  par : ∀ y ∈ ps, scope.names.lookup y = some .local
  fresh : ∀ y ∈ ps ++ ls, y ∉ N
  nd : (ps ++ ls).Nodup
  free : ∀ y ∈ scope.names, y.2 = .free → sc.names.lookup y.1 = some .cell ∨ sc.names.lookup y.1 = some .free
def lamNB (sc scope : Scope) (N ps ls : List Str) : Bool :=
  decide (scope.kind = .function) && !scope.isCoroutine && !scope.isGenerator && scope.names.all (fun y => !decide (y.2 = .cell)) && scope.names.all (fun y => !decide (y.2 = .local) || decide (y.1 ∈ ps ++ ls)) && ps.all (fun y => decide (scope.names.lookup y = some .local)) &&
    (ps ++ ls).all (fun y => decide (y ∉ N)) && decide (ps ++ ls).Nodup && scope.names.all (fun y => !decide (y.2 = .free) || decide (sc.names.lookup y.1 = some .cell) || decide (sc.names.lookup y.1 = some .free))
theorem lamN_by {sc scope : Scope} {N ps ls : List Str} (h : lamNB sc scope N ps ls = true) : LamN sc scope N ps ls := by
  unfold lamNB at h
  simp only [Bool.and_eq_true, Bool.or_eq_true, Bool.not_eq_true', decide_eq_true_eq, decide_eq_false_iff_not, List.all_eq_true] at h
  obtain ⟨⟨⟨⟨⟨⟨⟨⟨h1, h2⟩, h3⟩, h4⟩, h5⟩, h6⟩, h7⟩, h8⟩, h9⟩ := h
  refine ⟨h1, h2, h3, h4, fun y hy e => (h5 y hy).elim (fun z => absurd e z) id, h6, h7, h8, fun y hy e => ?_⟩
  rcases h9 y hy with (z | z) | z
  · exact absurd e z
  · exact .inl z
  · exact .inr z
theorem LamN.has {X : Cx} {scope : Scope} {N ps ls : List Str} (L : LamN X.env.scope scope N ps ls) (ok : X.Ok) : ∀ y ∈ scope.names, y.2 = .free → ∃ c, X.env.cells.lookup y.1 = some c := fun y hy e => by
  rcases L.free y hy e with k | k
  · exact ok.has _ (.inl k)
  · exact ok.has _ (.inr k)
/-- the context of the lambda's body, entered at s from the frames outer -/
def lamCxP (X : Cx) (A : Around) (outer : List Env) (s : Shared) (H : Hp) (E : XK) (scope : Scope) (f c' : Addr) (own : List Str) : Cx where
  prog := X.prog
  w := X.w
  K := X.K
  mg := X.mg
  base := X.base
  A := A.deeper (lamEnv X scope s.heap.objs.size f c')
  N := X.N ++ own
  s_0 := s
  H_0 := H
  env := lamEnv X scope s.heap.objs.size f c'
  outer := outer
  stack := lamEnv X scope s.heap.objs.size f c' :: outer
  ex := []
  fn := fun _ => false
  calm := true
  pn := []
  xe := fun e s' => wpAny (model X.prog X.w) (A.deeper (lamEnv X scope s.heap.objs.size f c')) (leaving (lamEnv X scope s.heap.objs.size f c') e) (fun _ s'' => L2.CX X.prog X.w outer H s E e s'') (fun e' s'' => L2.CX X.prog X.w outer H s E e' s'') s'
/-- the values at its entry: the maker's, the arguments, none yet of its own -/
def lamSt (σ : L2.St) (vs : List V) (ls : List Str) : L2.St := σ ++ (vs.map some ++ List.replicate ls.length none)
section
variable {X : Cx} {pins : List (Addr × Obj)} {σ : L2.St} {H HZ : Hp} {s s1 : Shared} {ps ls : List Str} {vs : List V} {us : List Value}
theorem lam_startP {A : Around} {outer : List Env} {E : XK} {scope : Scope} {f c' : Addr} {h₁ : Heap} {tk : Nat} (I : Inv X pins σ H s) (L : LamN X.env.scope scope X.N ps ls) (e0 : Env0 X.prog X.w X.K X.mg X.base A outer s1 HZ) (hd : A.handled = none)
    (un : Un (frs X.stack) [] H HZ s.heap s1.heap) (hl : vs.length = ps.length) (r : Vals vs us) (hns : h₁.Ns s1.heap.objs.size fun y => (ps.zip us).reverse.lookup y) (kp : ∀ b o, s1.heap.get? b = some o → h₁.get? b = some o) :
    Inv (lamCxP X A outer s1 HZ E scope f c' (ps ++ ls)) [] (lamSt σ vs ls) HZ { s1 with heap := h₁, toks := tk } := by
  have hfree := L.has I.ok
  have cm : ∀ {y c}, (cloFrom X.env.cells scope.names []).lookup y = some c → X.env.cells.lookup y = some c := fun {y c} e => by
    rcases cloFrom_mem (PySem.mem_of_lookup e) with hm | ⟨h1, h2⟩
    · cases hm
    · obtain ⟨c1, hc⟩ := hfree _ h1 rfl
      have hc : X.env.cells.lookup y = some c1 := hc
      have e2 : c = c1 := by
        rw [h2, hc] <;> rfl
      rw [e2]
      exact hc
  have look : ∀ {y}, scope.names.lookup y = some .free → ∃ c, (cloFrom X.env.cells scope.names []).lookup y = some c := fun {y} hl => by
    have hy : (y, NameKind.free) ∈ scope.names := PySem.mem_of_lookup hl
    exact mem_lookup (cloFrom_has (cells := X.env.cells) (acc := []) hy)
  have cellK : ∀ {c : Addr} {v : Option Value}, H c = none → s.heap.IsCell c v → h₁.IsCell c v := fun {c v} n ⟨o, ho, hd⟩ => by
    obtain ⟨sl, q⟩ := un.any ho n (by simp)
    exact ⟨_, kp _ _ q, hd⟩
  have noA : ∀ b : Addr, b ∉ (lamCxP X A outer s1 HZ E scope f c' (ps ++ ls)).ex := fun b z => absurd (show b ∈ ([] : List Addr) from z) (by simp)
  refine ⟨⟨e0.mod, L.kind, rfl, rfl, Nat.le_refl _, fun y z c e1 e2 => I.ok.inj y z c (cm e1) (cm e2), fun y hy => ?_, fun y c z _ => ?_, fun _ => hd, Around.frames_deeper e0.frames, .inr ⟨rfl, rfl⟩, fun b z => absurd z (noA b), e0.bs, e0.bsz, fun b _ _ => noA b,
      fun b z => absurd z (noA b), e0.funs, e0.frf⟩,
    rfl, e0.bare, Un.kept kp, ⟨_, hns, fun i y v e1 e2 e3 => ?_⟩, fun y c e => ?_, e0.hok.fresh (Nat.le_refl _), fun y c e => ?_, fun q hq => absurd (show q ∈ ([] : List (Addr × Obj)) ++ [] from hq) (by simp), e0.hok.kept kp, ?_⟩
  · have hy : scope.names.lookup y = some .cell ∨ scope.names.lookup y = some .free := hy
    rcases hy with hy | hy
    · exact absurd rfl (L.cell _ (PySem.mem_of_lookup hy))
    · exact look hy
  · have z : false = true := z
    cases z
  · have e3 : Vis scope y := e3
    have e1 : (X.N ++ (ps ++ ls))[i]? = some y := e1
    have lenN := I.len
    unfold lamSt at e2
    by_cases hi : i < X.N.length
    · rw [List.getElem?_append_left hi] at e1
      rw [List.getElem?_append_left (by omega)] at e2
      rcases e3 with k | k | k
      · exact absurd (List.mem_of_getElem? e1) (L.fresh _ (L.loc _ (PySem.mem_of_lookup k) rfl))
      · exact absurd rfl (L.cell _ (PySem.mem_of_lookup k))
      · obtain ⟨m, hn, hl⟩ := I.loc
        have hvis : Vis X.env.scope y := (L.free _ (PySem.mem_of_lookup k) rfl).elim (fun k => .inr (.inl k)) (fun k => .inr (.inr k))
        obtain ⟨w', r, q⟩ := hl i y v e1 e2 hvis
        obtain ⟨c2, h2⟩ := look k
        refine ⟨w', r, .inr ⟨.inr k, c2, h2, ?_⟩⟩
        have c1 := cm h2
        rcases q with ⟨k', _⟩ | ⟨_, c3, e', z⟩
        · have k' : X.env.scope.names.lookup y = some .local := k'
          rcases L.free _ (PySem.mem_of_lookup k) rfl with k2 | k2 <;> rw [show X.env.scope.names.lookup y = _ from k2] at k' <;> cases k'
        · rw [c1] at e'
          cases e'
          exact cellK (I.freeC y _ c1) z
    · rw [List.getElem?_append_right (by omega)] at e1
      rw [List.getElem?_append_right (by omega), lenN] at e2
      by_cases h1 : i - X.N.length < ps.length
      · rw [List.getElem?_append_left h1] at e1
        rw [List.getElem?_append_left (by rw [List.length_map]; omega), List.getElem?_map] at e2
        have ha : vs[i - X.N.length]? = some v := by
          cases e : vs[i - X.N.length]? with
          | none => rw [e] at e2; cases e2
          | some a => rw [e] at e2; cases e2; rfl
        obtain ⟨u, hu, rv⟩ := r.get ha
        exact ⟨u, rv, .inl ⟨L.par y (List.mem_of_getElem? e1), NdefX.zip_look (List.nodup_append.mp L.nd).1 e1 hu⟩⟩
      · rw [List.getElem?_append_right (by rw [List.length_map]; omega), List.getElem?_replicate] at e2
        split at e2 <;> cases e2
  · obtain ⟨w', z⟩ := I.cell y c (cm e)
    exact ⟨w', cellK (I.freeC y c (cm e)) z⟩
  · obtain ⟨v, o, ho, hd⟩ := I.cell y c (cm e)
    exact un.free c o ho (I.freeC y c (cm e)) (by simp)
  · have lenN := I.len
    unfold lamSt
    show _ = (X.N ++ (ps ++ ls)).length
    rw [List.length_append, List.length_append, List.length_map, List.length_replicate, List.length_append, List.length_append]
    omega
/-- a(e, ..), in the def that got the lambda: Z is that def's context, entered at s -/
theorem pe_actP {CXg : CXT} {Eg : XK} {Ng : List Str} {qg : Str} {sg : Scope} {g f c' : Addr} {cdg pm ctv : Value} {params : Arguments} {body : Expr} {scope : Scope} {k i : Nat} {a : Str} {pn : List (Addr × Obj)} {xe : Value → Shared → Prop} {W : WX} {E : XK} {tb : TE} {p1 p2 : Pos} {e : Expr} {es : List Expr} {ta : TA}
    (I : Inv X pins σ H s) (L : LamN X.env.scope scope X.N ps ls) (hf : s.heap.get? f = some (PySem.W.kla_obj "<lambda>" (X.env.qual ++ "<lambda>") params body scope (cloFrom X.env.cells scope.names []) pm c' ctv)) (hfn : H f = none) (hfr : f ∉ frs X.stack)
    (hbind : ∀ us : List Value, us.length = ps.length → bindArgs (PySem.W.kla_fn "<lambda>" (X.env.qual ++ "<lambda>") params body scope (cloFrom X.env.cells scope.names []) pm (.ref c') ctv) ⟨us, []⟩ = pure (ps.zip us))
    (tk : Takes ((cxOf CXg X.prog X.w X.K X.mg X.base Ng qg sg g cdg X.A X.stack s H Eg).tr pn xe) W) (hW : ∀ cls d σ' H', E cls d H' → W cls d σ' H') (hr : Room (k + 1) (X.A.deeper (envOfC qg sg s.heap.objs.size g cdg)))
    (hbody : ∀ (A : Around) (outer : List Env) (s : Shared) (H : Hp), Room k (A.deeper (lamEnv X scope s.heap.objs.size f c')) → PE (lamCxP X A outer s H E scope f c' (ps ++ ls)) body tb)
    (hN : Ng[i]? = some a) (hv : Vis sg a) (ha : PA ((cxOf CXg X.prog X.w X.K X.mg X.base Ng qg sg g cdg X.A X.stack s H Eg).tr pn xe) (e :: es) ta) (hd : (a == ("__debug__" : Str)) = false) (hcd : (a == ("__classdict__" : Str)) = false)
    (he : starEach (e :: es) ((cxOf CXg X.prog X.w X.K X.mg X.base Ng qg sg g cdg X.A X.stack s H Eg).tr pn xe).env = (false, eval e ((cxOf CXg X.prog X.w X.K X.mg X.base Ng qg sg g cdg X.A X.stack s H Eg).tr pn xe).env) :: starEach es ((cxOf CXg X.prog X.w X.K X.mg X.base Ng qg sg g cdg X.A X.stack s H Eg).tr pn xe).env)
    (hpl : (backTo p2 (starEach es ((cxOf CXg X.prog X.w X.K X.mg X.base Ng qg sg g cdg X.A X.stack s H Eg).tr pn xe).env)).any (·.1) = false) :
    PE ((cxOf CXg X.prog X.w X.K X.mg X.base Ng qg sg g cdg X.A X.stack s H Eg).tr pn xe) (.Call (.Name a p1) (e :: es) [] p2)
      (fun σZ HZ Q => σZ[i]? = some (some (.ref f)) ∧ ta σZ HZ fun vs H2 => H2 c' = some (CodeO c' (X.env.qual ++ "<lambda>")) ∧ vs.length = ps.length ∧ tb (lamSt σ vs ls) H2 Q) := by
  refine ⟨fun pinsZ sZ σZ HZ Q IZ h => ?_⟩
  obtain ⟨hs, ht⟩ := h
  refine wpAny_Call_Name_kw (thn ((pe_var (pos := p1) (i := i) hN hv hd hcd).run pinsZ sZ σZ HZ (fun v H1 => v = .ref f ∧ H1 = HZ) IZ ⟨.ref f, hs, rfl, rfl⟩) fun u s1 ⟨v, H1, I1, r1, q1⟩ => ?_)
  obtain ⟨ev, eH⟩ := q1
  subst ev
  rw [eH] at I1
  obtain rfl : u = Value.ref f := r1
  have of1 : ∀ {pz : List (Addr × Obj)} {σ' : L2.St} {H' : Hp} {s' : Shared}, Inv ((cxOf CXg X.prog X.w X.K X.mg X.base Ng qg sg g cdg X.A X.stack s H Eg).tr pn xe) pz σ' H' s' → s'.heap.get? f = some (PySem.W.kla_obj "<lambda>" (X.env.qual ++ "<lambda>") params body scope (cloFrom X.env.cells scope.names []) pm c' ctv) := fun I1 =>
    I1.base.keep f _ hf hfn hfr (fun z => nomatch (show f ∈ ([] : List Addr) from z))
  refine PySem.W.callWith_F (first := []) ⟨_, _, _, _, of1 I1⟩ (thn (ha.run p2 pinsZ s1 σZ HZ _ I1 ht) fun us s2 ⟨vs, H2, I2, r2, hc, hl, hq⟩ => ⟨⟨_, _, _, _, of1 I2⟩, ?_⟩) he hpl
  show wpAny _ _ (call (.ref f) us) _ _ _
  have un : Un (frs X.stack) [] H H2 s.heap s2.heap := I2.base
  obtain ⟨⟨oc, vs', t, hoc, hdc, hvc⟩, _, _⟩ := I2.hok c' _ hc
  have hul : us.length = ps.length := by rw [← r2.length]; exact hl
  have rc : codeAny (model X.prog X.w) (X.A.deeper (envOfC qg sg s.heap.objs.size g cdg)) (.call (.ref f) ⟨us, []⟩) (CR (L2.CX X.prog X.w) (envOfC qg sg s.heap.objs.size g cdg :: X.stack) X.prog X.w H2 s2 Q E) s2 := by
    refine PySem.W.kla_callFunE hr.depth (of1 I2) rfl L.co L.gen rfl ⟨c', oc, vs', t, rfl, hoc, hdc, hvc⟩ ?_
    rw [hbind us hul]
    refine wpAny_pure (wpAny_newFunctionEnv L.cell (fun ⟨n, _⟩ hy => L.par n (List.of_mem_zip hy).1) (fun h₁ hns hsb => ⟨I2.nolimit.fresh _ hsb, ?_⟩) L.kind)
    show codeAny _ _ (.expr body (lamEnv X scope s2.heap.objs.size f c')) _ _
    have kp : ∀ b o, s2.heap.get? b = some o → h₁.get? b = some o := fun b o e => hsb.extBut b o (Nat.ne_of_lt (Heap.lt_size e)) (Heap.get?_push_of_some _ e)
    have J : Inv (lamCxP X (X.A.deeper (envOfC qg sg s.heap.objs.size g cdg)) (envOfC qg sg s.heap.objs.size g cdg :: X.stack) s2 H2 E scope f c' (ps ++ ls)) [] (lamSt σ vs ls) H2 { s2 with heap := h₁, toks := s2.toks + (ps.zip us).length } :=
      lam_startP I L I2.env0 hr.hd un hl r2 hns kp
    refine PySem.W.kla_codeExpr (wpAny_mono ((hbody _ _ s2 H2 (hr.deeper _)).run [] _ _ H2 Q J hq) (fun v s' hq => ?_) fun e s' hq => hq)
    obtain ⟨w', H', J', rv, q⟩ := hq
    exact ⟨w', H', J'.os, J'.bare, J'.base, J'.hok, rv, q⟩
  have hx : Passes (L2.CX X.prog X.w) ((cxOf CXg X.prog X.w X.K X.mg X.base Ng qg sg g cdg X.A X.stack s H Eg).tr pn xe) E := passes_call tk hW
  refine wpAny_call (codeAny_mono rc fun r s' hq => ?_)
  cases r with
  | error e => exact hx pinsZ σZ H2 s2 e s' I2 hq
  | ok fl =>
    cases fl with
    | ret u => exact I2.after hq
    | next => exact False.elim hq
    | brk => exact False.elim hq
    | cont => exact False.elim hq
end
/-- the def that calls what it got as its i-th argument, behind ws; np arguments -/
def GivesToP (X : Cx) (Ng : List Str) (x : Str) (sg : Scope) (g : Addr) (cdg : Value) (bg : List Stmt) (a : Str) (i : Nat) (q : Str) (np : Nat) (TT : List V → (XK → List V → Hp → VK → Prop) → Hp → VK → Prop) : Prop :=
  ∀ (f c' : Addr) (s : Shared) (H : Hp) (Q : VK) (ws : List V) (tl : XK → List V → Hp → VK → Prop),
    (∀ (W : WX) (pn : List (Addr × Obj)) (xe : Value → Shared → Prop) (E : XK) (p1 p2 : Pos) (e : Expr) (es : List Expr) (ta : TA), Takes ((cxOf C8.CX0 X.prog X.w X.K X.mg X.base Ng x sg g cdg X.A X.stack s H C8.E0).tr pn xe) W → (∀ cls d σ' H', E cls d H' → W cls d σ' H') →
      PA ((cxOf C8.CX0 X.prog X.w X.K X.mg X.base Ng x sg g cdg X.A X.stack s H C8.E0).tr pn xe) (e :: es) ta →
      starEach (e :: es) ((cxOf C8.CX0 X.prog X.w X.K X.mg X.base Ng x sg g cdg X.A X.stack s H C8.E0).tr pn xe).env = (false, eval e ((cxOf C8.CX0 X.prog X.w X.K X.mg X.base Ng x sg g cdg X.A X.stack s H C8.E0).tr pn xe).env) :: starEach es ((cxOf C8.CX0 X.prog X.w X.K X.mg X.base Ng x sg g cdg X.A X.stack s H C8.E0).tr pn xe).env →
      (backTo p2 (starEach es ((cxOf C8.CX0 X.prog X.w X.K X.mg X.base Ng x sg g cdg X.A X.stack s H C8.E0).tr pn xe).env)).any (·.1) = false →
      PE ((cxOf C8.CX0 X.prog X.w X.K X.mg X.base Ng x sg g cdg X.A X.stack s H C8.E0).tr pn xe) (.Call (.Name a p1) (e :: es) [] p2) (fun σZ HZ Q => σZ[i]? = some (some (.ref f)) ∧ ta σZ HZ fun vs H2 => H2 c' = some (CodeO c' q) ∧ vs.length = np ∧ tl E vs H2 Q)) →
    H c' = some (CodeO c' q) → TT ws tl H Q →
    ∃ t, PSs (cxOf C8.CX0 X.prog X.w X.K X.mg X.base Ng x sg g cdg X.A X.stack s H C8.E0).nox bg t ∧ t { nx := fun _ H' => Q .non H', rt := Q } (L2.start Ng (ws ++ [.ref f])) H
def tLamP3 (T : List (Addr × Str)) (TT : List V → (XK → List V → Hp → VK → Prop) → Hp → VK → Prop) (ls : List Str) (t1 t2 t3 : TE) (t : XK → TE) : TE := fun σ H Q => t1 σ H fun v1 H1 => t2 σ H1 fun v2 H2 => t3 σ H2 fun v3 H3 =>
  Tabs T H3 ∧ ∀ H4, ExtN H3 H4 → Tabs T H4 → TT [v1, v2, v3] (fun E vs H' Q' => t E (lamSt σ vs ls) H' Q') H4 Q
section
variable {X : Cx}
theorem lam_makeP {pins : List (Addr × Obj)} {σ : L2.St} {H : Hp} {s : Shared} {T : List (Addr × Str)} {c P : Addr} {params : Arguments} {body : Expr} {scope : Scope} {pos : Pos} {ps ls : List Str} {E : Value → Shared → Prop} {Q : Value → Shared → Prop} (I : Inv X pins σ H s) (L : LamN X.env.scope scope X.N ps ls) (TB : TabB X.base X.mg c P) (hcode : X.env.code = .ref c)
    (hm : (P, X.env.qual ++ "<lambda>") ∈ T) (hu : ∀ p ∈ T, p.1 = P → p.2 = X.env.qual ++ "<lambda>") (hT : Tabs T H) (hdef : defaultsOf params X.env = ([], []))
    (h : ∀ (f c' : Addr) (pm ctv : Value) (H1 : Hp) (s' : Shared), Inv X pins σ H1 s' → ExtN H H1 → Tabs T H1 →
      s'.heap.get? f = some (PySem.W.kla_obj "<lambda>" (X.env.qual ++ "<lambda>") params body scope (cloFrom X.env.cells scope.names []) pm c' ctv) → H1 f = none → f ∉ frs X.stack → H1 c' = some (CodeO c' (X.env.qual ++ "<lambda>")) → Q (.ref f) s') :
    wpAny (model X.prog X.w) X.A (eval (.Lambda params body scope pos) X.env) Q E s := lam_make2 I TB hcode hm hu hT hdef (L.has I.ok) h
/-- x(e1, e2, e3, lambda ..: body) -/
theorem pe_lamcallP3 {T : List (Addr × Str)} {TT : List V → (XK → List V → Hp → VK → Prop) → Hp → VK → Prop} {x a : Str} {g c P : Addr} {k : Nat} {pg : Arguments} {bg : List Stmt} {sg : Scope} {dV kV doc pm cdv ct oc : Value} {an od : Option Addr} {osl : Array (Option Value)} {Ng qs : List Str}
    {params : Arguments} {body : Expr} {scope : Scope} {ps ls : List Str} {t : XK → TE} {p lpos pos : Pos} {e1 e2 e3 : Expr} {t1 t2 t3 : TE} (h1 : PE X e1 t1) (h2 : PE X e2 t2) (h3 : PE X e3 t3) (hg : Gl X x) (hm : X.mg x = some (.ref g)) (hk : PySem.W.keepIn X.K (.ref g) = true)
    (lk : X.K.lookup g = some ⟨oc, od, .func (PySem.W.fnOf x x pg bg sg dV kV doc pm an cdv ct), osl⟩) (hcg : PySem.W.codeIn X.K cdv x = true) (hb : L2.Binds X.K (PySem.W.fnOf x x pg bg sg dV kV doc pm an cdv ct) (qs ++ [a]) []) (hq : qs.length = 3) (Sg : FnScope Ng (qs ++ [a]) sg) (hNg : Ng[3]? = some a) (hva : Vis sg a)
    (hG : GivesToP X Ng x sg g cdv bg a 3 (X.env.qual ++ "<lambda>") ps.length TT)
    (TB : TabB X.base X.mg c P) (hcode : X.env.code = .ref c) (hmT : (P, X.env.qual ++ "<lambda>") ∈ T) (hu : ∀ p ∈ T, p.1 = P → p.2 = X.env.qual ++ "<lambda>") (hr : Room (k + 2) X.A) (L : LamN X.env.scope scope X.N ps ls) (hdef : defaultsOf params X.env = ([], []))
    (hbind : ∀ (q : Str) (cl : List (Str × Addr)) (pm cv ctv : Value) (us : List Value), us.length = ps.length → bindArgs (PySem.W.kla_fn "<lambda>" q params body scope cl pm cv ctv) ⟨us, []⟩ = pure (ps.zip us))
    (hbody : ∀ (A : Around) (outer : List Env) (s : Shared) (H : Hp) (E : XK) (f c' : Addr), Room k (A.deeper (lamEnv X scope s.heap.objs.size f c')) → PE (lamCxP X A outer s H E scope f c' (ps ++ ls)) body (t E))
    (hs : starEach [e1, e2, e3, .Lambda params body scope lpos] X.env = (false, eval e1 X.env) :: starEach [e2, e3, .Lambda params body scope lpos] X.env := by rfl) (hs2 : starEach [e2, e3, .Lambda params body scope lpos] X.env = [(false, eval e2 X.env), (false, eval e3 X.env), (false, eval (.Lambda params body scope lpos) X.env)] := by rfl)
    (hdb : (x == ("__debug__" : Str)) = false := by decide) (hd : (a == ("__debug__" : Str)) = false := by decide) (hcd : (a == ("__classdict__" : Str)) = false := by decide) :
    PE X (.Call (.Name x p) [e1, e2, e3, .Lambda params body scope lpos] [] pos) (tLamP3 T TT ls t1 t2 t3 t) := by
  refine ⟨fun pins s σ H Q I h => ?_⟩
  refine wpAny_Call_Name_kw (ld_glob I hg hm ?_ hdb)
  refine PySem.W.callWith_K (h₀ := X.base) I.ok.mod.kin hk ?_ hs (by rw [hs2]; rfl)
  rw [hs, hs2]
  show wpAny _ _ (spliced [(false, eval e1 X.env), (false, eval e2 X.env), (false, eval e3 X.env), (false, eval (.Lambda params body scope lpos) X.env)]) _ _ s
  refine Calls.spliced_cons (thn (h1.run pins s σ H _ I h) fun u1 s1 ⟨v1, H1, I1, r1, q1⟩ => ?_)
  refine Calls.spliced_cons (thn (h2.run pins s1 σ H1 _ I1 q1) fun u2 s2 ⟨v2, H2, I2, r2, q2⟩ => ?_)
  refine Calls.spliced_cons (thn (h3.run pins s2 σ H2 _ I2 q2) fun u3 s3 ⟨v3, H3, I3, r3, hT, q3⟩ => ?_)
  refine Calls.spliced_cons (lam_makeP I3 L TB hcode hmT hu hT hdef fun f c' pm' ctv H4 s' I4 eN T4 hf hfn hfr hco => ?_)
  refine Calls.spliced_nil ⟨I4.kIn, ?_⟩
  have lq : ([v1, v2, v3, V.ref f] : List V).length = (qs ++ [a]).length := by rw [List.length_append, hq]; rfl
  have rc : codeAny (model X.prog X.w) X.A (.call (.ref g) ⟨[u1, u2, u3, .ref f], []⟩) (CR C8.CX0 X.stack X.prog X.w H4 s' Q C8.E0) s' := by
    refine run_ofS (N := Ng) (ps := qs ++ [a]) (us := [u1, u2, u3, .ref f]) (vs := [v1, v2, v3, .ref f]) lk hcg Sg hr I4.env0 ?_ (.cons r1 (.cons r2 (.cons r3 (.cons rfl .nil)))) lq fun hr' => ?_
    · have z := hb s' [u1, u2, u3, .ref f] I4.kIn (by rw [List.append_nil, List.length_append, hq]; rfl)
      rw [List.append_nil] at z
      exact z
    obtain ⟨t', ht', hq'⟩ := hG f c' s' H4 Q [v1, v2, v3] (fun E vs H' Q' => t E (lamSt σ vs ls) H' Q') (fun W pn xe E p1 p2 e es ta tk hW ha he hpl => pe_actP (i := 3) I4 L hf hfn hfr (fun us hu => hbind _ _ _ _ _ us hu) tk hW hr' (fun A outer s H hr2 => hbody A outer s H E f c' hr2) hNg hva ha hd hcd he hpl) hco (q3 H4 eN T4)
    exact ⟨t', ht'.nox, hq'⟩
  refine wpAny_call (codeAny_mono rc fun r s2 hq => ?_)
  cases r with
  | error e => exact (show False from hq).elim
  | ok fl =>
    cases fl with
    | ret u => exact I4.after hq
    | next => exact False.elim hq
    | brk => exact False.elim hq
    | cont => exact False.elim hq
end
end LamP
set_option pp.maxSteps 1500
set_option pp.deepTerms.threshold 8
/-! ### led right -/
namespace My
open PySem PySem.Spec PyProof.Rows L2 GenW
abbrev s_ledR : Stmt := topS 60
theorem sc_ledR : FnScope ["_law_edit", "_law_clip_here", "_law_row", "_law_reckon", "_law_due", "_law_made", "_law_grown", "_law_stays"] ["_law_edit", "_law_clip_here", "_law_row", "_law_reckon"] (defScope s_ledR) := ⟨rfl, rfl, rfl, by decide +kernel, rfl, by decide +kernel, by decide +kernel⟩
/-- what led_right makes of an echo, a clip, a row, and of a reckoning that it is handed -/
def TLed (CE CC CR : Addr) : List V → (XK → List V → Hp → VK → Prop) → Hp → VK → Prop := fun ws tl H Q => ∃ (e c l : Addr) (d k : Nat) (s : Int × Int) (t : Bool) (rs : List (Int × Int)), ws = [.ref e, .ref c, .ref l] ∧ EchoAt CE CR H e d s t ∧ d ≤ 60 ∧ 1 ≤ d ∧ Bd 100 s ∧ ClipAt CC CR H c rs ∧ TupL H l rs ∧ rs.length ≤ 300 ∧ 7 ≤ k ∧ k ≤ 400 ∧ (∀ r ∈ rs, Bd k r) ∧
  (∀ (H' : Hp) (l' : Addr) (ss : List (Int × Int)) (Q' : VK), But c H H' → TupL H' l' ss → ss.length ≤ 300 → (∀ r ∈ ss, Bd k r) → (∀ (m : Addr) (H'' : Hp), TupL H'' m (echoL d s t ss) → H' m = none → Same H' H'' → Q' (.ref m) H'') → tl C8.E0 [.ref l'] H' Q') ∧
  ∀ H', ClipAt CC CR H' c rs → But c H H' → Q (.bl true) H'
theorem ClipAt.no {CC CR : Addr} {H : Hp} {c : Addr} {rs : List (Int × Int)} (h : ClipAt CC CR H c rs) : ∀ o, H c = some o → ∃ dx t, o = .ins CC dx (cfs t) := fun o e => by
  obtain ⟨t, zs, ⟨dx, e1⟩, _⟩ := h
  rw [e1] at e
  exact ⟨dx, t, (Option.some.inj e).symm⟩
theorem tup_ne {CC CR : Addr} {H : Hp} {c p : Addr} {rs : List (Int × Int)} {xs : List V} (h : ClipAt CC CR H c rs) (e : H p = some (.tup xs)) : p ≠ c := fun z => by
  rw [z] at e
  obtain ⟨dx, t, e2⟩ := h.no _ e
  cases e2
theorem lst_ne {CC CR : Addr} {H : Hp} {c p : Addr} {rs : List (Int × Int)} {xs : List V} (h : ClipAt CC CR H c rs) (e : H p = some (.lst xs)) : p ≠ c := fun z => by
  rw [z] at e
  obtain ⟨dx, t, e2⟩ := h.no _ e
  cases e2
theorem TupL.but {CC CR : Addr} {H H' : Hp} {c l : Addr} {rs ss : List (Int × Int)} (h : TupL H l ss) (hc : ClipAt CC CR H c rs) (u : But c H H') : TupL H' l ss := by
  obtain ⟨vs, e, r⟩ := h
  exact ⟨vs, u _ _ e (lst_ne hc e), r.1, fun i x ex => by obtain ⟨q, e1, e2⟩ := r.2 i x ex; exact ⟨q, e1, u _ _ e2 (tup_ne hc e2)⟩⟩
theorem cfs_ne_top {t : Addr} {n d : Int} : cfs t ≠ rfs n d := fun z => by
  have e := congrArg (List.lookup ("top" : Str)) z
  rw [rfs_top, cfs_no t (by decide)] at e
  cases e
theorem RatAt.butC {CC CR : Addr} {H H' : Hp} {c q : Addr} {rs : List (Int × Int)} {n d : Int} (h : RatAt CR H q n d) (hc : ClipAt CC CR H c rs) (u : But c H H') : RatAt CR H' q n d := by
  obtain ⟨dx, e⟩ := h
  refine ⟨dx, u _ _ e fun z => ?_⟩
  rw [z] at e
  obtain ⟨dy, t, e2⟩ := hc.no _ e
  injection e2 with e3 e4 e5
  exact cfs_ne_top e5.symm
theorem efs_ne_cfs {d : Int} {q t : Addr} {b : Bool} : efs d q b ≠ cfs t := fun z => by
  have e := congrArg (List.lookup ("delay" : Str)) z
  rw [efs_delay, cfs_no t (by decide)] at e
  cases e
theorem EchoAt.but {CE CC CR : Addr} {H H' : Hp} {c e : Addr} {rs : List (Int × Int)} {d : Nat} {s : Int × Int} {t : Bool} (h : EchoAt CE CR H e d s t) (hc : ClipAt CC CR H c rs) (u : But c H H') : EchoAt CE CR H' e d s t := by
  obtain ⟨dx, q, e1, e2⟩ := h
  refine ⟨dx, q, u _ _ e1 fun z => ?_, e2.butC hc u⟩
  rw [z] at e1
  obtain ⟨dy, t', e3⟩ := hc.no _ e1
  injection e3 with e4 e5 e6
  exact efs_ne_cfs e6
theorem ClipAt.but {CC CR : Addr} {H H' : Hp} {c m : Addr} {rs ss : List (Int × Int)} (h : ClipAt CC CR H m ss) (hc : ClipAt CC CR H c rs) (ne : m ≠ c) (u : But c H H') : ClipAt CC CR H' m ss := by
  obtain ⟨t, zs, ⟨dx, e1⟩, e2, r, l⟩ := h
  exact ⟨t, zs, ⟨dx, u _ _ e1 ne⟩, u _ _ e2 (tup_ne hc e2), ⟨r.1, fun i x ex => by obtain ⟨q, q1, q2⟩ := r.2 i x ex; exact ⟨q, q1, q2.butC hc u⟩⟩, l⟩
/-- an echo made -/
theorem echo_at {CE CR : Addr} {H : Hp} {x dx : Addr} {d : Nat} {v : V} {s : Int × Int} {t : Bool} {R : Hp → Prop} {E : XK} (d1 : 1 ≤ d) (d60 : d ≤ 60) (hv : NumAt CR H v s.1 s.2) (sh : ShOk s) (hx : H x = none) (hd : H dx = none) (ne : dx ≠ x) (k : ∀ H', EchoAt CE CR H' x d s t → Same H H' → R H') :
    spEchinit CE CR [.ref x, .int d, v, .bl t] (upd (upd H dx (.own x)) x (.ins CE dx [])) (fun v H2 => v = .non ∧ R H2) E := by
  have s0 : Same H (upd (upd H dx (.own x)) x (.ins CE dx [])) := fun b o e => by
    rw [upd_ne (ne_of_none e hx), upd_ne (ne_of_none e hd)]
    exact e
  refine ⟨x, dx, d, v, s, t, rfl, upd_same, by omega, by omega, hv.same s0, fun q e z => ?_, sh.1, sh.2.1, sh.2.2, fun q H' h1 h2 h3 => ⟨rfl, k H' ⟨dx, q, h1, h2⟩ fun c o e => h3 c o (s0 _ _ e) (ne_of_none e hx)⟩⟩
  rcases hv with ⟨p, ep, dp, ee⟩ | ⟨ei, _⟩
  · rw [ep] at e
    cases e
    rw [z, hx] at ee
    cases ee
  · rw [ei] at e
    cases e
/-- a clip of none made -/
theorem clip0_at {Cs : List Addr} {CR CC CS CM : Addr} (inn : CR ∈ Cs) {H : Hp} {x dx : Addr} {R : Hp → Prop} {E : XK} (hx : H x = none) (hd : H dx = none) (ne : dx ≠ x) (k : ∀ H', ClipAt CC CR H' x [] → Same H H' → R H') :
    spClip Cs CR CC CS CM [.ref x] (upd (upd H dx (.own x)) x (.ins CC dx [])) (fun v H2 => v = .non ∧ R H2) E := by
  obtain ⟨y, dy, xs, e1, e2, hl, ty, k0, kk, k2⟩ := clip_at (CS := CS) (CM := CM) (E := E) (R := fun c H' => c = x → R H') (clip_to inn (fun rs' z => Nums.eq Rats.nil.nums z) (Rats.nil (C := CR)).nums (by show 0 ≤ 2000; decide) fun c H' hc _ s e => k H' (e ▸ hc) s) hx hd ne
  exact ⟨y, dy, xs, e1, e2, hl, ty, k0, fun z rs e H' po kp => ⟨rfl, (kk z rs e H' po kp).2 rfl⟩, k2⟩
theorem row_one {H : Hp} {p l : Addr} {a b : Int} (hp : H p = some (.tup [.int a, .int b])) (hl : H l = some (.lst [.ref p])) : RowK H l [p] [(a, b)] :=
  ⟨hl, rfl, fun i q r e1 e2 => by
    match i with
    | 0 =>
      cases e1
      cases e2
      exact hp
    | i + 1 => simp at e1⟩
theorem Tups.drop {H : Hp} {vs : List V} {rs : List (Int × Int)} (h : Tups H vs rs) (n : Nat) : Tups H (vs.drop n) (rs.drop n) :=
  ⟨by rw [List.length_drop, List.length_drop, h.1], fun i r e => by
    rw [List.getElem?_drop] at e ⊢
    exact h.2 _ r e⟩
/-- a sample set -/
theorem cset_go {Cs : List Addr} {CR CC CP CS : Addr} (inn : CR ∈ Cs) {H : Hp} {p : Addr} {rs : List (Int × Int)} (hc : ClipAt CC CR H p rs) {i : Nat} (hi : i < rs.length) {u : V} {r : Int × Int} (hu : NumAt CR H u r.1 r.2) (lw : Lw r.1 r.2) (lg : r.2.natAbs.log2 < 9000) {Q : Hp → Prop} {E : XK} (k : ∀ H', ClipAt CC CR H' p (rs.set i r) → But p H H' → Q H') : rSetO CC (spCset Cs CC CR CP CS) E (.ref p) (.int (i : Int)) u H Q := by
  have hb : btw (.int (i : Int)) 0 ((rs.length : Int) - 1) = true := by
    rw [btw_val, decide_eq_true (by omega), decide_eq_true (by omega)]
    rfl
  obtain ⟨tt, zs, ⟨dc, ec⟩, e2, r', l2⟩ := id hc
  refine ⟨p, dc, _, rfl, ec, p, rs, .int (i : Int), u, true, rfl, hc, ⟨_, .int _⟩, rfl, IsNum.num hu, fun j ej hj a d hd => ?_, fun z => ?_, fun _ z => nomatch z⟩
  · have eij : i = j := by
      injection ej with e
      omega
    subst eij
    obtain ⟨ea, eb⟩ := NumAt.eq hu hd
    subst ea
    subst eb
    refine ⟨by have := lw.1; omega, lg, fun H' h1 h2 => k H' ?_ h2⟩
    rw [lw.low.1, lw.low.2] at h1
    exact h1
  · rw [hb] at z
    cases z
/-- led_right as it stands in the module -/
structure LedAt (K : PySem.W.Frag) (mg : Str → Option Value) : Prop where
  ex : ∃ g fd, Fun K "_law_led_right" "_law_led_right" s_ledR g fd ∧ mg "_law_led_right" = some (.ref g) ∧ L2.Binds K fd ["_law_edit", "_law_clip_here", "_law_row", "_law_reckon"] []
theorem ledR_gives {X : Cx} {Cs : List Addr} {CR CC CL fL CP fP CS fS CM fM CE CSt : Addr} {tM tF : Tok} (T : ETx X.prog X.K X.mg Cs CR CC CL fL CP fP CS fS CM fM CE CSt tM tF) (hrX : Room 15 X.A) (hgX : X.A.guards = some []) {g : Addr} {cdg : Value} {q : Str}
    (D_lis : DefG X.prog X.w X.K X.mg X.base CX0 5 "_law_is" ["_law_clip_here", "_law_row"] (spLis CC CR)) (C_Echo : CallAt X.prog X.w X.K X.mg X.base CX0 9 CE ["self", "clip"] (spEcall CE CC CR)) (M_Clip : MakeR X.prog X.w X.K X.mg X.base (L2.CX X.prog X.w) 6 "Clip" CC (spClip Cs CR CC CS CM))
    (X_do : MethAt X.prog X.w X.K X.mg X.base CX0 12 CC "do" ["self", "step"] (spDo CE CC CR)) (M_Echo3 : MakeAt X.prog X.w X.K X.mg X.base CX0 8 "Echo" CE ["self", "delay", "share", "tail"] (spEchinit CE CR) []) (M_Ratio : MakeAt X.prog X.w X.K X.mg X.base (L2.CX X.prog X.w) 3 "Ratio" CR ["self", "top", "bottom"] (spRinit CR) [])
    (I_cset : CmpAt X.prog X.w X.K X.mg X.base (L2.CX X.prog X.w) 6 CC "__setitem__" ["self", "at", "worth"] (spCset Cs CC CR CP CS)) (nq : PySem.W.noSeq X.K CC = true) :
    LamP.GivesToP X ["_law_edit", "_law_clip_here", "_law_row", "_law_reckon", "_law_due", "_law_made", "_law_grown", "_law_stays"] "_law_led_right" (defScope s_ledR) g cdg (defBody s_ledR) "_law_reckon" 3 q 1 (TLed CE CC CR) := by
  intro fv cc sh H Q ws tl act hcc h
  have hr : Room 14 (cxOf C8.CX0 X.prog X.w X.K X.mg X.base ["_law_edit", "_law_clip_here", "_law_row", "_law_reckon", "_law_due", "_law_made", "_law_grown", "_law_stays"] "_law_led_right" (defScope s_ledR) g cdg X.A X.stack sh H C8.E0).nox.A := hrX.deeper _
  have hgd : (cxOf C8.CX0 X.prog X.w X.K X.mg X.base ["_law_edit", "_law_clip_here", "_law_row", "_law_reckon", "_law_due", "_law_made", "_law_grown", "_law_stays"] "_law_led_right" (defScope s_ledR) g cdg X.A X.stack sh H C8.E0).nox.A.guards = some [] := hgX
  obtain ⟨e, c, l, d, k, s, t, rs, rfl, he, d60, d1, bs, hc, hl, ln, k7, k4, bd, hk, kk⟩ := h
  refine ⟨_, (pss_cons (ps_par (i := 4) (j := 5) (by rfl) sc_ledR.nd rfl rfl (by decide) rfl rfl (pa_cons (act (fun _ _ _ _ => False) [] (fun _ _ => False) C8.E0 _ _ _ _ _ LamX.takes0 (fun _ _ _ _ h => h) (pa_cons (pv 2) pa_nil) (by rfl) (by rfl)) (pa_cons (My.pe_cl C_Echo (hr.mono (by decide)) pass0 (pv 0) (pa_cons (pv 1) pa_nil)) pa_nil)) (by rfl))
      (pss_cons (ps_if (PW.pt (pw_or (pt_not (pt_val (My.pe_dG D_lis hgd (hr.mono (by decide)) (by rfl) pass0 (pa_cons (pv 5) (pa_cons (pv 4) pa_nil))))) (pw_or1 (pt_not (pt_val (My.pe_dG D_lis hgd (hr.mono (by decide)) (by rfl) pass0 (pa_cons (pv 1) (pa_cons (pv 2) pa_nil)))))))) (pss_one (ps_ret pe_bl)) pss_nil)
      (pss_cons (ps_if (pt_cmpR (op_eqD hr.units) (pv 2) (pe_lst pa_nil) (nomark _)) (pss_cons (ps_set (i := 6) sc_ledR.nd rfl (Or.inl rfl) (My.pe_mkR0 M_Clip (hr.mono (by decide)) (by rfl) passL))
      (pss_cons (ps_set (i := 5) sc_ledR.nd rfl (Or.inl rfl) (My.pe_cl C_Echo (hr.mono (by decide)) pass0 (pv 0) (pa_cons (pv 6) pa_nil)))
      (pss_cons (ps_expr (My.pe_mt T.clC X_do (hr.mono (by decide)) pass0 (pv 6) (pa_cons (My.pe_mk M_Echo3 (hr.mono (by decide)) (by rfl) pass0 (pa_cons pe_int (pa_cons pe_int (pa_cons pe_bl pa_nil)))) pa_nil)))
      (pss_one (ps_ret (pe_and (My.pe_dG D_lis hgd (hr.mono (by decide)) (by rfl) pass0 (pa_cons (pv 5) (pa_cons (pv 4) pa_nil))) (pe_one (My.pe_dG D_lis hgd (hr.mono (by decide)) (by rfl) pass0 (pa_cons (pv 6) (pa_cons (pe_lst (pa_cons (pe_tup (pa_cons pe_int (pa_cons pe_int pa_nil))) pa_nil)) pa_nil)))))))))) pss_nil)
      (pss_cons (ps_if (pt_cmpR (op_neD hr.units) (pv 4) (pe_lst pa_nil) (nomark _)) (pss_one (ps_asg pe_int (pg_sub (pv 5) pe_int (My.set_own I_cset nq (hr.mono (by decide)) passL)))) pss_nil)
      (pss_cons (ps_if (pt_not (pt_val (My.pe_dG D_lis hgd (hr.mono (by decide)) (by rfl) pass0 (pa_cons (pv 1) (pa_cons (pv 2) pa_nil))))) (pss_one (ps_ret pe_bl)) pss_nil)
      (pss_cons (ps_set (i := 5) sc_ledR.nd rfl (Or.inl rfl) (My.pe_cl C_Echo (hr.mono (by decide)) pass0 (pv 0) (pa_cons (pv 1) pa_nil)))
      (pss_cons (ps_asg pe_int (pg_sub (pv 1) pe_int (My.set_own I_cset nq (hr.mono (by decide)) passL)))
      (pss_cons (ps_set (i := 7) sc_ledR.nd rfl (Or.inl rfl) (pe_and (My.pe_dG D_lis hgd (hr.mono (by decide)) (by rfl) pass0 (pa_cons (pv 5) (pa_cons (pv 4) pa_nil))) (pe_one (My.pe_dG D_lis hgd (hr.mono (by decide)) (by rfl) pass0 (pa_cons (My.pe_cl C_Echo (hr.mono (by decide)) pass0 (pv 0) (pa_cons (pv 1) pa_nil)) (pa_cons (act (fun _ _ _ _ => False) [] (fun _ _ => False) C8.E0 _ _ _ _ _ LamX.takes0 (fun _ _ _ _ h => h) (pa_cons (pe_op op_cat (pe_lst (pa_cons (pe_tup (pa_cons pe_int (pa_cons pe_int pa_nil))) pa_nil)) (pe_slice sl_list (pv 2) (po_some pe_int) po_none)) pa_nil) (by rfl) (by rfl)) pa_nil))))))
      (pss_cons (ps_asg (My.pe_mk M_Ratio (hr.mono (by decide)) (by rfl) passL (pa_cons (pe_ix ix_tup (pe_ix ix_list (pv 2) pe_int (fun _ _ => rfl)) pe_int (fun _ _ => rfl)) (pa_cons (pe_ix ix_tup (pe_ix ix_list (pv 2) pe_int (fun _ _ => rfl)) pe_int (fun _ _ => rfl)) pa_nil))) (pg_sub (pv 1) pe_int (My.set_own I_cset nq (hr.mono (by decide)) passL)))
      (pss_one (ps_ret (pe_and (pv 7) (pe_one (My.pe_dG D_lis hgd (hr.mono (by decide)) (by rfl) pass0 (pa_cons (pv 1) (pa_cons (pv 2) pa_nil)))))))))))))))), ?_⟩
  have k0 : 0 < k := by omega
  have k8 : k ≤ 800 := by omega
  have le : lenE d t rs.length ≤ 400 := by
    unfold lenE
    split <;> omega
  have bE : ∀ r ∈ echoL d s t rs, Bd 1900 r := fun r hr => (echoL_bd k0 bs bd r hr).le (by omega)
  have bR : ∀ r ∈ rs, Bd 1900 r := fun r hr => (bd r hr).le (by omega)
  have lE : (echoL d s t rs).length ≤ 1000 := by rw [echoL_len]; omega
  refine ⟨rfl, _, rfl, hcc, rfl, hk H l rs _ (fun b o e _ => e) hl ln bd fun m1 H1 tm n1 s1 => ?_⟩
  have he1 := he.same s1
  obtain ⟨dx, qs, ee, _⟩ := id he1
  refine ⟨_, rfl, e, rfl, _, rfl, .inr ⟨_, _, ee⟩, e, c, d, k, s, t, rs, rfl, he1, d60, bs, hc.same s1, by omega, k0, k8, bd, fun m2 H2 cm n2 s2 => ⟨_, _, rfl, ?_⟩⟩
  have s02 := s1.trans s2
  obtain ⟨ps1, R1⟩ := (tm.same s2).row
  obtain ⟨ps0, R0⟩ := (hl.same s02).row
  refine ⟨_, rfl, _, rfl, m2, m1, ps1, _, rfl, cm, R1, bE, lE, fun H3 s3 => ⟨_, rfl, iteF ?_⟩⟩
  refine ⟨_, rfl, _, rfl, c, l, ps0, rs, rfl, (hc.same s02).same s3, R0.same s3, bR, by omega, fun H4 s4 => ⟨_, rfl, iteF ?_⟩⟩
  have s24 := s3.trans s4
  have s04 := s02.trans s24
  refine ⟨_, rfl, (by show 0 ≤ sizeLine; decide), fun l5 h5 => ⟨_, _, ((R0.same s24).same (same_new h5)).dp, nil_dp upd_same, tups_shaped _, nil_shaped, ?_⟩⟩
  rw [rows_nil]
  have s05 := s04.trans (same_new (o := .lst []) h5)
  have n5 := h5
  have s25 := s24.trans (same_new (o := .lst []) h5)
  generalize upd H4 l5 (.lst []) = H5 at s05 s25 ⊢
  refine ⟨_, rfl, ?_⟩
  refine ite2 (fun cz => ?_) (fun cz => ?_)
  · have ez : rs = [] := of_decide_eq_true cz
    subst ez
    have hc5 := hc.same s05
    refine fun c0 dx' n6 hd ne => clip0_at T.inn n6 hd ne fun H6 c6 s6 => ?_
    have he6 := (he.same s05).same s6
    obtain ⟨dx6, qs6, ee6, _⟩ := id he6
    refine ⟨_, rfl, e, rfl, _, rfl, .inr ⟨_, _, ee6⟩, e, c0, d, k, s, t, [], rfl, he6, d60, bs, c6, (by show 0 ≤ 500; decide), k0, k8, (fun r hr => nomatch hr), fun m3 H7 c7 n7 s7 => ?_⟩
    have c67 := c6.same s7
    obtain ⟨tt7, zs7, ⟨dc7, ec7⟩, e27, r7, l7⟩ := id c67
    refine ⟨_, rfl, c0, dc7, _, rfl, ec7, cfs_no tt7 (by decide), fun x dx' hx hd ne => echo_at (s := (1, 1)) (by decide) (by decide) (.inr ⟨rfl, rfl⟩) ⟨⟨by decide, by decide⟩, by decide, by decide⟩ hx hd ne fun H8 he8 s8 => ?_⟩
    have c8 := c67.same s8
    refine ⟨x, c0, 1, 1, (1, 1), true, [], rfl, he8, by decide, ⟨⟨by decide, by decide⟩, by decide, by decide⟩, c8, (by show 0 ≤ 500; decide), by decide, by decide, (fun r hr => nomatch hr), fun H9 c9 u9 => ?_⟩
    have nm3 : m3 ≠ c0 := fun z => by
      obtain ⟨tt, zs, ⟨dc, ec⟩, _⟩ := c6
      rw [z, ec] at n7
      cases n7
    have c9m := ((c7.same s8).but c8 nm3 u9)
    have t8 := ((((tm.same s2).same s25).same s6).same s7).same s8
    have t9 := t8.but c8 u9
    obtain ⟨ps9, R9⟩ := t9.row
    refine ⟨_, rfl, _, rfl, m3, m1, ps9, _, rfl, c9m, R9, bE, lE, fun H10 s10 => ?_⟩
    refine ⟨_, rfl, iteT ?_⟩
    have l0 : echoL 1 (1, 1) true [] = [(0, 1)] := by decide +kernel
    rw [l0] at c9
    refine ⟨_, rfl, (by show 2 ≤ sizeLine; decide), fun p6 h6 => ⟨(by show 1 ≤ sizeLine; decide), fun l6 h7 => ?_⟩⟩
    have s11 : Same H9 (upd H10 p6 (.tup [.int 0, .int 1])) := s10.trans (same_new h6)
    have s12 := s11.trans (same_new (o := .lst [.ref p6]) h7)
    refine ⟨c0, l6, [p6], [(0, 1)], rfl, c9.same s12, row_one (by rw [upd_ne (ne_of_none upd_same h7)]; exact upd_same) upd_same, (fun r hr => by rw [List.mem_singleton] at hr; rw [hr]; exact Bd.zero (by decide)), by decide, fun H13 s13 => ?_⟩
    have s9 := s12.trans s13
    have c59 : c ≠ c0 := fun z => by
      obtain ⟨tt, zs, ⟨dc, ec⟩, _⟩ := hc5
      rw [z, n6] at ec
      cases ec
    have s58 := (s6.trans s7).trans s8
    have u59 : But c H H9 := fun a o ea _ => u9 a o (s58 _ _ (s05 _ _ ea)) fun z => by
      rw [z] at ea
      rw [s05 _ _ ea] at n6
      cases n6
    exact kk _ (((hc5.same s58).but c8 c59 u9).same s9) fun a o ea na => s9 _ _ (u59 a o ea na)
  · have ez : rs ≠ [] := fun z => cz (decide_eq_true z)
    obtain ⟨ps5, R5⟩ := ((tm.same s2).same s25).row
    refine ⟨_, rfl, (by show 0 ≤ sizeLine; decide), fun l6 h6 => ⟨_, _, (R5.same (same_new h6)).dp, nil_dp upd_same, tups_shaped _, nil_shaped, ?_⟩⟩
    rw [rows_nil]
    have s56 := same_new (o := .lst []) h6
    generalize upd H5 l6 (.lst []) = H6 at s56 ⊢
    refine ⟨_, rfl, ?_⟩
    have r0 : 0 < rs.length := List.length_pos_iff.mpr ez
    have e0 : 0 < (echoL d s t rs).length := by
      rw [echoL_len]
      unfold lenE
      omega
    have ed : echoL d s t rs ≠ [] := List.ne_nil_of_length_pos e0
    refine ite2 (fun dz => ?_) (fun dz => absurd (show (!decide (echoL d s t rs = [])) = true by rw [decide_eq_false ed]; rfl) dz)
    have cm6 := ((cm.same s25).same s56)
    refine ⟨_, rfl, cset_go (r := (99, 1)) T.inn cm6 e0 (.inr ⟨rfl, rfl⟩) ⟨by decide, by decide⟩ (by decide) fun H7 c7 u7 => ?_⟩
    have s06 := s05.trans s56
    have nc2 : c ≠ m2 := fun z => by
      obtain ⟨tt, zs, ⟨dc, ec⟩, _⟩ := hc.same s1
      rw [z, n2] at ec
      cases ec
    have hc7 := (hc.same s06).but cm6 nc2 u7
    have hl7 := (hl.same s06).but cm6 u7
    have he7 := (he.same s06).but cm6 u7
    have tm7 := (((tm.same s2).same s25).same s56).but cm6 u7
    obtain ⟨ps7, R7⟩ := hl7.row
    refine ⟨_, rfl, _, rfl, c, l, ps7, rs, rfl, hc7, R7, bR, by omega, fun H8 s8 => ⟨_, rfl, iteF ?_⟩⟩
    have he8 := he7.same s8
    obtain ⟨dx8, qs8, ee8, _⟩ := id he8
    refine ⟨_, rfl, e, rfl, _, rfl, .inr ⟨_, _, ee8⟩, e, c, d, k, s, t, rs, rfl, he8, d60, bs, hc7.same s8, by omega, k0, k8, bd, fun m3 H9 c9 n9 s9 => ?_⟩
    have s79 := s8.trans s9
    have hc9 := hc7.same s79
    have nc3 : m3 ≠ c := fun z => by
      obtain ⟨tt, zs, ⟨dc, ec⟩, _⟩ := hc7.same s8
      rw [← z, n9] at ec
      cases ec
    refine ⟨_, rfl, cset_go (r := (98, 1)) T.inn hc9 r0 (.inr ⟨rfl, rfl⟩) ⟨by decide, by decide⟩ (by decide) fun H10 c10 u10 => ?_⟩
    have he10 := (he7.same s79).but hc9 u10
    have hl10 := (hl7.same s79).but hc9 u10
    have tm10 := (tm7.same s79).but hc9 u10
    obtain ⟨ps10, R10⟩ := tm10.row
    refine ⟨_, rfl, _, rfl, m3, m1, ps10, _, rfl, c9.but hc9 nc3 u10, R10, bE, lE, fun H11 s11 => ⟨_, rfl, iteT ?_⟩⟩
    have he11 := he10.same s11
    have c11 := c10.same s11
    obtain ⟨dx11, qs11, ee11, _⟩ := id he11
    have b98 : ∀ r ∈ rs.set 0 (98, 1), Bd k r := fun r hr => by
      rcases List.mem_or_eq_of_mem_set hr with h | h
      · exact bd r h
      · rw [h]
        exact Bd.le (k := 7) ⟨⟨by decide, by decide⟩, by decide, by decide⟩ k7
    refine ⟨_, rfl, e, rfl, _, rfl, .inr ⟨_, _, ee11⟩, e, c, d, k, s, t, rs.set 0 (98, 1), rfl, he11, d60, bs, c11, by rw [List.length_set]; omega, k0, k8, b98, fun m4 H12 c12 n12 s12 => ?_⟩
    have ncc : cc ≠ c := fun z => by
      obtain ⟨tt, zs, ⟨dc, ec⟩, _⟩ := hc
      rw [z, ec] at hcc
      cases hcc
    have u0 : But c H H10 := fun a o ea na => u10 _ _ (s79 _ _ (u7 _ _ (s06 _ _ ea) fun z => by have e := s1 _ _ ea; rw [z, n2] at e; cases e)) na
    have cc10 := u0 _ _ hcc ncc
    have s1012 := s11.trans s12
    obtain ⟨vs, ev, rv⟩ := hl10.same s1012
    refine ⟨rfl, (by show 2 ≤ sizeLine; decide), fun p13 h13 => ⟨(by show 1 ≤ sizeLine; decide), fun l14 h14 => ?_⟩⟩
    have n13 := h13
    have n14 := h14
    have s1214 := (same_new (o := .tup [.int 98, .int 1]) h13).trans (same_new (o := .lst [.ref p13]) h14)
    have t13 : upd (upd H12 p13 (.tup [.int 98, .int 1])) l14 (.lst [.ref p13]) p13 = some (.tup [.int 98, .int 1]) := by rw [upd_ne (ne_of_none upd_same h14)]; exact upd_same
    have t14 : upd (upd H12 p13 (.tup [.int 98, .int 1])) l14 (.lst [.ref p13]) l14 = some (.lst [.ref p13]) := upd_same
    generalize upd (upd H12 p13 (.tup [.int 98, .int 1])) l14 (.lst [.ref p13]) = H14 at s1214 t13 t14 ⊢
    refine ⟨_, rfl, 1, rfl, l, vs, rfl, SqL.of (s1214 _ _ ev), fun l15 h15 => ?_⟩
    have vl : vs.length ≤ 300 := by rw [rv.1]; exact ln
    rw [show (1 : Int) = ((1 : Nat) : Int) from rfl, cut_from]
    have s15 := same_new (o := .lst (vs.drop 1)) h15
    refine ⟨l14, l15, _, _, rfl, rfl, s15 _ _ t14, upd_same, (by rw [List.length_drop]; show 1 + (vs.length - 1) ≤ 2 ^ 24; omega), fun l16 h16 => ?_⟩
    have s1216 := (s1214.trans s15).trans (same_new (o := .lst ([.ref p13] ++ vs.drop 1)) h16)
    have u16 : But c H (upd (upd H14 l15 (.lst (vs.drop 1))) l16 (.lst ([.ref p13] ++ vs.drop 1))) := fun a o ea na => s1216 _ _ (s1012 _ _ (u0 a o ea na))
    have rl : (98, 1) :: rs.drop 1 = rs.set 0 (98, 1) := by
      cases rs with
      | nil => exact absurd rfl ez
      | cons r rs => rfl
    have t16 : TupL (upd (upd H14 l15 (.lst (vs.drop 1))) l16 (.lst ([.ref p13] ++ vs.drop 1))) l16 (rs.set 0 (98, 1)) := by
      rw [← rl]
      exact ⟨_, upd_same, (Tups.one ((s15.trans (same_new h16)) _ _ t13)).app ((rv.same s1216).drop 1)⟩
    refine ⟨s1216 _ _ (s1012 _ _ cc10), rfl, hk _ l16 (rs.set 0 (98, 1)) _ u16 t16 (by rw [List.length_set]; exact ln) b98 fun m5 H17 t17 n17 s17 => ?_⟩
    obtain ⟨ps17, R17⟩ := t17.row
    have b17 : ∀ r ∈ echoL d s t (rs.set 0 (98, 1)), Bd 1900 r := fun r hr => (echoL_bd k0 bs b98 r hr).le (by omega)
    have l17 : (echoL d s t (rs.set 0 (98, 1))).length ≤ 1000 := by rw [echoL_len, List.length_set]; omega
    refine ⟨m4, m5, ps17, _, rfl, c12.same (s1216.trans s17), R17, b17, l17, fun H18 s18 => ?_⟩
    have s1218 := (s1216.trans s17).trans s18
    obtain ⟨vs8, ev8, rv8⟩ := (hl10.same s1012).same s1218
    obtain ⟨q0, eq0, tq0⟩ := rv8.2 0 rs[0] (List.getElem?_eq_getElem r0)
    have b0 := bd rs[0] (List.getElem_mem r0)
    have lg : rs[0].2.natAbs.log2 < 9000 := Nat.lt_trans (b0.log (by omega)).2 (by decide)
    refine ⟨_, rfl, l, vs8, 0, _, rfl, rfl, SqL.of ev8, atI_nat (j := 0) eq0, q0, _, 0, _, rfl, rfl, SqT.of tq0, at0, _, rfl, l, vs8, 0, _, rfl, rfl, SqL.of ev8, atI_nat (j := 0) eq0, q0, _, 1, _, rfl, rfl, SqT.of tq0, at1, fun x dx hx hd ne => rinit_at (by have := b0.1.1; omega) lg hx hd ne fun H19 l19 s19 => ?_⟩
    rw [b0.1.low.1, b0.1.low.2] at l19
    have c19 := (c11.same s12).same (s1218.trans s19)
    refine ⟨_, rfl, cset_go (i := 0) (r := rs[0]) T.inn c19 (by rw [List.length_set]; exact r0) (.inl ⟨x, rfl, l19⟩) b0.1 lg fun H20 c20 u20 => ?_⟩
    have er : (rs.set 0 (98, 1)).set 0 rs[0] = rs := by
      rw [List.set_set]
      exact List.set_getElem_self r0
    rw [er] at c20
    have l20 := (((hl10.same s1012).same s1218).same s19).but c19 u20
    obtain ⟨ps20, R20⟩ := l20.row
    refine ⟨_, rfl, _, rfl, iteT ?_⟩
    refine ⟨_, rfl, _, rfl, c, l, ps20, rs, rfl, c20, R20, bR, by omega, fun H21 s21 => ?_⟩
    exact kk _ (c20.same s21) fun a o ea na => s21 _ _ (u20 _ _ (s19 _ _ (s1218 _ _ (s1012 _ _ (u0 a o ea na)))) na)
end My
set_option pp.maxSteps 1500
set_option pp.deepTerms.threshold 8
/-! ### an echo, right -/
namespace My
open PySem PySem.Spec PyProof.Rows L2 GenW
abbrev s_echoR : Stmt := topS 62
theorem sc_echoR : FnScope ["_law_pen_here", "_law_delay", "_law_share_here", "_law_has_tail", "_law_edit", "_law_many", "_law_row", "_law_at", "_law_clip_here", "_law_due", "_law_twice"] ["_law_pen_here", "_law_delay", "_law_share_here", "_law_has_tail"] (defScope s_echoR) := ⟨rfl, rfl, rfl, by decide +kernel, rfl, by decide +kernel, by decide +kernel⟩
/-- led_right(e1, e2, e3, lambda ..: body) -/
theorem pe_ledR {X : Cx} {Cs : List Addr} {CR CC CL fL CP fP CS fS CM fM CE CSt : Addr} {tM tF : Tok} {TS : List (Addr × Str)} {c P : Addr} {params : Arguments} {body : Expr} {scope : Scope} {a1 : Str} {ls : List Str} {t : XK → TE} {p lpos pos : Pos} {e1 e2 e3 : Expr} {t1 t2 t3 : TE}
    (D : LedAt X.K X.mg) (T : ETx X.prog X.K X.mg Cs CR CC CL fL CP fP CS fS CM fM CE CSt tM tF)
    (D_lis : DefG X.prog X.w X.K X.mg X.base CX0 5 "_law_is" ["_law_clip_here", "_law_row"] (spLis CC CR)) (C_Echo : CallAt X.prog X.w X.K X.mg X.base CX0 9 CE ["self", "clip"] (spEcall CE CC CR)) (M_Clip : MakeR X.prog X.w X.K X.mg X.base (L2.CX X.prog X.w) 6 "Clip" CC (spClip Cs CR CC CS CM))
    (X_do : MethAt X.prog X.w X.K X.mg X.base CX0 12 CC "do" ["self", "step"] (spDo CE CC CR)) (M_Echo3 : MakeAt X.prog X.w X.K X.mg X.base CX0 8 "Echo" CE ["self", "delay", "share", "tail"] (spEchinit CE CR) []) (M_Ratio : MakeAt X.prog X.w X.K X.mg X.base (L2.CX X.prog X.w) 3 "Ratio" CR ["self", "top", "bottom"] (spRinit CR) [])
    (I_cset : CmpAt X.prog X.w X.K X.mg X.base (L2.CX X.prog X.w) 6 CC "__setitem__" ["self", "at", "worth"] (spCset Cs CC CR CP CS)) (nq : PySem.W.noSeq X.K CC = true) (hgd : X.A.guards = some []) (hr : Room 15 X.A)
    (h1 : PE X e1 t1) (h2 : PE X e2 t2) (h3 : PE X e3 t3) (TB : LamX.TabB X.base X.mg c P) (hcode : X.env.code = .ref c) (hmT : (P, X.env.qual ++ "<lambda>") ∈ TS) (hu : ∀ p ∈ TS, p.1 = P → p.2 = X.env.qual ++ "<lambda>")
    (hg : Gl X "_law_led_right") (L : LamP.LamN X.env.scope scope X.N [a1] ls) (hdef : defaultsOf params X.env = ([], []))
    (hbind : ∀ (q : Str) (cl : List (Str × Addr)) (pm cv ctv : Value) (us : List Value), us.length = ([a1] : List Str).length → bindArgs (PySem.W.kla_fn "<lambda>" q params body scope cl pm cv ctv) ⟨us, []⟩ = pure (([a1] : List Str).zip us))
    (hbody : ∀ (A : Around) (outer : List Env) (s : Shared) (H : Hp) (E : XK) (f c' : Addr), Room 12 (A.deeper (LamX.lamEnv X scope s.heap.objs.size f c')) → PE (LamP.lamCxP X A outer s H E scope f c' ([a1] ++ ls)) body (t E))
    (hs : starEach [e1, e2, e3, .Lambda params body scope lpos] X.env = (false, eval e1 X.env) :: starEach [e2, e3, .Lambda params body scope lpos] X.env := by rfl) (hs2 : starEach [e2, e3, .Lambda params body scope lpos] X.env = [(false, eval e2 X.env), (false, eval e3 X.env), (false, eval (.Lambda params body scope lpos) X.env)] := by rfl) :
    PE X (.Call (.Name "_law_led_right" p) [e1, e2, e3, .Lambda params body scope lpos] [] pos) (LamP.tLamP3 TS (TLed CE CC CR) ls t1 t2 t3 t) := by
  obtain ⟨g, fd, F, hm, hb⟩ := D.ex
  have kp := F.kp
  obtain ⟨oc, od, kV, doc, pm, an, cdv, ct, osl, rfl, lk, hcd⟩ := F.ex
  exact LamP.pe_lamcallP3 (qs := ["_law_edit", "_law_clip_here", "_law_row"]) (a := "_law_reckon") h1 h2 h3 hg hm kp lk hcd hb rfl sc_ledR rfl (Or.inl rfl) (ledR_gives T hr hgd D_lis C_Echo M_Clip X_do M_Echo3 M_Ratio I_cset nq) TB hcode hmT hu (hr.mono (by omega)) L hdef hbind hbody hs hs2 (by decide) (by decide) (by decide)
theorem tabs_clip {CC CR : Addr} {TS : List (Addr × Str)} {H H' : Hp} {c : Addr} {rs : List (Int × Int)} (t : LamX.Tabs TS H) (hc : ClipAt CC CR H c rs) (k : But c H H') : LamX.Tabs TS H' := fun p hp => by
  obtain ⟨tt, zs, ⟨dc, ec⟩, _⟩ := hc
  obtain ⟨ps, h1, h2, h3⟩ := t p hp
  refine ⟨ps, k _ _ h1 (ne_of h1 ec (by intro z; cases z)), h2, fun pos cv hc => ?_⟩
  obtain ⟨c2, e1, e2⟩ := h3 pos cv hc
  exact ⟨c2, e1, k _ _ e2 (ne_of e2 ec (by intro z; unfold LamX.CodeO at z; cases z))⟩
theorem RatAt.extN {C : Addr} {H H' : Hp} {q : Addr} {n d : Int} (h : RatAt C H q n d) (k : LamX.ExtN H H') : RatAt C H' q n d := by
  obtain ⟨dx, e⟩ := h
  exact ⟨dx, k _ _ e (by intro ps z; cases z)⟩
theorem EchoAt.ext {CE CR : Addr} {H H' : Hp} {e : Addr} {d : Nat} {s : Int × Int} {t : Bool} (h : EchoAt CE CR H e d s t) (k : LamX.ExtN H H') : EchoAt CE CR H' e d s t := by
  obtain ⟨dx, q, e1, e2⟩ := h
  exact ⟨dx, q, k _ _ e1 (by intro ps z; cases z), e2.extN k⟩
theorem ClipAt.ext {CC CR : Addr} {H H' : Hp} {c : Addr} {rs : List (Int × Int)} (h : ClipAt CC CR H c rs) (k : LamX.ExtN H H') : ClipAt CC CR H' c rs := by
  obtain ⟨t, zs, ⟨dx, e1⟩, e2, r, l⟩ := h
  exact ⟨t, zs, ⟨dx, k _ _ e1 (by intro ps z; cases z)⟩, k _ _ e2 (by intro ps z; cases z), ⟨r.1, fun i x ex => by obtain ⟨q, q1, q2⟩ := r.2 i x ex; exact ⟨q, q1, q2.extN k⟩⟩, l⟩
theorem TupAt.ext {H H' : Hp} {p : Addr} {r : Int × Int} (h : TupAt H p r) (k : LamX.ExtN H H') : TupAt H' p r := k _ _ h (by intro ps z; cases z)
theorem TupL.ext {H H' : Hp} {l : Addr} {rs : List (Int × Int)} (h : TupL H l rs) (k : LamX.ExtN H H') : TupL H' l rs := by
  obtain ⟨vs, e, r⟩ := h
  exact ⟨vs, k _ _ e (by intro ps z; cases z), r.1, fun i x ex => by obtain ⟨q, e1, e2⟩ := r.2 i x ex; exact ⟨q, e1, TupAt.ext e2 k⟩⟩
theorem PenC.ext {H H' : Hp} {pn cl : Addr} {n : Nat} (h : PenC H pn cl n) (k : LamX.ExtN H H') : PenC H' pn cl n := by
  obtain ⟨ns, a, r, e1, e2, z⟩ := h
  exact ⟨ns, a, r, k _ _ e1 (by intro ps z; cases z), k _ _ e2 (by intro ps z; cases z), z⟩
theorem PenC.but {CC CR : Addr} {H H' : Hp} {pn cl c : Addr} {n : Nat} {rs : List (Int × Int)} (h : PenC H pn cl n) (hc : ClipAt CC CR H c rs) (k : But c H H') : PenC H' pn cl n := by
  obtain ⟨ns, a, r, e1, e2, z⟩ := h
  exact ⟨ns, a, r, k _ _ e1 (lst_ne hc e1), k _ _ e2 (lst_ne hc e2), z⟩
theorem EchoAt.pen {CE CR : Addr} {H H' : Hp} {e pn cl : Addr} {d : Nat} {s : Int × Int} {t : Bool} {n : Nat} (h : EchoAt CE CR H e d s t) (hp : PenC H pn cl n) (u : But pn H H') : EchoAt CE CR H' e d s t := by
  obtain ⟨ns, a, r, e0, _⟩ := hp
  obtain ⟨dx, q, e1, ⟨dq, e2⟩⟩ := h
  exact ⟨dx, q, u _ _ e1 (ne_of e1 e0 (by intro z; cases z)), ⟨dq, u _ _ e2 (ne_of e2 e0 (by intro z; cases z))⟩⟩
theorem ints_self : ∀ us : List Int, PyData.eqvAll (us.map PyData.int) (us.map PyData.int) = true
  | [] => rfl
  | u :: us => by
    show (PyData.eqv (.int u) (.int u) && PyData.eqvAll (us.map PyData.int) (us.map PyData.int)) = true
    rw [ints_self us, Bool.and_true]
    exact decide_eq_true rfl
theorem tups_self : ∀ uss : List (List Int), PyData.eqvAll (tupsD uss) (tupsD uss) = true
  | [] => rfl
  | us :: uss => by
    show (PyData.eqvAll (us.map PyData.int) (us.map PyData.int) && PyData.eqvAll (tupsD uss) (tupsD uss)) = true
    rw [ints_self us, tups_self uss]
    rfl
theorem rows_self (rs : List (Int × Int)) : PyData.eqv (.list (tupsD (two rs))) (.list (tupsD (two rs))) = true := tups_self _
def spEchoR (TS : List (Addr × Str)) : Sp := fun vs H Q _ => ∃ (pn cl p : Addr) (d : Nat) (s : Int × Int) (t : Bool) (n : Nat), vs = [.ref pn, .int d, .ref p, .bl t] ∧ TupAt H p s ∧ ShOk s ∧ 1 ≤ d ∧ d ≤ 60 ∧ PenC H pn cl n ∧ n < 80000 ∧ LamX.Tabs TS H ∧ ∀ H', PenC H' pn cl (n + 90) → Kp pn TS H H' → Q (.bl true) H'
section
variable {P : Program} {w : World} {K : PySem.W.Frag} {mg : Str → Option Value} {base : Heap} {Cs : List Addr} {CR CC CL fL CP fP CS fS CM fM CE CSt : Addr} {tM tF : Tok}
theorem ok_echoR {f c0 tb : Addr} {fd : FuncData} {TS : List (Addr × Str)} (F : FunC K "_law_echo_right" "_law_echo_right" s_echoR f fd c0) (T : ETx P K mg Cs CR CC CL fL CP fP CS fS CM fM CE CSt tM tF) (DL : LedAt K mg)
    (TB : LamX.TabB base mg c0 tb) (hmT : (tb, (("_law_echo_right" : Str) ++ ".<locals>.") ++ "<lambda>") ∈ TS) (hu : ∀ p ∈ TS, p.1 = tb → p.2 = (("_law_echo_right" : Str) ++ ".<locals>.") ++ "<lambda>") (nq : PySem.W.noSeq K CC = true)
    (D_lis : DefG P w K mg base CX0 5 "_law_is" ["_law_clip_here", "_law_row"] (spLis CC CR)) (C_Echo : CallAt P w K mg base CX0 9 CE ["self", "clip"] (spEcall CE CC CR)) (M_Clip : MakeR P w K mg base (L2.CX P w) 6 "Clip" CC (spClip Cs CR CC CS CM))
    (X_do : MethAt P w K mg base CX0 12 CC "do" ["self", "step"] (spDo CE CC CR)) (M_Echo3 : MakeAt P w K mg base CX0 8 "Echo" CE ["self", "delay", "share", "tail"] (spEchinit CE CR) []) (M_Ratio : MakeAt P w K mg base (L2.CX P w) 3 "Ratio" CR ["self", "top", "bottom"] (spRinit CR) [])
    (I_cset : CmpAt P w K mg base (L2.CX P w) 6 CC "__setitem__" ["self", "at", "worth"] (spCset Cs CC CR CP CS)) (X_length_at : MethAt P w K mg base CX0 3 CE "length_at" ["self", "n"] (spLenat CE CR))
    (D_passed : DefAt P w K mg base CX0 5 "_law_passed" ["_law_pen_here", "_law_one"] (spPassed CR)) (D_draw : DefAt P w K mg base CX0 1 "_law_draw" ["_law_pen_here", "_law_many"] spDrawC) (D_sample : DefAt P w K mg base CX0 3 "_law_sample" ["_law_pen_here"] spSample)
    (D_lclip : DefAt P w K mg base CX0 9 "_law_clip" ["_law_row"] (spLclip CC CR)) (D_echoed : DefAt P w K mg base CX0 5 "_law_echoed" ["_law_row", "_law_delay", "_law_share_here", "_law_has_tail"] spEchoed) (D_ldone : DefAt P w K mg base CX0 7 "_law_done" ["_law_deed", "_law_row"] spLdone) :
    FnG P w K mg base CX0 16 f fd ["_law_pen_here", "_law_delay", "_law_share_here", "_law_has_tail"] (spEchoR TS) := by
  refine okGc F sc_echoR (fun vs H Q E h => ?_) (fun A outer s0 H vs Q E hgd hr h => ?_)
  · obtain ⟨pn, cl, p, d, s, t, n, rfl, _⟩ := h
    rfl
  · obtain ⟨pn, cl, p, d, s, t, n, rfl, tp, sh, d1, d60, hp, hn, ht, kk⟩ := h
    refine ⟨_, (pss_cons (ps_set (i := 4) sc_echoR.nd rfl (Or.inl rfl) (My.pe_mk M_Echo3 (hr.mono (by decide)) (by rfl) pass0 (pa_cons (pv 1) (pa_cons (My.pe_d D_passed (hr.mono (by decide)) (by rfl) pass0 (pa_cons (pv 0) (pa_cons (pv 2) pa_nil))) (pa_cons (pv 3) pa_nil)))))
      (pss_cons (ps_for PassesOwn.never rfl (pi_list (pe_lst (pa_cons pe_int (pa_cons pe_int (pa_cons pe_int (pa_cons pe_int (pa_cons (pe_op op_add pe_int (My.pe_d D_draw (hr.mono (by decide)) (by rfl) pass0 (pa_cons (pv 0) (pa_cons pe_int pa_nil)))) pa_nil))))))) (pg_name (i := 5) sc_echoR.nd rfl (Or.inl rfl)) (pss_cons (ps_setLc (i := 6) (own := [("_law_at", 7)]) rfl sc_echoR.nd rfl rfl (sw_true rfl rfl rfl rfl) (pi_range1 rfl T.z_range (pa_cons (pv 5) pa_nil)) (blkOk_by (by show blkC ["_law_pen_here", "_law_delay", "_law_share_here", "_law_has_tail", "_law_edit", "_law_many", "_law_row", "_law_at", "_law_clip_here", "_law_due", "_law_twice"] (defScope s_echoR) _ _ = true; decide +kernel)) (fun _ _ _ _ _ => (pg_name (i := 7) sc_echoR.nd rfl (Or.inl rfl))) (fun _ _ _ _ _ => pts_nil) (fun _ _ _ _ _ => (My.pe_d D_sample (hr.mono (by decide)) (by rfl) pass0 (pa_cons (pv 0) pa_nil))))
      (pss_cons (ps_par (i := 8) (j := 9) (by rfl) sc_echoR.nd rfl rfl (by decide) rfl rfl (pa_cons (My.pe_d D_lclip (hr.mono (by decide)) (by rfl) pass0 (pa_cons (pv 6) pa_nil)) (pa_cons (My.pe_d D_echoed (hr.mono (by decide)) (by rfl) pass0 (pa_cons (pv 6) (pa_cons (pv 1) (pa_cons (pv 2) (pa_cons (pv 3) pa_nil))))) pa_nil)) (by rfl))
      (pss_cons (ps_if (pt_not (pt_val (My.pe_ledR DL T D_lis C_Echo M_Clip X_do M_Echo3 M_Ratio I_cset nq hgd (hr.mono (by decide)) (pv 4) (pv 8) (pv 6) TB rfl hmT hu (by rfl) (LamP.lamN_by (ls := []) (ps := ["_law_some"]) (by show LamP.lamNB (defScope s_echoR) _ ["_law_pen_here", "_law_delay", "_law_share_here", "_law_has_tail", "_law_edit", "_law_many", "_law_row", "_law_at", "_law_clip_here", "_law_due", "_law_twice"] ["_law_some"] [] = true; decide +kernel)) rfl (fun q cl pm cv ctv us hl => match us, hl with | [_], _ => rfl) (fun A outer s H E f c hrl => (My.pe_d D_echoed (hrl.mono (by decide)) (by rfl) pass0 (pa_cons (pv 11) (pa_cons (pv 1) (pa_cons (pv 2) (pa_cons (pv 3) pa_nil))))))))) (pss_one (ps_ret pe_bl)) pss_nil)
      (pss_cons (ps_if (pt_cmpR op_ne (pe_callB (My.call_repr hgd hr) (by rfl) T.z_repr boot_repr (pa_cons (My.pe_mt T.clE X_length_at (hr.mono (by decide)) pass0 (pv 4) (pa_cons (pv 5) pa_nil)) pa_nil)) (pe_callB (My.call_repr hgd hr) (by rfl) T.z_repr boot_repr (pa_cons (pe_callB call_len (by rfl) T.z_len PySem.boot_len (pa_cons (pv 9) pa_nil)) pa_nil)) (nomark _)) (pss_one (ps_ret pe_bl)) pss_nil)
      (pss_cons (ps_if (pt_cmpR (op_neD hr.units) (My.pe_d D_ldone (hr.mono (by decide)) (by rfl) pass0 (pa_cons (pe_tup (pa_cons pe_str (pa_cons (pv 1) (pa_cons (pv 2) (pa_cons (pv 3) pa_nil))))) (pa_cons (pv 6) pa_nil))) (pv 9) (nomark _)) (pss_one (ps_ret pe_bl)) pss_nil)
      (pss_cons (ps_set (i := 10) sc_echoR.nd rfl (Or.inl rfl) (My.pe_d D_echoed (hr.mono (by decide)) (by rfl) pass0 (pa_cons (pv 9) (pa_cons (pv 1) (pa_cons (pv 2) (pa_cons (pv 3) pa_nil))))))
      (pss_one (ps_if (pt_not (pt_val (My.pe_dG D_lis hgd (hr.mono (by decide)) (by rfl) pass0 (pa_cons (My.pe_cl C_Echo (hr.mono (by decide)) pass0 (pv 4) (pa_cons (My.pe_cl C_Echo (hr.mono (by decide)) pass0 (pv 4) (pa_cons (pv 8) pa_nil)) pa_nil)) (pa_cons (pv 10) pa_nil))))) (pss_one (ps_ret pe_bl)) pss_nil)))))))))
      (pss_one (ps_ret pe_bl)))), ?_⟩
    have okr : OkR s := ⟨sh.1, Nat.lt_trans sh.2.1 (by decide +kernel), Nat.lt_trans sh.2.2 (by decide +kernel)⟩
    have bs := sh.bd
    refine ⟨_, rfl, ⟨_, rfl, _, rfl, pn, cl, p, s, n, rfl, tp, okr, hp, by omega, fun v H1 hv p1 u1 => ⟨_, rfl, fun x dx hx hd ne => echo_at (s := s) d1 d60 hv sh hx hd ne fun H2 he2 s2 => ?_⟩⟩⟩
    have ht2 : LamX.Tabs TS H2 := (tabs_but ht hp.pen u1).ext s2
    have tp1 : TupAt H1 p s := u1 _ _ tp (fun z => hp.notup _ (by rw [← z]; exact tp))
    have tp2 : TupAt H2 p s := s2 _ _ tp1
    have p2 := p1.same s2
    have k02 : Kp pn TS H H2 := (Kp.but ht hp.pen u1).trans (Kp.same (tabs_but ht hp.pen u1) s2)
    refine ⟨_, rfl, pn, cl, 5, n + 1, rfl, by decide, by decide +kernel, p2, by omega, fun j H3 j0 j5 p3 u3 => ?_⟩
    obtain ⟨J, rfl⟩ := Int.eq_ofNat_of_zero_le j0
    have tp3 : TupAt H3 p s := u3 _ _ tp2 (fun z => p2.notup _ (by rw [← z]; exact tp2))
    have he3 := he2.pen p2 u3
    have k03 : Kp pn TS H H3 := k02.trans (Kp.but ht2 p2.pen u3)
    refine ⟨_, _, rfl, rfl, (by show 5 ≤ sizeLine; decide), fun L hL => ?_⟩
    have s34 := same_new (o := .lst [.int 0, .int 1, .int 2, .int 3, .int (4 + (J : Nat))]) hL
    have eL : upd H3 L (.lst [.int 0, .int 1, .int 2, .int 3, .int (4 + (J : Nat))]) L = some (.lst [.int 0, .int 1, .int 2, .int 3, .int (4 + (J : Nat))]) := upd_same
    have ht3 := k03.tabs
    have nL : L ≠ pn := pen_ne p3.pen hL
    refine ⟨L, rfl, ⟨_, SqL.of eL⟩, for_it walk_list (fun i σ H' => ∃ v5 v6 v7 v8 v9 v10, σ = [some (.ref pn), some (.int d), some (.ref p), some (.bl t), some (.ref x), v5, v6, v7, v8, v9, v10] ∧ PenC H' pn cl (n + 2 + 16 * i) ∧ Kp pn TS H H' ∧ EchoAt CE CR H' x d s t ∧ TupAt H' p s ∧ H' L = some (.lst [.int 0, .int 1, .int 2, .int 3, .int (4 + (J : Nat))])) ⟨none, none, none, none, none, none, rfl, p3.same s34, k03.trans (Kp.same ht3 s34), he3.same s34, s34 _ _ tp3, eL⟩ (fun i σ Hh _ ⟨_, _, _, _, _, _, _, _, _, _, _, e⟩ => SqL.of e) ?_ ?_⟩
    · rintro i v σ Hz H4 hi ⟨v5, v6, v7, v8, v9, v10, rfl, p4, k4, he4, tp4, eL4⟩ ⟨rfl, hv⟩
      have hm : ∃ m : Nat, v = .int m ∧ m ≤ 8 := by
        match i with
        | 0 => cases hv; exact ⟨0, rfl, by decide⟩
        | 1 => cases hv; exact ⟨1, rfl, by decide⟩
        | 2 => cases hv; exact ⟨2, rfl, by decide⟩
        | 3 => cases hv; exact ⟨3, rfl, by decide⟩
        | 4 => cases hv; exact ⟨4 + J, rfl, by omega⟩
        | i + 5 => exact absurd hi (by show ¬ i + 5 < 5; omega)
      obtain ⟨m, rfl, m8⟩ := hm
      have hi5 : i < 5 := hi
      refine ⟨_, rfl, (m : Int), rfl, by omega, by omega, fun D hD => ?_⟩
      have nD : D ≠ pn := pen_ne p4.pen hD
      have s45 := same_new (o := .lst []) hD
      have ht4 := k4.tabs
      refine lc_range (lo := 0) (n := m) (fun j Hh => ∃ ps rs, RowK Hh D ps rs ∧ rs.length = j ∧ (∀ r ∈ rs, Bd 40 r) ∧ PenC Hh pn cl (n + 2 + 16 * i + 2 * j) ∧ But pn H4 Hh) ⟨[], [], ⟨upd_same, rfl, fun i p r e _ => by simp at e⟩, rfl, (fun _ z => nomatch z), p4.same s45, but_same s45⟩ ?_ ?_
      · rintro j Hh hj ⟨ps, rs, R, ln, ok, ph, uh⟩
        refine ⟨rfl, yes_go ⟨_, rfl, pn, cl, _, rfl, ph, by omega, fun l r H3 hl tl okr p3 u3 => ?_⟩⟩
        have R3 := R.but u3 nD ph.notup
        have nc : cl ≠ D := by
          obtain ⟨_, _, _, _, e2, _⟩ := p4
          exact ne_of_none e2 hD
        refine ⟨_, R3.l, ?_, ps ++ [l], rs ++ [r], R3.snoc tl, ?_, ?_, ?_, ?_⟩
        · rw [List.length_map, R.len, sizeLine_eq]
          omega
        · rw [List.length_append, ln]
          rfl
        · intro z hz
          rcases List.mem_append.mp hz with h | h
          · exact ok z h
          · cases List.mem_singleton.mp h
            exact okr
        · exact (p3.put nD.symm nc).le (by omega)
        · intro b o e n
          rw [upd_ne (ne_of_none e hD)]
          exact u3 _ _ (uh _ _ e n) n
      · rintro H5 ⟨ps, rs, R5, ln5, bd5, p5, u5⟩
        subst ln5
        have k5 : Kp pn TS H H5 := k4.trans (Kp.but ht4 p4.pen u5)
        have he5 := he4.pen p4 u5
        have tp5 : TupAt H5 p s := u5 _ _ tp4 (fun z => p4.notup _ (by rw [← z]; exact tp4))
        have eL5 := u5 _ _ eL4 nL
        have bq : ∀ r ∈ rs, Bd 1900 r := fun r hr => (bd5 r hr).le (by decide)
        refine ⟨_, rfl, D, ps, rs, rfl, R5, by omega, fun r hr => ⟨(bd5 r hr).1, ((bd5 r hr).ok (by decide)).2.2⟩, fun c H6 c6 n6 s6 => ?_⟩
        refine ⟨_, rfl, _, rfl, _, rfl, _, rfl, D, p, d, 40, rs, s, t, rfl, R5.tl.same s6, s6 _ _ tp5, bs, d60, d1, by omega, by decide, by decide, bd5, fun M H7 t7 n7 s7 => ?_⟩
        have s57 := s6.trans s7
        have c7 := c6.same s7
        have k7 : Kp pn TS H H7 := k5.trans (Kp.same k5.tabs s57)
        refine ⟨_, _, rfl, _, rfl, _, rfl, _, rfl, k7.tabs, fun H8 x8 ht8 => ?_⟩
        have he8 := (he5.same s57).ext x8
        have c8 := c7.ext x8
        have l8 := (R5.tl.same s57).ext x8
        have tp8 : TupAt H8 p s := TupAt.ext (s57 _ _ tp5) x8
        have t8 := t7.ext x8
        have p8 := (p5.same s57).ext x8
        have eL8 := x8 _ _ (s57 _ _ eL5) (by intro ps z; cases z)
        refine ⟨x, c, D, d, 40, s, t, rs, rfl, he8, d60, d1, bs, c8, l8, by omega, by decide, by decide, bd5, fun H' l' ss Q' u' tl' ls' bd' q' => ?_, fun H9 c9 u9 => ?_⟩
        · exact ⟨_, rfl, _, rfl, _, rfl, _, rfl, l', p, d, 40, ss, s, t, rfl, tl', u' _ _ tp8 (tup_ne c8 tp8), bs, d60, d1, by omega, by decide, by decide, bd', q'⟩
        · have tp9 : TupAt H9 p s := u9 _ _ tp8 (tup_ne c8 tp8)
          have he9 := he8.but c8 u9
          have l9 := l8.but c8 u9
          have t9 := t8.but c8 u9
          have p9 := p8.but c8 u9
          have eL9 := u9 _ _ eL8 (lst_ne c8 eL8)
          have ht9 := tabs_clip ht8 c8 u9
          have k9 : Kp pn TS H H9 := ⟨fun b o e nb nt => u9 _ _ (x8 _ _ (k7.keep b o e nb nt) nt) (fun z => by
            have e5 := k5.keep b o e nb nt
            rw [z, n6] at e5
            cases e5), ht9⟩
          have lz : lenE d t rs.length ≤ 100 := by
            unfold lenE
            split <;> omega
          have em : rs.length + (if t = true then d else 0) = lenE d t rs.length := rfl
          obtain ⟨n1, n2, n3, n4⟩ := nat_show (K := K) (H := H9) (n := lenE d t rs.length) (by omega)
          obtain ⟨dx9, q9, ee9, _⟩ := id he9
          obtain ⟨zs9, ez9, rz9⟩ := id t9
          have lz9 : zs9.length = lenE d t rs.length := by rw [rz9.1, echoL_len]
          refine ⟨_, rfl, iteF ?_⟩
          refine ⟨_, rfl, x, dx9, _, rfl, ee9, efs_no _ _ _ (by decide +kernel) (by decide +kernel) (by decide +kernel) (by decide +kernel), _, rfl, x, d, s, t, rs.length, rfl, by omega, he9, ?_⟩
          refine ⟨_, .int (lenE d t rs.length : Nat), rfl, n1, n2, n3, n4, _, rfl, .ref M, _, rfl, .inl ⟨_, SqL.of ez9, rfl⟩, _, .int (lenE d t rs.length : Nat), by rw [lz9], n1, n2, n3, n4, rfl, _, rfl, ?_⟩
          rw [decide_eq_true (rfl : V.str (PyData.int (lenE d t rs.length : Nat)).shown = V.str (PyData.int (lenE d t rs.length : Nat)).shown)]
          refine iteF ?_
          refine ⟨_, rfl, _, rfl, _, rfl, (by show 4 ≤ sizeLine; decide), fun T10 h10 => ?_⟩
          have s10 := same_new (o := .tup [.str "echo", .int d, .ref p, .bl t]) h10
          have T10e : upd H9 T10 (.tup [.str "echo", .int d, .ref p, .bl t]) T10 = some (.tup [.str "echo", .int d, .ref p, .bl t]) := upd_same
          generalize upd H9 T10 (.tup [.str "echo", .int d, .ref p, .bl t]) = H10 at s10 T10e ⊢
          refine ⟨_, rfl, T10, D, p, d, 40, rs, s, t, rfl, T10e, l9.same s10, s10 _ _ tp9, bs, d60, by omega, by decide, by decide, bd5, fun M2 H11 t11 s11 => ?_⟩
          have s911 := s10.trans s11
          obtain ⟨psA, RA⟩ := t11.row
          obtain ⟨psB, RB⟩ := (t9.same s911).row
          refine ⟨_, rfl, _, _, RA.dp, RB.dp, tups_shaped _, tups_shaped _, ?_⟩
          rw [rows_self]
          refine ⟨_, rfl, iteF ?_⟩
          have bd2 : ∀ r ∈ echoL d s t rs, Bd 181 r := fun r hr => (echoL_bd (by decide) bs bd5 r hr)
          have bd3 : ∀ r ∈ echoL d s t (echoL d s t rs), Bd 1900 r := fun r hr => (echoL_bd (by decide) bs bd2 r hr).le (by decide)
          have le2 : (echoL d s t rs).length ≤ 100 := by rw [echoL_len]; exact lz
          have le3 : (echoL d s t (echoL d s t rs)).length ≤ 1000 := by
            rw [echoL_len]
            unfold lenE
            split <;> omega
          refine ⟨_, rfl, _, rfl, _, rfl, _, rfl, M, p, d, 181, echoL d s t rs, s, t, rfl, t9.same s911, s911 _ _ tp9, bs, d60, d1, by omega, by decide, by decide, bd2, fun M3 H12 t12 n12 s12 => ?_⟩
          have s912 := s911.trans s12
          have he12 := he9.same s912
          obtain ⟨dx12, q12, ee12, _⟩ := id he12
          refine ⟨_, rfl, x, rfl, _, rfl, x, rfl, _, rfl, .inr ⟨_, _, ee12⟩, x, c, d, 40, s, t, rs, rfl, he12, d60, bs, c9.same s912, by omega, by decide, by decide, bd5, fun m1 H13 c13 n13 s13 => ?_⟩
          have he13 := he12.same s13
          obtain ⟨dx13, q13, ee13, _⟩ := id he13
          refine ⟨.inr ⟨_, _, ee13⟩, x, m1, d, 181, s, t, echoL d s t rs, rfl, he13, d60, bs, c13, by omega, by decide, by decide, bd2, fun m2 H14 c14 n14 s14 => ?_⟩
          have s1214 := s13.trans s14
          obtain ⟨psC, RC⟩ := (t12.same s1214).row
          refine ⟨_, rfl, m2, M3, psC, _, rfl, c14, RC, bd3, le3, fun H15 s15 => ⟨_, rfl, iteF ?_⟩⟩
          have s915 := (s912.trans s1214).trans s15
          exact ⟨_, _, _, _, _, _, rfl, (p9.same s915).le (by omega), k9.trans (Kp.same ht9 s915), he9.same s915, s915 _ _ tp9, s915 _ _ eL9⟩
    · rintro σ H4 ⟨v5, v6, v7, v8, v9, v10, rfl, p4, k4, he4, tp4, eL4⟩
      exact kk _ (p4.le (by show n + 2 + 16 * 5 ≤ n + 90; omega)) k4
end
end My
set_option pp.maxSteps 1500
set_option pp.deepTerms.threshold 8
/-! ### the law -/
namespace My
open PySem PySem.Spec PyProof.Rows L2 GenW
abbrev s_law : Stmt := topS 63
theorem sc_law : FnScope ["_law_script", "_law_pen_here", "_law_turn", "_law_delay", "_law_far", "_law_at", "_law_first"] ["_law_script"] (defScope s_law) := ⟨rfl, rfl, rfl, by decide +kernel, rfl, by decide +kernel, by decide +kernel⟩
theorem tabs_same {TS : List (Addr × Str)} {H H' : Hp} (t : LamX.Tabs TS H) (s : Same H H') : LamX.Tabs TS H' := t.ext s
/-- a clip made of numbers -/
theorem clipN_at {Cs : List Addr} {CR CC CS CM : Addr} (inn : CR ∈ Cs) {H : Hp} {x dx : Addr} {xs : List V} {rs : List (Int × Int)} {R : Hp → Prop} {E : XK} (hn : Nums CR H xs rs) (l : xs.length ≤ 2000) (hx : H x = none) (hd : H dx = none) (ne : dx ≠ x) (k : ∀ H', ClipAt CC CR H' x rs → Same H H' → R H') :
    spClip Cs CR CC CS CM (.ref x :: xs) (upd (upd H dx (.own x)) x (.ins CC dx [])) (fun v H2 => v = .non ∧ R H2) E := by
  obtain ⟨y, dy, xs, e1, e2, hl, ty, k0, kk, k2⟩ := clip_at (CS := CS) (CM := CM) (E := E) (R := fun c H' => c = x → R H') (clip_to inn (fun rs' z => Nums.eq hn z) hn l fun c H' hc _ s e => k H' (e ▸ hc) s) hx hd ne
  exact ⟨y, dy, xs, e1, e2, hl, ty, k0, fun z rs e H' po kp => ⟨rfl, (kk z rs e H' po kp).2 rfl⟩, k2⟩
theorem nums111 {C : Addr} {H : Hp} : Nums C H [.int 1, .int 1, .int 1] [(1, 1), (1, 1), (1, 1)] := ⟨rfl, fun i v r e1 e2 => by
  match i with
  | 0 => cases e1; cases e2; exact .inr ⟨rfl, rfl⟩
  | 1 => cases e1; cases e2; exact .inr ⟨rfl, rfl⟩
  | 2 => cases e1; cases e2; exact .inr ⟨rfl, rfl⟩
  | i + 3 => simp at e1⟩
def farL (n : Nat) : List (Int × Int) := (List.range n).map fun (i : Nat) => (0 + (i : Int) + 1, 1)
theorem farL_succ (n : Nat) : farL (n + 1) = farL n ++ [(0 + (n : Int) + 1, 1)] := by
  unfold farL
  rw [List.range_succ, List.map_append]
  rfl
theorem farL_len (n : Nat) : (farL n).length = n := by
  unfold farL
  rw [List.length_map, List.length_range]
theorem farL_bd {n : Nat} (h : n ≤ 100) : ∀ r ∈ farL n, Bd 7 r := fun r hr => by
  obtain ⟨i, hi, rfl⟩ := List.mem_map.mp hr
  have hi := List.mem_range.mp hi
  refine ⟨⟨by show (0 : Int) < 1; decide, ?_⟩, ?_, by show (1 : Int).natAbs < 2 ^ 7; decide⟩
  · show Int.gcd (0 + (i : Int) + 1) 1 = 1
    exact Nat.gcd_one_right _
  · show (0 + (i : Int) + 1).natAbs < 2 ^ 7
    omega
def spLaw (K : PySem.W.Frag) (TS : List (Addr × Str)) : Sp := fun vs H Q _ => ∃ (a : Addr) (ns : List Int), vs = [.ref a] ∧ SqL K H a (ns.map V.int) ∧ LamX.Tabs TS H ∧ ∀ H', Q (.bl true) H'
section
variable {P : Program} {w : World} {K : PySem.W.Frag} {mg : Str → Option Value} {base : Heap} {Cs : List Addr} {CR CC CL fL CP fP CS fS CM fM CE CSt : Addr} {tM tF : Tok}
theorem ok_law {f c0 tb : Addr} {fd : FuncData} {TS : List (Addr × Str)} (F : FunC K "law" "law" s_law f fd c0) (T : ETx P K mg Cs CR CC CL fL CP fP CS fS CM fM CE CSt tM tF) (DL : LedAt K mg)
    (TB : LamX.TabB base mg c0 tb) (hmT : (tb, (("law" : Str) ++ ".<locals>.") ++ "<lambda>") ∈ TS) (hu : ∀ p ∈ TS, p.1 = tb → p.2 = (("law" : Str) ++ ".<locals>.") ++ "<lambda>") (nq : PySem.W.noSeq K CC = true)
    (D_pen : DefAt P w K mg base CX0 1 "_law_pen" ["_law_script"] (spPen K)) (D_pick : DefAt P w K mg base CX0 2 "_law_pick" ["_law_pen_here", "_law_some"] spPickC) (D_draw : DefAt P w K mg base CX0 1 "_law_draw" ["_law_pen_here", "_law_many"] spDrawC) (D_lshare : DefAt P w K mg base CX0 3 "_law_share" ["_law_pen_here"] spLshare)
    (D_echoR : DefG P w K mg base CX0 16 "_law_echo_right" ["_law_pen_here", "_law_delay", "_law_share_here", "_law_has_tail"] (spEchoR TS))
    (D_lis : DefG P w K mg base CX0 5 "_law_is" ["_law_clip_here", "_law_row"] (spLis CC CR)) (C_Echo : CallAt P w K mg base CX0 9 CE ["self", "clip"] (spEcall CE CC CR)) (M_Clip : MakeR P w K mg base (L2.CX P w) 6 "Clip" CC (spClip Cs CR CC CS CM))
    (X_do : MethAt P w K mg base CX0 12 CC "do" ["self", "step"] (spDo CE CC CR)) (M_Echo3 : MakeAt P w K mg base CX0 8 "Echo" CE ["self", "delay", "share", "tail"] (spEchinit CE CR) []) (M_Echo2 : MakeAt P w K mg base CX0 8 "Echo" CE ["self", "delay", "share", "tail"] (spEchinit CE CR) [.bl false]) (M_Ratio : MakeAt P w K mg base (L2.CX P w) 3 "Ratio" CR ["self", "top", "bottom"] (spRinit CR) [])
    (I_cset : CmpAt P w K mg base (L2.CX P w) 6 CC "__setitem__" ["self", "at", "worth"] (spCset Cs CC CR CP CS)) (D_lclip : DefAt P w K mg base CX0 9 "_law_clip" ["_law_row"] (spLclip CC CR)) (D_echoed : DefAt P w K mg base CX0 5 "_law_echoed" ["_law_row", "_law_delay", "_law_share_here", "_law_has_tail"] spEchoed) :
    FnG P w K mg base CX0 17 f fd ["_law_script"] (spLaw K TS) := by
  refine okGc F sc_law (fun vs H Q E h => ?_) (fun A outer s0 H vs Q E hgd hr h => ?_)
  · obtain ⟨a, ns, rfl, _⟩ := h
    rfl
  · obtain ⟨sc, ns, rfl, hS, ht, k⟩ := h
    refine ⟨_, (pss_cons (ps_set (i := 1) sc_law.nd rfl (Or.inl rfl) (My.pe_d D_pen (hr.mono (by decide)) (by rfl) pass0 (pa_cons (pv 0) pa_nil)))
      (pss_cons (ps_for PassesOwn.never rfl (pi_range1 rfl T.z_range (pa_cons pe_int pa_nil)) (pg_name (i := 2) sc_law.nd rfl (Or.inl rfl)) (pss_cons (ps_set (i := 3) sc_law.nd rfl (Or.inl rfl) (My.pe_d D_pick (hr.mono (by decide)) (by rfl) pass0 (pa_cons (pv 1) (pa_cons (pe_lst (pa_cons pe_int (pa_cons pe_int (pa_cons pe_int (pa_cons pe_int (pa_cons pe_int (pa_cons pe_int (pa_cons pe_int pa_nil)))))))) pa_nil))))
      (pss_one (ps_if (pt_not (pt_val (My.pe_dG D_echoR hgd (hr.mono (by decide)) (by rfl) pass0 (pa_cons (pv 1) (pa_cons (pv 3) (pa_cons (My.pe_d D_lshare (hr.mono (by decide)) (by rfl) pass0 (pa_cons (pv 1) pa_nil)) (pa_cons (pe_cmpR op_eq (My.pe_d D_draw (hr.mono (by decide)) (by rfl) pass0 (pa_cons (pv 1) (pa_cons pe_int pa_nil))) pe_int (nomark _)) pa_nil))))))) (pss_one (ps_ret pe_bl)) pss_nil))))
      (pss_cons (ps_if (PW.pt (pw_or (pt_not (pt_val (My.pe_dG D_lis hgd (hr.mono (by decide)) (by rfl) pass0 (pa_cons (My.pe_cl C_Echo (hr.mono (by decide)) pass0 (My.pe_mk M_Echo3 (hr.mono (by decide)) (by rfl) pass0 (pa_cons pe_int (pa_cons pe_int (pa_cons pe_bl pa_nil)))) (pa_cons (My.pe_mkR0 M_Clip (hr.mono (by decide)) (by rfl) passL) pa_nil)) (pa_cons (pe_op op_rep (pe_lst (pa_cons (pe_tup (pa_cons pe_int (pa_cons pe_int pa_nil))) pa_nil)) pe_int) pa_nil))))) (pw_or1 (pt_not (pt_val (My.pe_dG D_lis hgd (hr.mono (by decide)) (by rfl) pass0 (pa_cons (My.pe_cl C_Echo (hr.mono (by decide)) pass0 (My.pe_mk M_Echo2 (hr.mono (by decide)) (by rfl) pass0 (pa_cons pe_int (pa_cons pe_int pa_nil))) (pa_cons (My.pe_mkR0 M_Clip (hr.mono (by decide)) (by rfl) passL) pa_nil)) (pa_cons (pe_lst pa_nil) pa_nil)))))))) (pss_one (ps_ret pe_bl)) pss_nil)
      (pss_cons (ps_setLc (i := 4) (own := [("_law_at", 5)]) rfl sc_law.nd rfl rfl (sw_true rfl rfl rfl rfl) (pi_range1 rfl T.z_range (pa_cons (pe_op op_add pe_int (My.pe_d D_draw (hr.mono (by decide)) (by rfl) pass0 (pa_cons (pv 1) (pa_cons pe_int pa_nil)))) pa_nil)) (blkOk_by (by show blkC ["_law_script", "_law_pen_here", "_law_turn", "_law_delay", "_law_far", "_law_at", "_law_first"] (defScope s_law) _ _ = true; decide +kernel)) (fun _ _ _ _ _ => (pg_name (i := 5) sc_law.nd rfl (Or.inl rfl))) (fun _ _ _ _ _ => pts_nil) (fun _ _ _ _ _ => (pe_tup (pa_cons (pe_op op_add (pv 5) pe_int) (pa_cons pe_int pa_nil)))))
      (pss_cons (ps_if (pt_not (pt_val (My.pe_ledR DL T D_lis C_Echo M_Clip X_do M_Echo3 M_Ratio I_cset nq hgd (hr.mono (by decide)) (My.pe_mk M_Echo2 (hr.mono (by decide)) (by rfl) pass0 (pa_cons pe_int (pa_cons pe_int pa_nil))) (My.pe_d D_lclip (hr.mono (by decide)) (by rfl) pass0 (pa_cons (pv 4) pa_nil)) (pv 4) TB rfl hmT hu (by rfl) (LamP.lamN_by (ls := []) (ps := ["_law_some"]) (by show LamP.lamNB (defScope s_law) _ ["_law_script", "_law_pen_here", "_law_turn", "_law_delay", "_law_far", "_law_at", "_law_first"] ["_law_some"] [] = true; decide +kernel)) rfl (fun q cl pm cv ctv us hl => match us, hl with | [_], _ => rfl) (fun A outer s H E f c hrl => (My.pe_d D_echoed (hrl.mono (by decide)) (by rfl) pass0 (pa_cons (pv 7) (pa_cons pe_int (pa_cons (pe_tup (pa_cons pe_int (pa_cons pe_int pa_nil))) (pa_cons pe_bl pa_nil))))))))) (pss_one (ps_ret pe_bl)) pss_nil)
      (pss_cons (ps_set (i := 6) sc_law.nd rfl (Or.inl rfl) (My.pe_cl C_Echo (hr.mono (by decide)) pass0 (My.pe_mk M_Echo3 (hr.mono (by decide)) (by rfl) pass0 (pa_cons pe_int (pa_cons (pe_un un_neg pe_int) (pa_cons pe_bl pa_nil)))) (pa_cons (My.pe_mkR M_Clip (hr.mono (by decide)) (by rfl) passL (pa_cons pe_int (pa_cons pe_int (pa_cons pe_int pa_nil)))) pa_nil)))
      (pss_one (ps_ret (pe_and (My.pe_dG D_lis hgd (hr.mono (by decide)) (by rfl) pass0 (pa_cons (pv 6) (pa_cons (pe_lst (pa_cons (pe_tup (pa_cons pe_int (pa_cons pe_int pa_nil))) (pa_cons (pe_tup (pa_cons pe_int (pa_cons pe_int pa_nil))) (pa_cons (pe_tup (pa_cons pe_int (pa_cons pe_int pa_nil))) (pa_cons (pe_tup (pa_cons (pe_un un_neg pe_int) (pa_cons pe_int pa_nil))) pa_nil))))) pa_nil))) (pe_one (My.pe_dG D_echoR hgd (hr.mono (by decide)) (by rfl) pass0 (pa_cons (pv 1) (pa_cons pe_int (pa_cons (pe_tup (pa_cons pe_int (pa_cons pe_int pa_nil))) (pa_cons pe_bl pa_nil))))))))))))))), ?_⟩
    refine ⟨_, rfl, sc, ns, rfl, hS, fun pn H1 h1 p1 s1 => ?_⟩
    obtain ⟨cl0, pc0⟩ : ∃ cl, PenC H1 pn cl 0 := p1
    refine ⟨8, rfl, by decide, by decide, for_range (fun i σ H' => ∃ cl v2 v3, σ = [some (.ref sc), some (.ref pn), v2, v3, none, none, none] ∧ PenC H' pn cl (100 * i) ∧ LamX.Tabs TS H') ⟨cl0, none, none, rfl, pc0, tabs_same ht s1⟩ ?_ ?_⟩
    · rintro i σ H2 hi ⟨cl, v2, v3, rfl, hp, t2⟩
      have hi8 : i < 8 := by omega
      refine ⟨_, rfl, (by show 7 ≤ sizeLine; decide), fun l hl => ?_⟩
      have nl : l ≠ pn := pen_ne hp.pen hl
      have s2 := same_new (o := .lst [.int 1, .int 1, .int 2, .int 3, .int 4, .int 7, .int 60]) hl
      refine ⟨pn, cl, l, 100 * i, _, rfl, upd_same, nl, by show 0 < 7; decide, by show 7 ≤ 1000; decide, hp.same s2, by omega, fun v H3 hv p3 u3 => ?_⟩
      have t3 : LamX.Tabs TS H3 := tabs_but (tabs_same t2 s2) (hp.same s2).pen u3
      have hd : ∃ d : Nat, v = .int d ∧ 1 ≤ d ∧ d ≤ 60 := by
        simp only [List.mem_cons, List.not_mem_nil, or_false] at hv
        rcases hv with rfl | rfl | rfl | rfl | rfl | rfl | rfl
        · exact ⟨1, rfl, by decide, by decide⟩
        · exact ⟨1, rfl, by decide, by decide⟩
        · exact ⟨2, rfl, by decide, by decide⟩
        · exact ⟨3, rfl, by decide, by decide⟩
        · exact ⟨4, rfl, by decide, by decide⟩
        · exact ⟨7, rfl, by decide, by decide⟩
        · exact ⟨60, rfl, by decide, by decide⟩
      obtain ⟨d, rfl, d1, d60⟩ := hd
      refine ⟨_, rfl, _, rfl, _, rfl, pn, cl, 100 * i + 1, rfl, p3, by omega, fun q s H4 tq sh p4 u4 => ?_⟩
      have t4 := tabs_but t3 p3.pen u4
      refine ⟨_, rfl, pn, cl, 2, 100 * i + 2, rfl, by decide, by decide +kernel, p4, by omega, fun j H5 j0 j2 p5 u5 => ?_⟩
      have t5 := tabs_but t4 p4.pen u5
      have tq5 : TupAt H5 q s := u5 _ _ tq (fun z => p4.notup _ (by rw [← z]; exact tq))
      refine ⟨rfl, pn, cl, q, d, s, _, 100 * i + 3, rfl, tq5, sh, d1, d60, p5, by omega, t5, fun H6 p6 k6 => ⟨_, rfl, iteF ?_⟩⟩
      exact ⟨cl, _, _, rfl, p6.le (by omega), k6.tabs⟩
    · rintro σ H2 ⟨cl, v2, v3, rfl, hp, t2⟩
      refine fun x dx hx hd ne => echo_at (d := 3) (s := (1, 1)) (by decide) (by decide) (.inr ⟨rfl, rfl⟩) ⟨⟨by decide, by decide⟩, by decide, by decide⟩ hx hd ne fun H3 he3 s3 => ?_
      have b11 : Bd 100 ((1 : Int), (1 : Int)) := ⟨⟨by decide, by decide⟩, by decide, by decide⟩
      refine ⟨x, rfl, fun c dc hc hdc ne => clip0_at T.inn hc hdc ne fun H4 c4 s4 => ?_⟩
      have he4 := he3.same s4
      obtain ⟨dx4, q4, ee4, _⟩ := id he4
      refine ⟨.inr ⟨_, _, ee4⟩, x, c, 3, 1, (1, 1), true, [], rfl, he4, by decide, b11, c4, (by show 0 ≤ 500; decide), by decide, by decide, (fun r hr => nomatch hr), fun m H5 c5 n5 s5 => ?_⟩
      rw [show echoL 3 (1, 1) true [] = [(0, 1), (0, 1), (0, 1)] by decide +kernel] at c5
      refine ⟨(by show 2 ≤ sizeLine; decide), fun t1 h1 => ⟨(by show 1 ≤ sizeLine; decide), fun l2 h2 => ?_⟩⟩
      have a1 := same_new (o := .tup [.int 0, .int 1]) h1
      have a2 := same_new (o := .lst [.ref t1]) h2
      have u1 : TupAt _ t1 (0, 1) := a2 _ _ (upd_same (H := H5) (a := t1) (o := .tup [.int 0, .int 1]))
      have s6 := a1.trans a2
      have u2 : (upd (upd H5 t1 (.tup [.int 0, .int 1])) l2 (.lst [.ref t1])) l2 = some (.lst [.ref t1]) := upd_same
      generalize upd (upd H5 t1 (.tup [.int 0, .int 1])) l2 (.lst [.ref t1]) = H6 at s6 u1 u2 ⊢
      refine ⟨l2, 3, _, rfl, rfl, u2, by decide, by decide, (by show 1 * 3 ≤ sizeLine; decide), fun l3 h3 => ?_⟩
      have s7 := same_new (o := .lst (List.replicate (Int.toNat 3) [V.ref t1]).flatten) h3
      have R7 : RowK (upd H6 l3 (.lst (List.replicate (Int.toNat 3) [V.ref t1]).flatten)) l3 [t1, t1, t1] [(0, 1), (0, 1), (0, 1)] := by
        refine ⟨upd_same, rfl, fun i p r e1 e2 => ?_⟩
        match i with
        | 0 => cases e1; cases e2; exact s7 _ _ u1
        | 1 => cases e1; cases e2; exact s7 _ _ u1
        | 2 => cases e1; cases e2; exact s7 _ _ u1
        | i + 3 => simp at e1
      have b01 : ∀ r ∈ [((0 : Int), (1 : Int)), (0, 1), (0, 1)], Bd 1900 r := fun r hr => by
        simp only [List.mem_cons, List.not_mem_nil, or_false, or_self] at hr
        rw [hr]
        exact Bd.zero (by decide)
      refine ⟨m, l3, _, _, rfl, c5.same (s6.trans s7), R7, b01, by decide, fun H8 s8 => ⟨_, rfl, iteF ?_⟩⟩
      have s28 := ((((s3.trans s4).trans s5).trans s6).trans s7).trans s8
      refine fun x2 dx2 hx2 hd2 ne2 => echo_at (d := 3) (s := (1, 1)) (t := false) (by decide) (by decide) (.inr ⟨rfl, rfl⟩) ⟨⟨by decide, by decide⟩, by decide, by decide⟩ hx2 hd2 ne2 fun H9 he9 s9 => ?_
      refine ⟨x2, rfl, fun c2 dc2 hc2 hdc2 ne2 => clip0_at T.inn hc2 hdc2 ne2 fun H10 c10 s10 => ?_⟩
      have he10 := he9.same s10
      obtain ⟨dx10, q10, ee10, _⟩ := id he10
      refine ⟨.inr ⟨_, _, ee10⟩, x2, c2, 3, 1, (1, 1), false, [], rfl, he10, by decide, b11, c10, (by show 0 ≤ 500; decide), by decide, by decide, (fun r hr => nomatch hr), fun m2 H11 c11 n11 s11 => ?_⟩
      rw [show echoL 3 (1, 1) false [] = [] by decide +kernel] at c11
      refine ⟨(by show 0 ≤ sizeLine; decide), fun l12 h12 => ?_⟩
      have s12 := same_new (o := .lst []) h12
      refine ⟨m2, l12, [], [], rfl, c11.same s12, ⟨upd_same, rfl, fun i p r e _ => by simp at e⟩, (fun r hr => nomatch hr), by decide, fun H13 s13 => ⟨_, rfl, iteF ?_⟩⟩
      have s213 := ((((s28.trans s9).trans s10).trans s11).trans s12).trans s13
      have p13 := hp.same s213
      have t13 := tabs_same t2 s213
      clear c4 c5 c10 c11 he3 he4 he9 he10 R7
      refine ⟨_, rfl, pn, cl, 9, 100 * 8, rfl, by decide, by decide +kernel, p13, by omega, fun j H14 j0 j9 p14 u14 => ?_⟩
      obtain ⟨J, rfl⟩ := Int.eq_ofNat_of_zero_le j0
      have t14 := tabs_but t13 p13.pen u14
      refine ⟨_, _, rfl, rfl, (61 + J : Nat), rfl, by omega, by omega, fun D hD => ?_⟩
      have s15 := same_new (o := .lst []) hD
      refine lc_range (lo := 0) (n := 61 + J) (fun j Hh => ∃ ps, RowK Hh D ps (farL j) ∧ Same H14 Hh) ⟨[], ⟨upd_same, rfl, fun i p r e _ => by simp at e⟩, s15⟩ ?_ ?_
      · rintro j Hh hj ⟨ps, R, sh⟩
        refine ⟨rfl, yes_go ⟨_, rfl, _, _, rfl, rfl, (by show 2 ≤ sizeLine; decide), fun p hp => ?_⟩⟩
        have R3 := R.same (same_new (o := .tup [.int (0 + (j : Int) + 1), .int 1]) hp)
        have tp : TupAt (upd Hh p (.tup [.int (0 + (j : Int) + 1), .int 1])) p (0 + (j : Int) + 1, 1) := upd_same
        refine ⟨_, R3.l, ?_, ps ++ [p], by rw [farL_succ]; exact R3.snoc tp, ?_⟩
        · rw [List.length_map, R.len, farL_len, sizeLine_eq]
          omega
        · intro b o e
          rw [upd_ne (ne_of_none e hD)]
          exact (same_new hp) _ _ (sh _ _ e)
      · rintro H15 ⟨ps, R, s1⟩
        have b21 : Bd 100 ((2 : Int), (1 : Int)) := ⟨⟨by decide, by decide⟩, by decide +kernel, by decide +kernel⟩
        have bF := farL_bd (n := 61 + J) (by omega)
        have lF := farL_len (61 + J)
        refine fun x3 dx3 hx3 hd3 ne3 => echo_at (d := 60) (s := (2, 1)) (t := false) (by decide) (by decide) (.inr ⟨rfl, rfl⟩) ⟨⟨by decide, by decide⟩, by decide, by decide⟩ hx3 hd3 ne3 fun H16 he16 s16 => ?_
        refine ⟨_, rfl, D, ps, farL (61 + J), rfl, R.same s16, by omega, fun r hr => ⟨(bF r hr).1, ((bF r hr).ok (by decide)).2.2⟩, fun c H17 c17 n17 s17 => ?_⟩
        have s1417 := (s1.trans s16).trans s17
        have t17 := tabs_same t14 s1417
        refine ⟨_, rfl, t17, fun H18 x18 t18 => ?_⟩
        have c18 := c17.ext x18
        refine ⟨x3, c, D, 60, 7, (2, 1), false, farL (61 + J), rfl, (he16.same s17).ext x18, by decide, by decide, b21, c18, (R.tl.same (s16.trans s17)).ext x18, by omega, by decide, by decide, bF, fun H' l' ss Q' u' tl' ls' bd' q' => ?_, fun H19 c19 u19 => ?_⟩
        · refine ⟨_, rfl, (by show 2 ≤ sizeLine; decide), fun p hp => ?_⟩
          have sp := same_new (o := .tup [.int 2, .int 1]) hp
          refine ⟨l', p, 60, 7, ss, (2, 1), false, rfl, tl'.same sp, upd_same, b21, by decide, by decide, by omega, by decide, by decide, bd', fun m H2 tm nm sm => q' m H2 tm (none_back sp nm) (sp.trans sm)⟩
        · refine ⟨_, rfl, iteF ?_⟩
          have p19 := ((p14.same s1417).ext x18).but c18 u19
          have t19 := tabs_clip t18 c18 u19
          refine ⟨_, rfl, fun x4 dx4 hx4 hd4 ne4 => echo_at (d := 1) (s := (-1, 1)) (t := true) (by decide) (by decide) (.inr ⟨rfl, rfl⟩) ⟨⟨by decide, by decide⟩, by decide, by decide⟩ hx4 hd4 ne4 fun H20 he20 s20 => ?_⟩
          refine ⟨x4, rfl, fun c5 dc5 hc5 hdc5 ne5 => clipN_at T.inn nums111 (by decide) hc5 hdc5 ne5 fun H21 c21 s21 => ?_⟩
          have he21 := he20.same s21
          obtain ⟨dx21, q21, ee21, _⟩ := id he21
          refine ⟨.inr ⟨_, _, ee21⟩, x4, c5, 1, 1, (-1, 1), true, [(1, 1), (1, 1), (1, 1)], rfl, he21, by decide, ⟨⟨by decide, by decide⟩, by decide, by decide⟩, c21, (by show 3 ≤ 500; decide), by decide, by decide, (fun r hr => ?_), fun m H22 c22 n22 s22 => ?_⟩
          · simp only [List.mem_cons, List.not_mem_nil, or_false, or_self] at hr
            rw [hr]
            exact ⟨⟨by decide, by decide⟩, by decide, by decide⟩
          rw [show echoL 1 (-1, 1) true [(1, 1), (1, 1), (1, 1)] = [(1, 1), (0, 1), (0, 1), (-1, 1)] by decide +kernel] at c22
          have s1922 := (s20.trans s21).trans s22
          refine ⟨_, rfl, (by show 2 ≤ sizeLine; decide), fun a1 h1 => ⟨(by show 2 ≤ sizeLine; decide), fun a2 h2 => ⟨(by show 2 ≤ sizeLine; decide), fun a3 h3 => ⟨_, rfl, (by show 2 ≤ sizeLine; decide), fun a4 h4 => ⟨(by show 4 ≤ sizeLine; decide), fun l5 h5 => ?_⟩⟩⟩⟩⟩
          have z1 := same_new (o := .tup [.int 1, .int 1]) h1
          have z2 := same_new (o := .tup [.int 0, .int 1]) h2
          have z3 := same_new (o := .tup [.int 0, .int 1]) h3
          have z4 := same_new (o := .tup [.int (-1), .int 1]) h4
          have z5 := same_new (o := .lst [.ref a1, .ref a2, .ref a3, .ref a4]) h5
          have z15 := (((z1.trans z2).trans z3).trans z4).trans z5
          have R5 : RowK _ l5 [a1, a2, a3, a4] [(1, 1), (0, 1), (0, 1), (-1, 1)] := ⟨upd_same (H := upd (upd (upd (upd H22 a1 (.tup [.int 1, .int 1])) a2 (.tup [.int 0, .int 1])) a3 (.tup [.int 0, .int 1])) a4 (.tup [.int (-1), .int 1])) (a := l5) (o := .lst [.ref a1, .ref a2, .ref a3, .ref a4]), rfl, fun i p r e1 e2 => by
            match i with
            | 0 => cases e1; cases e2; exact z5 _ _ (z4 _ _ (z3 _ _ (z2 _ _ upd_same)))
            | 1 => cases e1; cases e2; exact z5 _ _ (z4 _ _ (z3 _ _ upd_same))
            | 2 => cases e1; cases e2; exact z5 _ _ (z4 _ _ upd_same)
            | 3 => cases e1; cases e2; exact z5 _ _ upd_same
            | i + 4 => simp at e1⟩
          refine ⟨m, l5, [a1, a2, a3, a4], [(1, 1), (0, 1), (0, 1), (-1, 1)], rfl, c22.same z15, R5, (fun r hr => ?_), by decide, fun H24 s24 => ?_⟩
          · simp only [List.mem_cons, List.not_mem_nil, or_false] at hr
            rcases hr with rfl | rfl | rfl | rfl <;> exact ⟨⟨by decide, by decide⟩, by decide +kernel, by decide +kernel⟩
          have s1924 := (s1922.trans z15).trans s24
          have p24 := p19.same s1924
          have t24 := tabs_same t19 s1924
          refine ⟨_, rfl, iteT ?_⟩
          refine ⟨_, rfl, (by show 2 ≤ sizeLine; decide), fun p hp => ?_⟩
          have sp := same_new (o := .tup [.int 1, .int 1]) hp
          refine ⟨pn, cl, p, 8, (1, 1), true, 801, rfl, upd_same, ⟨⟨by decide, by decide⟩, by decide, by decide⟩, by decide, by decide, p24.same sp, by decide, tabs_same t24 sp, fun H26 p26 k26 => ?_⟩
          exact k _
end
end My
namespace My
open PySem PySem.Spec PyProof.Rows L2
abbrev s_eBadLength : Stmt := inClass (topS 6) 0
abbrev s_eBadPlace : Stmt := inClass (topS 5) 0
abbrev s_eBadSample : Stmt := inClass (topS 7) 0
abbrev s_eTooMany : Stmt := inClass (topS 10) 0
theorem all_mk {l : PySem.W.OpenLaw} {w : World} {K : PySem.W.Frag} {h : Heap} {mg : Str → Option Value} {fa CR CC CL fL CP fP CS fS CM fM CE CSt CEd fEd : Addr}  {c1 t1 : Addr} {c2 t2 : Addr} (hfa : mg "law" = some (.ref fa))
    (_gR : mg "Ratio" = some (.ref CR))
    (_gC : mg "Clip" = some (.ref CC))
    (_gBadLength : mg "BadLength" = some (.ref CL))
    (_iBadLength : PySem.W.findIn K (.ref CL) "__init__" = some (some (.ref fL)))
    (_gBadPlace : mg "BadPlace" = some (.ref CP))
    (_iBadPlace : PySem.W.findIn K (.ref CP) "__init__" = some (some (.ref fP)))
    (_gBadSample : mg "BadSample" = some (.ref CS))
    (_iBadSample : PySem.W.findIn K (.ref CS) "__init__" = some (some (.ref fS)))
    (_gTooMany : mg "TooMany" = some (.ref CM))
    (_iTooMany : PySem.W.findIn K (.ref CM) "__init__" = some (some (.ref fM)))
    (_gE : mg "Echo" = some (.ref CE))
    (_gStep : mg "Step" = some (.ref CSt))
    (_gEd : mg "Edit" = some (.ref CEd))
    (_iEd : PySem.W.findIn K (.ref CEd) "__init__" = some (some (.ref fEd)))
    (bi : BI mg)
    (o_CR : Own K CR)
    (mk_CR : PySem.W.makesIn K CR = true)
    (kp_CR : PySem.W.keepIn K (.ref CR) = true)
    (o_CC : Own K CC)
    (mk_CC : PySem.W.makesIn K CC = true)
    (kp_CC : PySem.W.keepIn K (.ref CC) = true)
    (x_CR_CC : PySem.W.kitOne K (.ref CR) (.ref CC) = some false ∧ PySem.W.notFirst K CC (.ref CR) = true)
    (x_CC_CR : PySem.W.kitOne K (.ref CC) (.ref CR) = some false ∧ PySem.W.notFirst K CR (.ref CC) = true)
    (nd : [CR, CC].Nodup)
    (n_top : NoAttr K CR "top")
    (n_bottom : NoAttr K CR "bottom")
    (n_samples : NoAttr K CC "samples")
    (z_str : mg "str" = none)
    (z_tuple : mg "tuple" = none)
    (z_enumerate : mg "enumerate" = none)
    (z_zip : mg "zip" = none)
    (e_BadLength : Sup.Err1 l.prog K mg "BadLength" "value" CL fL)
    (e_BadPlace : Sup.Err1 l.prog K mg "BadPlace" "value" CP fP)
    (e_BadSample : Sup.Err1 l.prog K mg "BadSample" "at" CS fS)
    (e_TooMany : Sup.Err2 l.prog K mg "TooMany" "what" "most" CM fM)
    (rd : ∃ mc u, ClX.CRead K CC mc ∧ ClX.CVal K CC mc "LONGEST" (.int 2000) u)
    (hm : PySem.W.mroIn K CC (.type "object") = some true)
    (ne0 : PySem.W.findIn K (.ref CC) "__ne__" = some (some (.builtin "object.__ne__")))
    (nq : PySem.W.noSeq K CC = true)
    (A_rinit : HasD K CR "__init__" "Ratio.__init__" s_rinit [.int 1] [])
    (A_isnum : HasS K CR "is_number" "Ratio.is_number" s_isnum)
    (A_of : HasS K CR "of" "Ratio.of" s_of)
    (A_cinit : HasM K CC "__init__" "Clip.__init__" s_cinit)
    (A_cof : HasCM K CC "of" "Clip.of" s_cof)
    (A_whole0 : Has K mg "is_whole" s_whole0)
    (A_cd : Has K mg "common_divisor" s_cd)
    (A_partsof : Has K mg "parts_of" s_partsof)
    (A_isint : Has K mg "is_integer" s_isint)
    (A_isbtw : Has K mg "is_between" s_isbtw)
    (A_needplc : Has K mg "need_place" s_needplc)
    (A_isstr : Has K mg "is_stretch" s_isstr)
    (A_ratof : Has K mg "ratio_of" s_ratof)
    (A_pen : Has K mg "_law_pen" s_pen)
    (A_draw : Has K mg "_law_draw" s_draw)
    (A_pick : Has K mg "_law_pick" s_pick)
    (oE : Own K CE)
    (mkE : PySem.W.makesIn K CE = true)
    (kpE : PySem.W.keepIn K (.ref CE) = true)
    (n_own_span : NoAttr K CE "own_span")
    (n_delay : NoAttr K CE "delay")
    (n_share : NoAttr K CE "share")
    (n_tail : NoAttr K CE "tail")
    (gMost : ∃ t, mg "MOST" = some (.int 60 t))
    (gFar : ∃ t, mg "FARTHEST" = some (.int 10000000000000000000000000000000000000000 t))
    (isStep : PySem.W.kitOne K (.ref CE) (.ref CSt) = some true)
    (z_max : mg "max" = none)
    (z_min : mg "min" = none)
    (U : SupM.SupOf l.prog K mg CE fEd "__init__")
    (A_echinit : HasX l.prog K CE "__init__" "Echo.__init__" s_echinit [.bl false])
    (B_radd : BinF K CR (Operator.info .Add).2)
    (B_rmul : BinF K CR (Operator.info .Mult).2)
    (A_radd : HasM K CR "__add__" "Ratio.__add__" s_radd)
    (A_rmul : HasM K CR "__mul__" "Ratio.__mul__" s_rmul)
    (A_ceach : HasM K CC "each" "Clip.each" s_ceach)
    (A_clen : HasM K CC "__len__" "Clip.__len__" s_clen)
    (A_cset : HasM K CC "__setitem__" "Clip.__setitem__" s_cset)
    (A_cledby : HasM K CC "led_by" "Clip.led_by" s_cledby)
    (A_cdo : HasM K CC "do" "Clip.do" s_cdo)
    (A_einit : HasD K CEd "__init__" "Edit.__init__" s_einit [.int 0] [])
    (A_elenat : HasM K CE "length_at" "Edit.length_at" s_elenat)
    (A_ecall : HasM K CE "__call__" "Edit.__call__" s_ecall)
    (A_echplain : HasM K CE "plain_length" "Echo.plain_length" s_echplain)
    (A_echmade : HasM K CE "made" "Echo.made" s_echmade)
    (A_needcnt : Has K mg "need_count" s_needcnt)
    (A_needshr : Has K mg "need_share" s_needshr)
    (A_frac : Has K mg "_law_frac" s_frac)
    (A_lsum : Has K mg "_law_sum" s_lsum)
    (A_lprod : Has K mg "_law_product" s_lprod)
    (A_passed : Has K mg "_law_passed" s_passed)
    (A_sample : Has K mg "_law_sample" s_sample)
    (A_lclip : Has K mg "_law_clip" s_lclip)
    (A_pairs : Has K mg "_law_pairs" s_pairs)
    (A_lis : Has K mg "_law_is" s_lis)
    (A_lshare : Has K mg "_law_share" s_lshare)
    (A_lscaled : Has K mg "_law_scaled" s_lscaled)
    (A_lover : Has K mg "_law_over" s_lover)
    (A_ldone : Has K mg "_law_done" s_ldone)
    (A_ledR : Has K mg "_law_led_right" s_ledR)
    (A_echoed : Has K mg "_law_echoed" s_echoed)
    (A_echoR : HasC K mg "_law_echo_right" s_echoR c1) (T1 : TabF K h (c1, t1))
    (A_law : HasC K mg "law" s_law c2) (T2 : TabF K h (c2, t2))
    (_n1_2 : ¬ t1 = t2)
    : LawG l w K 17 63 "_law_script" mg fa h := by
  obtain ⟨f_1, oc_1, od_1, kV_1, dc_1, pm_1, an_1, ct_1, sl_1, m_1, l_1, d_1, k_1⟩ := A_echoR.ex
  obtain ⟨f_2, oc_2, od_2, kV_2, dc_2, pm_2, an_2, ct_2, sl_2, m_2, l_2, d_2, k_2⟩ := A_law.ex
  have e := hfa.symm.trans m_2
  cases e
  obtain ⟨fh, fdh, hh, Fh⟩ := A_ledR.ex
  refine ⟨PySem.W.fnOf "law" "law" (defArgs s_law) (defBody s_law) (defScope s_law) .none kV_2 dc_2 pm_2 an_2 (.ref c2) ct_2, [(c1, t1), (c2, t2)], spLaw K [(t1, (("_law_echo_right" : Str) ++ ".<locals>.") ++ "<lambda>"), (t2, (("law" : Str) ++ ".<locals>.") ++ "<lambda>")], fun p hp => ?_, fun s u => ?_, fun H a ns hn hb ht hs => ?_, fun base hK hN hT => ?_⟩
  · simp only [List.mem_cons, List.mem_nil_iff, or_false] at hp
    rcases hp with rfl | rfl
    · exact T1
    · exact T2
  · exact .of_eq rfl
  · refine ⟨a, ns, rfl, hs, fun p hp => ?_, fun _ => rfl⟩
    simp only [List.mem_cons, List.mem_nil_iff, or_false] at hp
    rcases hp with rfl | rfl
    · exact LamX.TabS.nil (ht (c1, t1) (.head _))
    · exact LamX.TabS.nil (ht (c2, t2) (.tail _ (.head _)))
  · have TB1 := hT (c1, t1) (.head _)
    have TB2 := hT (c2, t2) (.tail _ (.head _))
    have fam : Fam K [CR, CC] := fam2 o_CR o_CC x_CR_CC x_CC_CR
    have ne : CR ≠ CC := fun z => by have := nd; simp [z] at this
    have TR : RTx K mg [CR, CC] CR := ⟨bi, fam, .head _, o_CR.cl, n_top, n_bottom, _gR, z_str, z_tuple⟩
    have T : CTx l.prog K mg [CR, CC] CR CC CL fL CP fP CS fS CM fM := ⟨TR, .tail _ (.head _), o_CC.cl, n_samples, _gC, ne, e_BadLength, e_BadPlace, e_BadSample, e_TooMany, rd, z_enumerate, z_zip⟩
    have D_pen : DefAt l.prog w K mg base CX0 1 "_law_pen" ["_law_script"] (spPen K) := def_at A_pen (fun f fd F => ok_pen F bi) fun _ _ _ _ _ _ us hl => match us, hl with | [_], _ => rfl
    have D_draw : DefAt l.prog w K mg base CX0 1 "_law_draw" ["_law_pen_here", "_law_many"] spDrawC := def_at A_draw (fun f fd F => ok_drawC F bi) fun _ _ _ _ _ _ us hl => match us, hl with | [_, _], _ => rfl
    have D_pick : DefAt l.prog w K mg base CX0 2 "_law_pick" ["_law_pen_here", "_law_some"] spPickC := def_at A_pick (fun f fd F => ok_pickC F bi D_draw) fun _ _ _ _ _ _ us hl => match us, hl with | [_, _], _ => rfl
    have D_whole0 : DefAt l.prog w K mg base CX0 1 "is_whole" ["value"] (spWh [CR, CC]) := def_at A_whole0 (fun f fd F => ok_whole0 F bi fam) fun _ _ _ _ _ _ us hl => match us, hl with | [_], _ => rfl
    have D_cd : DefAt l.prog w K mg base CX0 1 "common_divisor" ["one", "other"] spCd := def_at A_cd (fun f fd F => ok_cd F bi) fun _ _ _ _ _ _ us hl => match us, hl with | [_, _], _ => rfl
    have D_partsof : DefAt l.prog w K mg base CX0 1 "parts_of" ["number"] (spParts0 CR) := def_at A_partsof (fun f fd F => ok_partsof F TR) fun _ _ _ _ _ _ us hl => match us, hl with | [_], _ => rfl
    have M_Ratio : MakeAt l.prog w K mg base (L2.CX l.prog w) 3 "Ratio" CR ["self", "top", "bottom"] (spRinit CR) [] := make_all A_rinit _gR mk_CR kp_CR (fun f fd F => ok_rinit F TR D_whole0 D_cd) (by simp) fun _ _ _ _ _ _ _ us its hl hi => match us, hl, its, hi with | [_, _, _], _, [_], _ => ⟨_, rfl, rfl⟩
    have M_Ratio1 : MakeAt l.prog w K mg base (L2.CX l.prog w) 3 "Ratio" CR ["self", "top", "bottom"] (spRinit CR) [.int 1] := make_dfl (n := 2) A_rinit _gR mk_CR kp_CR (fun f fd F => ok_rinit F TR D_whole0 D_cd) (by simp) rfl fun _ _ _ _ _ _ _ us its hl hi => match us, hl, its, hi with | [_, _], _, [_], _ => ⟨_, rfl, rfl⟩
    have S_is_number : StatAt l.prog w K mg base CX0 2 CR "is_number" ["thing"] (spIsnum [CR, CC] CR) := stat_at A_isnum (fun f fd F => ok_isnum F TR D_whole0) fun _ _ _ _ _ _ us hl => match us, hl with | [_], _ => rfl
    have S_of : StatAt l.prog w K mg base CX0 5 CR "of" ["number"] (spOf CR) := stat_at A_of (fun f fd F => ok_of F TR S_is_number D_partsof M_Ratio) fun _ _ _ _ _ _ us hl => match us, hl with | [_], _ => rfl
    have D_isint : DefAt l.prog w K mg base CX0 1 "is_integer" ["value"] (spWh [CR, CC]) := def_at A_isint (fun f fd F => ok_isint F bi fam) fun _ _ _ _ _ _ us hl => match us, hl with | [_], _ => rfl
    have D_isbtw : DefAt l.prog w K mg base CX0 2 "is_between" ["value", "least", "most"] (spIsbtw [CR, CC]) := def_at A_isbtw (fun f fd F => ok_isbtw F bi D_isint) fun _ _ _ _ _ _ us hl => match us, hl with | [_, _, _], _ => rfl
    have D_needplc : DefAt l.prog w K mg base (L2.CX l.prog w) 3 "need_place" ["place", "length"] (spNeedPlc [CR, CC] CP) := def_at A_needplc (fun f fd F => ok_needplc F T D_isbtw) fun _ _ _ _ _ _ us hl => match us, hl with | [_, _], _ => rfl
    have D_isstr : DefAt l.prog w K mg base CX0 1 "is_stretch" ["at"] spIsstr := def_at A_isstr (fun f fd F => ok_isstr F TR) fun _ _ _ _ _ _ us hl => match us, hl with | [_], _ => rfl
    have D_ratof : DefAt l.prog w K mg base CX0 5 "ratio_of" ["number"] (spRatof CR) := def_at A_ratof (fun f fd F => ok_ratof F TR M_Ratio1) fun _ _ _ _ _ _ us hl => match us, hl with | [_], _ => rfl
    have M_Clip : MakeR l.prog w K mg base (L2.CX l.prog w) 6 "Clip" CC (spClip [CR, CC] CR CC CS CM) := makeR_at A_cinit _gC mk_CC kp_CC fun f _ _ _ _ _ _ _ _ _ lk hcd => ok_cinit (fd := PySem.W.fnOf "" "" default [] default .none .none .none .none none .none .none) lk hcd T S_is_number D_ratof
    have K_of : ClsAt l.prog w K mg base (L2.CX l.prog w) 8 CC "of" (spCof [CR, CC] CR CC CS CM) := cls_at A_cof (fun f fd F => ok_cof F T M_Clip) fun _ _ _ _ _ _ us hl => match us, hl with | [_, _], _ => rfl
    obtain ⟨tM, gMost⟩ := gMost
    obtain ⟨tF, gFar⟩ := gFar
    have e40 : (10000000000000000000000000000000000000000 : Int) = 10 ^ 40 := by decide +kernel
    rw [e40] at gFar
    have E : ETx l.prog K mg [CR, CC] CR CC CL fL CP fP CS fS CM fM CE CSt tM tF := ⟨T, oE, n_own_span, n_delay, n_share, n_tail, gMost, gFar, _gE, _gStep, isStep⟩
    have DL : LedAt K mg := ⟨⟨fh, fdh, Fh, hh, Fh.binds fun _ _ _ _ _ _ us hl => match us, hl with | [_, _, _, _], _ => rfl⟩⟩
    have CE_radd : CmpAt l.prog w K mg base CX0 5 CR "__add__" ["self", "other"] (spBinE CR rAdd) := cmp_at A_radd (fun f fd F => ok_radd F TR S_is_number D_partsof M_Ratio) fun _ _ _ _ _ _ us hl => match us, hl with | [_, _], _ => rfl
    have CE_rmul : CmpAt l.prog w K mg base CX0 5 CR "__mul__" ["self", "other"] (spBinE CR rMul) := cmp_at A_rmul (fun f fd F => ok_rmul F TR S_is_number D_partsof M_Ratio) fun _ _ _ _ _ _ us hl => match us, hl with | [_, _], _ => rfl
    have G_each : GMeth l.prog w K mg base 2 CC "each" (spEach CC) := gmeth_at A_ceach (fun _ _ _ _ _ _ _ _ _ _ lk hcd => ok_each lk hcd T) fun _ _ _ _ _ _ us hl => match us, hl with | [_], _ => rfl
    have L_len : CmpAt l.prog w K mg base CX0 1 CC "__len__" ["self"] (spClen CC CR) := cmp_at A_clen (fun f fd F => ok_clen F T) fun _ _ _ _ _ _ us hl => match us, hl with | [_], _ => rfl
    have I_cset : CmpAt l.prog w K mg base (L2.CX l.prog w) 6 CC "__setitem__" ["self", "at", "worth"] (spCset [CR, CC] CC CR CP CS) := cmp_at A_cset (fun f fd F => ok_cset F T D_isstr D_needplc L_len S_is_number S_of) fun _ _ _ _ _ _ us hl => match us, hl with | [_, _, _], _ => rfl
    have D_frac : DefAt l.prog w K mg base CX0 1 "_law_frac" ["_law_top", "_law_bottom"] spFrac := def_at A_frac (fun f fd F => ok_frac F bi) fun _ _ _ _ _ _ us hl => match us, hl with | [_, _], _ => rfl
    have D_sample : DefAt l.prog w K mg base CX0 3 "_law_sample" ["_law_pen_here"] spSample := def_at A_sample (fun f fd F => ok_sample F TR D_pick D_frac) fun _ _ _ _ _ _ us hl => match us, hl with | [_], _ => rfl
    have D_passed : DefAt l.prog w K mg base CX0 5 "_law_passed" ["_law_pen_here", "_law_one"] (spPassed CR) := def_at A_passed (fun f fd F => ok_passed F TR D_draw M_Ratio) fun _ _ _ _ _ _ us hl => match us, hl with | [_, _], _ => rfl
    have D_lclip : DefAt l.prog w K mg base CX0 9 "_law_clip" ["_law_row"] (spLclip CC CR) := def_at A_lclip (fun f fd F => ok_lclip F T M_Ratio K_of) fun _ _ _ _ _ _ us hl => match us, hl with | [_], _ => rfl
    have D_pairs : DefAt l.prog w K mg base CX0 4 "_law_pairs" ["_law_clip_here"] (spPairs CC CR) := def_at A_pairs (fun f fd F => ok_pairs F T G_each) fun _ _ _ _ _ _ us hl => match us, hl with | [_], _ => rfl
    have D_lis : DefG l.prog w K mg base CX0 5 "_law_is" ["_law_clip_here", "_law_row"] (spLis CC CR) := def_atG A_lis (fun f fd F => ok_lis F T G_each L_len D_pairs) fun _ _ _ _ _ _ us hl => match us, hl with | [_, _], _ => rfl
    have D_lsum : DefAt l.prog w K mg base CX0 3 "_law_sum" ["_law_one", "_law_other"] (spLbin rAdd) := def_at A_lsum (fun f fd F => ok_lsum F D_frac) fun _ _ _ _ _ _ us hl => match us, hl with | [_, _], _ => rfl
    have D_lprod : DefAt l.prog w K mg base CX0 3 "_law_product" ["_law_one", "_law_other"] (spLbin rMul) := def_at A_lprod (fun f fd F => ok_lprod F D_frac) fun _ _ _ _ _ _ us hl => match us, hl with | [_, _], _ => rfl
    have D_lshare : DefAt l.prog w K mg base CX0 3 "_law_share" ["_law_pen_here"] spLshare := def_at A_lshare (fun f fd F => ok_lshare F D_pick) fun _ _ _ _ _ _ us hl => match us, hl with | [_], _ => rfl
    have D_lscaled : DefAt l.prog w K mg base CX0 5 "_law_scaled" ["_law_row", "_law_share_here"] spLscaled := def_at A_lscaled (fun f fd F => ok_lscaled F D_lprod) fun _ _ _ _ _ _ us hl => match us, hl with | [_, _], _ => rfl
    have D_lover : DefAt l.prog w K mg base CX0 5 "_law_over" ["_law_row", "_law_begin", "_law_other"] spLover := def_at A_lover (fun f fd F => ok_lover F bi D_lsum) fun _ _ _ _ _ _ us hl => match us, hl with | [_, _, _], _ => rfl
    have D_ldone : DefAt l.prog w K mg base CX0 7 "_law_done" ["_law_deed", "_law_row"] spLdone := def_at A_ldone (fun f fd F => ok_ldone F bi z_max z_min D_lscaled D_lover) fun _ _ _ _ _ _ us hl => match us, hl with | [_, _], _ => rfl
    have D_echoed : DefAt l.prog w K mg base CX0 5 "_law_echoed" ["_law_row", "_law_delay", "_law_share_here", "_law_has_tail"] spEchoed := def_at A_echoed (fun f fd F => ok_echoed F bi D_lsum D_lprod) fun _ _ _ _ _ _ us hl => match us, hl with | [_, _, _, _], _ => rfl
    have D_needcnt : DefAt l.prog w K mg base CX0 3 "need_count" ["value", "least", "part"] spNeedcnt := def_at A_needcnt (fun f fd F => ok_needcnt F E D_isbtw) fun _ _ _ _ _ _ us hl => match us, hl with | [_, _, _], _ => rfl
    have D_needshr : DefAt l.prog w K mg base CX0 6 "need_share" ["value"] (spNeedshr CR) := def_at A_needshr (fun f fd F => ok_needshr F E S_is_number S_of) fun _ _ _ _ _ _ us hl => match us, hl with | [_], _ => rfl
    have F_einit : FnR l.prog w K mg base CX0 1 fEd (spEinit CE) := by
      obtain ⟨f, fd, h1, h2, F⟩ := A_einit.ex
      have e := _iEd.symm.trans h1
      cases e
      obtain ⟨ds, r, bs⟩ := F.binds1 (ps := ["self", "span"]) 2 1 (by simp) rfl (fun _ _ _ _ _ _ _ us its hl hi => match us, hl, its, hi with | [_, _], _, [_], _ => ⟨_, rfl, rfl⟩)
      cases r
      exact fnR_of (ok_einit F E) bs
    have M_Echo3 : MakeAt l.prog w K mg base CX0 8 "Echo" CE ["self", "delay", "share", "tail"] (spEchinit CE CR) [] := makeX_at 4 1 A_echinit _gE mkE kpE (fun f oc od dV doc pm an cda ct cc osl lk hcd S => ok_echinit lk hcd S U F_einit E D_needcnt D_needshr) (by simp) rfl fun _ _ _ _ _ _ _ us its hl hi => match us, hl, its, hi with | [_, _, _, _], _, [_], _ => ⟨_, rfl, rfl⟩
    have M_Echo2 : MakeAt l.prog w K mg base CX0 8 "Echo" CE ["self", "delay", "share", "tail"] (spEchinit CE CR) [.bl false] := makeX_at 3 0 A_echinit _gE mkE kpE (fun f oc od dV doc pm an cda ct cc osl lk hcd S => ok_echinit lk hcd S U F_einit E D_needcnt D_needshr) (by simp) rfl fun _ _ _ _ _ _ _ us its hl hi => match us, hl, its, hi with | [_, _, _], _, [_], _ => ⟨_, rfl, rfl⟩
    have X_plain_length : MethAt l.prog w K mg base CX0 1 CE "plain_length" ["self", "n"] (spPlain CE CR) := meth_at A_echplain (fun f fd F => ok_echplain F E) fun _ _ _ _ _ _ us hl => match us, hl with | [_, _], _ => rfl
    have X_length_at : MethAt l.prog w K mg base CX0 3 CE "length_at" ["self", "n"] (spLenat CE CR) := meth_at A_elenat (fun f fd F => ok_elenat F E D_isbtw X_plain_length) fun _ _ _ _ _ _ us hl => match us, hl with | [_, _], _ => rfl
    have X_made : MethAt l.prog w K mg base CX0 7 CE "made" ["self", "row"] (spEchmade CE CR) := meth_at A_echmade (fun f fd F => ok_echmade F E M_Ratio1 CE_radd B_radd CE_rmul B_rmul) fun _ _ _ _ _ _ us hl => match us, hl with | [_, _], _ => rfl
    have C_Echo : CallAt l.prog w K mg base CX0 9 CE ["self", "clip"] (spEcall CE CC CR) := call_at A_ecall (fun f fd F => ok_ecall F E G_each X_made K_of) fun _ _ _ _ _ _ us hl => match us, hl with | [_, _], _ => rfl
    have X_led_by : MethAt l.prog w K mg base CX0 10 CC "led_by" ["self", "step"] (spLedby CE CC CR) := meth_at A_cledby (fun f fd F => ok_cledby F E C_Echo) fun _ _ _ _ _ _ us hl => match us, hl with | [_, _], _ => rfl
    have X_do : MethAt l.prog w K mg base CX0 12 CC "do" ["self", "step"] (spDo CE CC CR) := meth_at A_cdo (fun f fd F => ok_cdo F E X_led_by) fun _ _ _ _ _ _ us hl => match us, hl with | [_, _], _ => rfl
    have un1 : ∀ p ∈ [(t1, (("_law_echo_right" : Str) ++ ".<locals>.") ++ "<lambda>"), (t2, (("law" : Str) ++ ".<locals>.") ++ "<lambda>")], p.1 = t1 → p.2 = (("_law_echo_right" : Str) ++ ".<locals>.") ++ "<lambda>" := by
      intro p hp e
      simp only [List.mem_cons, List.mem_nil_iff, or_false] at hp
      rcases hp with rfl | rfl
      · exact rfl
      · exact absurd e (Ne.symm _n1_2)
    have D_echoR : DefG l.prog w K mg base CX0 16 "_law_echo_right" ["_law_pen_here", "_law_delay", "_law_share_here", "_law_has_tail"] (spEchoR [(t1, (("_law_echo_right" : Str) ++ ".<locals>.") ++ "<lambda>"), (t2, (("law" : Str) ++ ".<locals>.") ++ "<lambda>")]) := ⟨f_1, _, ok_echoR ⟨⟨oc_1, od_1, kV_1, dc_1, pm_1, an_1, ct_1, sl_1, rfl, l_1, d_1⟩, k_1⟩ E DL TB1 (.head _) un1 nq D_lis C_Echo M_Clip X_do M_Echo3 M_Ratio I_cset X_length_at D_passed D_draw D_sample D_lclip D_echoed D_ldone, m_1, k_1, .all fun us hl => match us, hl with | [_, _, _, _], _ => rfl⟩
    have un2 : ∀ p ∈ [(t1, (("_law_echo_right" : Str) ++ ".<locals>.") ++ "<lambda>"), (t2, (("law" : Str) ++ ".<locals>.") ++ "<lambda>")], p.1 = t2 → p.2 = (("law" : Str) ++ ".<locals>.") ++ "<lambda>" := by
      intro p hp e
      simp only [List.mem_cons, List.mem_nil_iff, or_false] at hp
      rcases hp with rfl | rfl
      · exact absurd e _n1_2
      · exact rfl
    exact ok_law ⟨⟨oc_2, od_2, kV_2, dc_2, pm_2, an_2, ct_2, sl_2, rfl, l_2, d_2⟩, k_2⟩ E DL TB2 (.tail _ (.head _)) un2 nq D_pen D_pick D_draw D_lshare D_echoR D_lis C_Echo M_Clip X_do M_Echo3 M_Echo2 M_Ratio I_cset D_lclip D_echoed
end My
set_option maxHeartbeats 0
namespace HeadL
open PySem PySem.Spec PyProof.Rows L2 My
abbrev P0 : Program := (PySem.Challenge.rw_clipfades_k30_echoes_with_and_without_ta).prog
def fs : List (PySem.W.Frag → Bool) := [fun K => (He.Fa.glo "Ratio").ok K,
  fun K => (He.Fa.glo "Clip").ok K,
  fun K => (He.Fa.glo "BadLength").ok K,
  fun K => My.attB K (He.ga K "BadLength") "__init__",
  fun K => (He.Fa.glo "BadPlace").ok K,
  fun K => My.attB K (He.ga K "BadPlace") "__init__",
  fun K => (He.Fa.glo "BadSample").ok K,
  fun K => My.attB K (He.ga K "BadSample") "__init__",
  fun K => (He.Fa.glo "TooMany").ok K,
  fun K => My.attB K (He.ga K "TooMany") "__init__",
  fun K => (He.Fa.glo "Echo").ok K,
  fun K => (He.Fa.glo "Step").ok K,
  fun K => (He.Fa.glo "Edit").ok K,
  fun K => My.attB K (He.ga K "Edit") "__init__",
  fun K => (He.Fa.free "len").ok K,
  fun K => (He.Fa.free "abs").ok K,
  fun K => (He.Fa.free "int").ok K,
  fun K => (He.Fa.free "bool").ok K,
  fun K => (He.Fa.free "list").ok K,
  fun K => (He.Fa.free "repr").ok K,
  fun K => (He.Fa.free "isinstance").ok K,
  fun K => (He.Fa.free "range").ok K,
  fun K => My.clsB K (He.ga K "Ratio"),
  fun K => He.eqO (PySem.W.findIn K (.ref (He.ga K "Ratio")) "__class__") (some (some (.builtin "object.__class__"))),
  fun K => He.eqO (PySem.W.specialIn K (.builtin "object.__class__") "__get__") (some (some (.builtin "getset_descriptor.__get__"))),
  fun K => decide (PySem.W.takesIn K (.builtin "object.__class__") = some true),
  fun K => decide (PySem.W.mroIn K (He.ga K "Ratio") (.type "object") = some true),
  fun K => decide (PySem.W.kitOne K (.ref (He.ga K "Ratio")) (.ref (He.ga K "Ratio")) = some true),
  fun K => decide (PySem.W.kitOne K (.ref (He.ga K "Ratio")) (.type "int") = some false),
  fun K => My.kindsB K (He.ga K "Ratio")] ++ [fun K => PySem.W.notFirst K (He.ga K "Ratio") (.ref (He.ga K "Ratio")),
  fun K => PySem.W.makesIn K (He.ga K "Ratio"),
  fun K => PySem.W.keepIn K (.ref (He.ga K "Ratio")),
  fun K => My.clsB K (He.ga K "Clip"),
  fun K => He.eqO (PySem.W.findIn K (.ref (He.ga K "Clip")) "__class__") (some (some (.builtin "object.__class__"))),
  fun K => decide (PySem.W.mroIn K (He.ga K "Clip") (.type "object") = some true),
  fun K => decide (PySem.W.kitOne K (.ref (He.ga K "Clip")) (.ref (He.ga K "Clip")) = some true),
  fun K => decide (PySem.W.kitOne K (.ref (He.ga K "Clip")) (.type "int") = some false),
  fun K => My.kindsB K (He.ga K "Clip"),
  fun K => PySem.W.notFirst K (He.ga K "Clip") (.ref (He.ga K "Clip")),
  fun K => PySem.W.makesIn K (He.ga K "Clip"),
  fun K => PySem.W.keepIn K (.ref (He.ga K "Clip")),
  fun K => decide (PySem.W.kitOne K (.ref (He.ga K "Ratio")) (.ref (He.ga K "Clip")) = some false),
  fun K => PySem.W.notFirst K (He.ga K "Clip") (.ref (He.ga K "Ratio")),
  fun K => decide (PySem.W.kitOne K (.ref (He.ga K "Clip")) (.ref (He.ga K "Ratio")) = some false),
  fun K => PySem.W.notFirst K (He.ga K "Ratio") (.ref (He.ga K "Clip")),
  fun K => decide ([(He.ga K "Ratio"), (He.ga K "Clip")].Nodup),
  fun K => He.eqO (PySem.W.findIn K (.ref (He.ga K "Ratio")) "top") (some none),
  fun K => He.eqO (PySem.W.findIn K (.ref (He.ga K "Ratio")) "bottom") (some none),
  fun K => He.eqO (PySem.W.findIn K (.ref (He.ga K "Clip")) "samples") (some none),
  fun K => (He.Fa.free "str").ok K,
  fun K => (He.Fa.free "tuple").ok K,
  fun K => (He.Fa.free "enumerate").ok K,
  fun K => (He.Fa.free "zip").ok K,
  fun K => My.err1B P0 K "BadLength" "value" "BadLength.__init__",
  fun K => My.err1B P0 K "BadPlace" "value" "BadPlace.__init__",
  fun K => My.err1B P0 K "BadSample" "at" "BadSample.__init__",
  fun K => My.err2B P0 K "TooMany" "what" "most" "TooMany.__init__",
  fun K => My.creadB K (He.ga K "Clip") && My.cvalB K (He.ga K "Clip") "LONGEST" (.int 2000),
  fun K => He.eqO (PySem.W.findIn K (.ref (He.ga K "Clip")) "__ne__") (some (some (.builtin "object.__ne__")))] ++ [fun K => PySem.W.noSeq K (He.ga K "Clip"),
  fun K => My.fnB K (He.ga K "Ratio") "__init__" && My.fdB K (He.ma K (He.ga K "Ratio") "__init__") "Ratio.__init__" [.int 1],
  fun K => My.statB K (He.ga K "Ratio") "is_number" && My.fdB K (My.sAt "staticmethod" K (He.ga K "Ratio") "is_number") "Ratio.is_number" [],
  fun K => My.statB K (He.ga K "Ratio") "of" && My.fdB K (My.sAt "staticmethod" K (He.ga K "Ratio") "of") "Ratio.of" [],
  fun K => My.fnB K (He.ga K "Clip") "__init__" && My.fdB K (He.ma K (He.ga K "Clip") "__init__") "Clip.__init__" [],
  fun K => (My.creadB K (He.ga K "Clip") && My.cmetB K (He.ga K "Clip") "of") && My.fdB K (My.sAt "classmethod" K (He.ga K "Clip") "of") "Clip.of" [],
  fun K => (He.Fa.glo "is_whole").ok K && My.fdB K (He.ga K "is_whole") "is_whole" [],
  fun K => (He.Fa.glo "common_divisor").ok K && My.fdB K (He.ga K "common_divisor") "common_divisor" [],
  fun K => (He.Fa.glo "parts_of").ok K && My.fdB K (He.ga K "parts_of") "parts_of" [],
  fun K => (He.Fa.glo "is_integer").ok K && My.fdB K (He.ga K "is_integer") "is_integer" [],
  fun K => (He.Fa.glo "is_between").ok K && My.fdB K (He.ga K "is_between") "is_between" [],
  fun K => (He.Fa.glo "need_place").ok K && My.fdB K (He.ga K "need_place") "need_place" [],
  fun K => (He.Fa.glo "is_stretch").ok K && My.fdB K (He.ga K "is_stretch") "is_stretch" [],
  fun K => (He.Fa.glo "ratio_of").ok K && My.fdB K (He.ga K "ratio_of") "ratio_of" [],
  fun K => (He.Fa.glo "_law_pen").ok K && My.fdB K (He.ga K "_law_pen") "_law_pen" [],
  fun K => (He.Fa.glo "_law_draw").ok K && My.fdB K (He.ga K "_law_draw") "_law_draw" [],
  fun K => (He.Fa.glo "_law_pick").ok K && My.fdB K (He.ga K "_law_pick") "_law_pick" [],
  fun K => My.clsB K (He.ga K "Echo"),
  fun K => He.eqO (PySem.W.findIn K (.ref (He.ga K "Echo")) "__class__") (some (some (.builtin "object.__class__"))),
  fun K => decide (PySem.W.mroIn K (He.ga K "Echo") (.type "object") = some true),
  fun K => decide (PySem.W.kitOne K (.ref (He.ga K "Echo")) (.ref (He.ga K "Echo")) = some true),
  fun K => decide (PySem.W.kitOne K (.ref (He.ga K "Echo")) (.type "int") = some false),
  fun K => My.kindsB K (He.ga K "Echo"),
  fun K => PySem.W.notFirst K (He.ga K "Echo") (.ref (He.ga K "Echo")),
  fun K => PySem.W.makesIn K (He.ga K "Echo"),
  fun K => PySem.W.keepIn K (.ref (He.ga K "Echo")),
  fun K => He.eqO (PySem.W.findIn K (.ref (He.ga K "Echo")) "own_span") (some none),
  fun K => He.eqO (PySem.W.findIn K (.ref (He.ga K "Echo")) "delay") (some none),
  fun K => He.eqO (PySem.W.findIn K (.ref (He.ga K "Echo")) "share") (some none),
  fun K => He.eqO (PySem.W.findIn K (.ref (He.ga K "Echo")) "tail") (some none)] ++ [fun K => (He.Fa.int "MOST" 60).ok K,
  fun K => (He.Fa.int "FARTHEST" 10000000000000000000000000000000000000000).ok K,
  fun K => decide (PySem.W.kitOne K (.ref (He.ga K "Echo")) (.ref (He.ga K "Step")) = some true),
  fun K => (He.Fa.free "max").ok K,
  fun K => (He.Fa.free "min").ok K,
  fun K => My.supB K (He.ga K "Echo") (He.ma K (He.ga K "Edit") "__init__") "__init__",
  fun K => My.fnB K (He.ga K "Echo") "__init__" && (My.fdXB K (He.ma K (He.ga K "Echo") "__init__") "Echo.__init__" (He.ga K "Echo") [.bl false] && My.fileB P0 K (He.ma K (He.ga K "Echo") "__init__")),
  fun K => My.binB K (He.ga K "Ratio") (PySem.Operator.info .Add).2,
  fun K => My.binB K (He.ga K "Ratio") (PySem.Operator.info .Mult).2,
  fun K => My.fnB K (He.ga K "Ratio") "__add__" && My.fdB K (He.ma K (He.ga K "Ratio") "__add__") "Ratio.__add__" [],
  fun K => My.fnB K (He.ga K "Ratio") "__mul__" && My.fdB K (He.ma K (He.ga K "Ratio") "__mul__") "Ratio.__mul__" [],
  fun K => My.fnB K (He.ga K "Clip") "each" && My.fdB K (He.ma K (He.ga K "Clip") "each") "Clip.each" [],
  fun K => My.fnB K (He.ga K "Clip") "__len__" && My.fdB K (He.ma K (He.ga K "Clip") "__len__") "Clip.__len__" [],
  fun K => My.fnB K (He.ga K "Clip") "__setitem__" && My.fdB K (He.ma K (He.ga K "Clip") "__setitem__") "Clip.__setitem__" [],
  fun K => My.fnB K (He.ga K "Clip") "led_by" && My.fdB K (He.ma K (He.ga K "Clip") "led_by") "Clip.led_by" [],
  fun K => My.fnB K (He.ga K "Clip") "do" && My.fdB K (He.ma K (He.ga K "Clip") "do") "Clip.do" [],
  fun K => My.fnB K (He.ga K "Edit") "__init__" && My.fdB K (He.ma K (He.ga K "Edit") "__init__") "Edit.__init__" [.int 0],
  fun K => My.fnB K (He.ga K "Echo") "length_at" && My.fdB K (He.ma K (He.ga K "Echo") "length_at") "Edit.length_at" [],
  fun K => My.fnB K (He.ga K "Echo") "__call__" && My.fdB K (He.ma K (He.ga K "Echo") "__call__") "Edit.__call__" [],
  fun K => My.fnB K (He.ga K "Echo") "plain_length" && My.fdB K (He.ma K (He.ga K "Echo") "plain_length") "Echo.plain_length" [],
  fun K => My.fnB K (He.ga K "Echo") "made" && My.fdB K (He.ma K (He.ga K "Echo") "made") "Echo.made" [],
  fun K => (He.Fa.glo "need_count").ok K && My.fdB K (He.ga K "need_count") "need_count" [],
  fun K => (He.Fa.glo "need_share").ok K && My.fdB K (He.ga K "need_share") "need_share" [],
  fun K => (He.Fa.glo "_law_frac").ok K && My.fdB K (He.ga K "_law_frac") "_law_frac" [],
  fun K => (He.Fa.glo "_law_sum").ok K && My.fdB K (He.ga K "_law_sum") "_law_sum" [],
  fun K => (He.Fa.glo "_law_product").ok K && My.fdB K (He.ga K "_law_product") "_law_product" [],
  fun K => (He.Fa.glo "_law_passed").ok K && My.fdB K (He.ga K "_law_passed") "_law_passed" [],
  fun K => (He.Fa.glo "_law_sample").ok K && My.fdB K (He.ga K "_law_sample") "_law_sample" [],
  fun K => (He.Fa.glo "_law_clip").ok K && My.fdB K (He.ga K "_law_clip") "_law_clip" [],
  fun K => (He.Fa.glo "_law_pairs").ok K && My.fdB K (He.ga K "_law_pairs") "_law_pairs" []] ++ [fun K => (He.Fa.glo "_law_is").ok K && My.fdB K (He.ga K "_law_is") "_law_is" [],
  fun K => (He.Fa.glo "_law_share").ok K && My.fdB K (He.ga K "_law_share") "_law_share" [],
  fun K => (He.Fa.glo "_law_scaled").ok K && My.fdB K (He.ga K "_law_scaled") "_law_scaled" [],
  fun K => (He.Fa.glo "_law_over").ok K && My.fdB K (He.ga K "_law_over") "_law_over" [],
  fun K => (He.Fa.glo "_law_done").ok K && My.fdB K (He.ga K "_law_done") "_law_done" [],
  fun K => (He.Fa.glo "_law_led_right").ok K && My.fdB K (He.ga K "_law_led_right") "_law_led_right" [],
  fun K => (He.Fa.glo "_law_echoed").ok K && My.fdB K (He.ga K "_law_echoed") "_law_echoed" [],
  fun K => (He.Fa.glo "_law_echo_right").ok K && My.fdB K (He.ga K "_law_echo_right") "_law_echo_right" [],
  fun K => (He.Fa.glo "law").ok K && My.fdB K (He.ga K "law") "law" [],
  fun K => decide (¬ (He.tabOf K (My.cAt K (He.ga K "_law_echo_right"))) = (He.tabOf K (My.cAt K (He.ga K "law"))))]
def fn : List My.FD := [⟨fun K => He.ma K (He.ga K "BadLength") "__init__", "__init__", "BadLength.__init__", My.s_eBadLength, []⟩,
  ⟨fun K => He.ma K (He.ga K "BadPlace") "__init__", "__init__", "BadPlace.__init__", My.s_eBadPlace, []⟩,
  ⟨fun K => He.ma K (He.ga K "BadSample") "__init__", "__init__", "BadSample.__init__", My.s_eBadSample, []⟩,
  ⟨fun K => He.ma K (He.ga K "TooMany") "__init__", "__init__", "TooMany.__init__", My.s_eTooMany, []⟩,
  ⟨fun K => He.ma K (He.ga K "Ratio") "__init__", "__init__", "Ratio.__init__", My.s_rinit, []⟩,
  ⟨fun K => My.sAt "staticmethod" K (He.ga K "Ratio") "is_number", "is_number", "Ratio.is_number", My.s_isnum, []⟩,
  ⟨fun K => My.sAt "staticmethod" K (He.ga K "Ratio") "of", "of", "Ratio.of", My.s_of, []⟩,
  ⟨fun K => He.ma K (He.ga K "Clip") "__init__", "__init__", "Clip.__init__", My.s_cinit, []⟩,
  ⟨fun K => My.sAt "classmethod" K (He.ga K "Clip") "of", "of", "Clip.of", My.s_cof, []⟩,
  ⟨fun K => He.ga K "is_whole", "is_whole", "is_whole", My.s_whole0, []⟩,
  ⟨fun K => He.ga K "common_divisor", "common_divisor", "common_divisor", My.s_cd, []⟩,
  ⟨fun K => He.ga K "parts_of", "parts_of", "parts_of", My.s_partsof, []⟩,
  ⟨fun K => He.ga K "is_integer", "is_integer", "is_integer", My.s_isint, []⟩,
  ⟨fun K => He.ga K "is_between", "is_between", "is_between", My.s_isbtw, []⟩,
  ⟨fun K => He.ga K "need_place", "need_place", "need_place", My.s_needplc, []⟩,
  ⟨fun K => He.ga K "is_stretch", "is_stretch", "is_stretch", My.s_isstr, []⟩,
  ⟨fun K => He.ga K "ratio_of", "ratio_of", "ratio_of", My.s_ratof, []⟩,
  ⟨fun K => He.ga K "_law_pen", "_law_pen", "_law_pen", My.s_pen, []⟩,
  ⟨fun K => He.ga K "_law_draw", "_law_draw", "_law_draw", My.s_draw, []⟩,
  ⟨fun K => He.ga K "_law_pick", "_law_pick", "_law_pick", My.s_pick, []⟩,
  ⟨fun K => He.ma K (He.ga K "Echo") "__init__", "__init__", "Echo.__init__", My.s_echinit, []⟩,
  ⟨fun K => He.ma K (He.ga K "Ratio") "__add__", "__add__", "Ratio.__add__", My.s_radd, []⟩,
  ⟨fun K => He.ma K (He.ga K "Ratio") "__mul__", "__mul__", "Ratio.__mul__", My.s_rmul, []⟩,
  ⟨fun K => He.ma K (He.ga K "Clip") "each", "each", "Clip.each", My.s_ceach, []⟩,
  ⟨fun K => He.ma K (He.ga K "Clip") "__len__", "__len__", "Clip.__len__", My.s_clen, []⟩,
  ⟨fun K => He.ma K (He.ga K "Clip") "__setitem__", "__setitem__", "Clip.__setitem__", My.s_cset, []⟩,
  ⟨fun K => He.ma K (He.ga K "Clip") "led_by", "led_by", "Clip.led_by", My.s_cledby, []⟩,
  ⟨fun K => He.ma K (He.ga K "Clip") "do", "do", "Clip.do", My.s_cdo, []⟩,
  ⟨fun K => He.ma K (He.ga K "Edit") "__init__", "__init__", "Edit.__init__", My.s_einit, []⟩,
  ⟨fun K => He.ma K (He.ga K "Echo") "length_at", "length_at", "Edit.length_at", My.s_elenat, []⟩] ++ [⟨fun K => He.ma K (He.ga K "Echo") "__call__", "__call__", "Edit.__call__", My.s_ecall, []⟩,
  ⟨fun K => He.ma K (He.ga K "Echo") "plain_length", "plain_length", "Echo.plain_length", My.s_echplain, []⟩,
  ⟨fun K => He.ma K (He.ga K "Echo") "made", "made", "Echo.made", My.s_echmade, []⟩,
  ⟨fun K => He.ga K "need_count", "need_count", "need_count", My.s_needcnt, []⟩,
  ⟨fun K => He.ga K "need_share", "need_share", "need_share", My.s_needshr, []⟩,
  ⟨fun K => He.ga K "_law_frac", "_law_frac", "_law_frac", My.s_frac, []⟩,
  ⟨fun K => He.ga K "_law_sum", "_law_sum", "_law_sum", My.s_lsum, []⟩,
  ⟨fun K => He.ga K "_law_product", "_law_product", "_law_product", My.s_lprod, []⟩,
  ⟨fun K => He.ga K "_law_passed", "_law_passed", "_law_passed", My.s_passed, []⟩,
  ⟨fun K => He.ga K "_law_sample", "_law_sample", "_law_sample", My.s_sample, []⟩,
  ⟨fun K => He.ga K "_law_clip", "_law_clip", "_law_clip", My.s_lclip, []⟩,
  ⟨fun K => He.ga K "_law_pairs", "_law_pairs", "_law_pairs", My.s_pairs, []⟩,
  ⟨fun K => He.ga K "_law_is", "_law_is", "_law_is", My.s_lis, []⟩,
  ⟨fun K => He.ga K "_law_share", "_law_share", "_law_share", My.s_lshare, []⟩,
  ⟨fun K => He.ga K "_law_scaled", "_law_scaled", "_law_scaled", My.s_lscaled, []⟩,
  ⟨fun K => He.ga K "_law_over", "_law_over", "_law_over", My.s_lover, []⟩,
  ⟨fun K => He.ga K "_law_done", "_law_done", "_law_done", My.s_ldone, []⟩,
  ⟨fun K => He.ga K "_law_led_right", "_law_led_right", "_law_led_right", My.s_ledR, []⟩,
  ⟨fun K => He.ga K "_law_echoed", "_law_echoed", "_law_echoed", My.s_echoed, []⟩,
  ⟨fun K => He.ga K "_law_echo_right", "_law_echo_right", "_law_echo_right", My.s_echoR, []⟩,
  ⟨fun K => He.ga K "law", "law", "law", My.s_law, []⟩]
def tf : List (PySem.W.Frag → Addr) := [fun K => He.ga K "_law_echo_right",
  fun K => He.ga K "law"]
def sl : List My.Sel := [.cls "BadLength",
  .cls "BadPlace",
  .cls "BadSample",
  .cls "TooMany",
  .cls "Edit",
  .cls "Ratio",
  .cls "Clip",
  .cls "Echo",
  .cls "Step",
  .fn "is_whole",
  .fn "common_divisor",
  .fn "parts_of",
  .fn "is_integer",
  .fn "is_between",
  .fn "need_place",
  .fn "is_stretch",
  .fn "ratio_of",
  .fn "_law_pen",
  .fn "_law_draw",
  .fn "_law_pick",
  .fn "need_count",
  .fn "need_share",
  .fn "_law_frac",
  .fn "_law_sum",
  .fn "_law_product",
  .fn "_law_passed",
  .fn "_law_sample",
  .fn "_law_clip",
  .fn "_law_pairs",
  .fn "_law_is"] ++ [.fn "_law_share",
  .fn "_law_scaled",
  .fn "_law_over",
  .fn "_law_done",
  .fn "_law_led_right",
  .fn "_law_echoed",
  .fn "_law_echo_right",
  .fn "law",
  .meth "BadLength" "__init__",
  .meth "BadPlace" "__init__",
  .meth "BadSample" "__init__",
  .meth "TooMany" "__init__",
  .meth "Edit" "__init__",
  .meth "Ratio" "__init__",
  .rcd "Ratio" "is_number",
  .rcd "Ratio" "of",
  .meth "Clip" "__init__",
  .rcd "Clip" "of",
  .meth "Echo" "__init__",
  .meth "Ratio" "__add__",
  .meth "Ratio" "__mul__",
  .meth "Clip" "each",
  .meth "Clip" "__len__",
  .meth "Clip" "__setitem__",
  .meth "Clip" "led_by",
  .meth "Clip" "do",
  .meth "Echo" "plain_length",
  .meth "Echo" "made",
  .meth "Edit" "length_at",
  .meth "Edit" "__call__"]
abbrev hk : PySem.W.Hook := My.hookM sl fs fn tf
def ob (s : PySem.W.SharedT) : My.AM := My.obsM sl fs fn tf (HandSHeadRun.getT s)
theorem ob_eq (s : PySem.W.SharedT) : ob s = hk.obs s.abs := My.obsM_eq (HandSHeadRun.getT_eq s)
def names : List PySem.Str := (["_wall", "ClipError", "BadRatio", "NoDivisor", "BadPlace", "BadLength", "BadSample", "BadEdit", "BadStep", "TooMany", "BadText", "MOST_DIGITS", "is_whole", "common_divisor", "figures_of", "parts_of", "floor_of", "Ratio", "is_integer", "is_between", "Step", "EMPTY", "need_place", "is_stretch", "need_stretch", "ratio_of", "sample_of", "Clip", "MOST", "FARTHEST"] : List PySem.Str) ++ (["need_count", "need_share", "Edit", "Shaped", "Joint", "Echo", "_law_pen", "_law_draw", "_law_pick", "_law_frac", "_law_sum", "_law_product", "_law_passed", "_law_sample", "_law_clip", "_law_pairs", "_law_is", "_law_share", "_law_scaled", "_law_faded", "_law_over", "_law_done", "_law_joined", "_law_played", "_law_led_right", "_law_echoed", "_law_echo_right"] : List PySem.Str)
theorem run (w : World) : HandSHeadRun.RunEq (PySem.W.OpenLaw.row PySem.Challenge.rw_clipfades_k30_echoes_with_and_without_ta) (PySem.W.view (PySem.W.OpenLaw.row PySem.Challenge.rw_clipfades_k30_echoes_with_and_without_ta).prog [63]) hk ob 60000 names w := by
  intro os
  kernel_rfl
theorem law_of {w : World} {K : PySem.W.Frag} {h : Heap} {mg : Str → Option Value} {fa : Addr} (KX : K.In h) (G : h.Ns mainGlobals mg) (hmg : mg ("law" : Str) = some (.ref fa)) (c : My.SaysM fs fn tf h K) : My.LawG PySem.Challenge.rw_clipfades_k30_echoes_with_and_without_ta w K 17 63 "_law_script" mg fa h := by
  have h_gR : mg "Ratio" = some (.ref (He.ga K "Ratio")) := (He.glo_ok KX G (c.facts 0 _ rfl))
  have h_gC : mg "Clip" = some (.ref (He.ga K "Clip")) := (He.glo_ok KX G (c.facts 1 _ rfl))
  have h_gBadLength : mg "BadLength" = some (.ref (He.ga K "BadLength")) := (He.glo_ok KX G (c.facts 2 _ rfl))
  have h_iBadLength : PySem.W.findIn K (.ref (He.ga K "BadLength")) "__init__" = some (some (.ref (He.ma K (He.ga K "BadLength") "__init__"))) := (He.eqO_ok (c.facts 3 _ rfl))
  have h_gBadPlace : mg "BadPlace" = some (.ref (He.ga K "BadPlace")) := (He.glo_ok KX G (c.facts 4 _ rfl))
  have h_iBadPlace : PySem.W.findIn K (.ref (He.ga K "BadPlace")) "__init__" = some (some (.ref (He.ma K (He.ga K "BadPlace") "__init__"))) := (He.eqO_ok (c.facts 5 _ rfl))
  have h_gBadSample : mg "BadSample" = some (.ref (He.ga K "BadSample")) := (He.glo_ok KX G (c.facts 6 _ rfl))
  have h_iBadSample : PySem.W.findIn K (.ref (He.ga K "BadSample")) "__init__" = some (some (.ref (He.ma K (He.ga K "BadSample") "__init__"))) := (He.eqO_ok (c.facts 7 _ rfl))
  have h_gTooMany : mg "TooMany" = some (.ref (He.ga K "TooMany")) := (He.glo_ok KX G (c.facts 8 _ rfl))
  have h_iTooMany : PySem.W.findIn K (.ref (He.ga K "TooMany")) "__init__" = some (some (.ref (He.ma K (He.ga K "TooMany") "__init__"))) := (He.eqO_ok (c.facts 9 _ rfl))
  have h_gE : mg "Echo" = some (.ref (He.ga K "Echo")) := (He.glo_ok KX G (c.facts 10 _ rfl))
  have h_gStep : mg "Step" = some (.ref (He.ga K "Step")) := (He.glo_ok KX G (c.facts 11 _ rfl))
  have h_gEd : mg "Edit" = some (.ref (He.ga K "Edit")) := (He.glo_ok KX G (c.facts 12 _ rfl))
  have h_iEd : PySem.W.findIn K (.ref (He.ga K "Edit")) "__init__" = some (some (.ref (He.ma K (He.ga K "Edit") "__init__"))) := (He.eqO_ok (c.facts 13 _ rfl))
  have h_bi : BI mg := ⟨(He.free_ok KX G (c.facts 14 _ rfl)), (He.free_ok KX G (c.facts 15 _ rfl)), (He.free_ok KX G (c.facts 16 _ rfl)), (He.free_ok KX G (c.facts 17 _ rfl)), (He.free_ok KX G (c.facts 18 _ rfl)), (He.free_ok KX G (c.facts 19 _ rfl)), (He.free_ok KX G (c.facts 20 _ rfl)), (He.free_ok KX G (c.facts 21 _ rfl))⟩
  have h_o_CR : Own K (He.ga K "Ratio") := ⟨(My.clsB_ok (c.facts 22 _ rfl)), (He.eqO_ok (c.facts 23 _ rfl)), (He.eqO_ok (c.facts 24 _ rfl)), (of_decide_eq_true (c.facts 25 _ rfl)), (of_decide_eq_true (c.facts 26 _ rfl)), (of_decide_eq_true (c.facts 27 _ rfl)), (of_decide_eq_true (c.facts 28 _ rfl)), (My.kindsB_ok (c.facts 29 _ rfl)), (c.facts 30 _ rfl)⟩
  have h_mk_CR : PySem.W.makesIn K (He.ga K "Ratio") = true := (c.facts 31 _ rfl)
  have h_kp_CR : PySem.W.keepIn K (.ref (He.ga K "Ratio")) = true := (c.facts 32 _ rfl)
  have h_o_CC : Own K (He.ga K "Clip") := ⟨(My.clsB_ok (c.facts 33 _ rfl)), (He.eqO_ok (c.facts 34 _ rfl)), (He.eqO_ok (c.facts 24 _ rfl)), (of_decide_eq_true (c.facts 25 _ rfl)), (of_decide_eq_true (c.facts 35 _ rfl)), (of_decide_eq_true (c.facts 36 _ rfl)), (of_decide_eq_true (c.facts 37 _ rfl)), (My.kindsB_ok (c.facts 38 _ rfl)), (c.facts 39 _ rfl)⟩
  have h_mk_CC : PySem.W.makesIn K (He.ga K "Clip") = true := (c.facts 40 _ rfl)
  have h_kp_CC : PySem.W.keepIn K (.ref (He.ga K "Clip")) = true := (c.facts 41 _ rfl)
  have h_x_CR_CC : PySem.W.kitOne K (.ref (He.ga K "Ratio")) (.ref (He.ga K "Clip")) = some false ∧ PySem.W.notFirst K (He.ga K "Clip") (.ref (He.ga K "Ratio")) = true := ⟨(of_decide_eq_true (c.facts 42 _ rfl)), (c.facts 43 _ rfl)⟩
  have h_x_CC_CR : PySem.W.kitOne K (.ref (He.ga K "Clip")) (.ref (He.ga K "Ratio")) = some false ∧ PySem.W.notFirst K (He.ga K "Ratio") (.ref (He.ga K "Clip")) = true := ⟨(of_decide_eq_true (c.facts 44 _ rfl)), (c.facts 45 _ rfl)⟩
  have h_nd : [(He.ga K "Ratio"), (He.ga K "Clip")].Nodup := (of_decide_eq_true (c.facts 46 _ rfl))
  have h_n_top : NoAttr K (He.ga K "Ratio") "top" := (He.eqO_ok (c.facts 47 _ rfl))
  have h_n_bottom : NoAttr K (He.ga K "Ratio") "bottom" := (He.eqO_ok (c.facts 48 _ rfl))
  have h_n_samples : NoAttr K (He.ga K "Clip") "samples" := (He.eqO_ok (c.facts 49 _ rfl))
  have h_z_str : mg "str" = none := (He.free_ok KX G (c.facts 50 _ rfl))
  have h_z_tuple : mg "tuple" = none := (He.free_ok KX G (c.facts 51 _ rfl))
  have h_z_enumerate : mg "enumerate" = none := (He.free_ok KX G (c.facts 52 _ rfl))
  have h_z_zip : mg "zip" = none := (He.free_ok KX G (c.facts 53 _ rfl))
  have h_e_BadLength : Sup.Err1 P0 K mg "BadLength" "value" (He.ga K "BadLength") (He.ma K (He.ga K "BadLength") "__init__") := (My.err1_ok KX G My.nm_value (c.facts 54 _ rfl) (c.defs 0 _ rfl) ⟨_, _, rfl⟩ ⟨_, _, _, _, _, _, _, _, _, _, rfl, rfl⟩ rfl (by decide +kernel))
  have h_e_BadPlace : Sup.Err1 P0 K mg "BadPlace" "value" (He.ga K "BadPlace") (He.ma K (He.ga K "BadPlace") "__init__") := (My.err1_ok KX G My.nm_value (c.facts 55 _ rfl) (c.defs 1 _ rfl) ⟨_, _, rfl⟩ ⟨_, _, _, _, _, _, _, _, _, _, rfl, rfl⟩ rfl (by decide +kernel))
  have h_e_BadSample : Sup.Err1 P0 K mg "BadSample" "at" (He.ga K "BadSample") (He.ma K (He.ga K "BadSample") "__init__") := (My.err1_ok KX G My.nm_at (c.facts 56 _ rfl) (c.defs 2 _ rfl) ⟨_, _, rfl⟩ ⟨_, _, _, _, _, _, _, _, _, _, rfl, rfl⟩ rfl (by decide +kernel))
  have h_e_TooMany : Sup.Err2 P0 K mg "TooMany" "what" "most" (He.ga K "TooMany") (He.ma K (He.ga K "TooMany") "__init__") := (My.err2_ok KX G My.nm2_what_most (c.facts 57 _ rfl) (c.defs 3 _ rfl) ⟨_, _, _, rfl⟩ ⟨_, _, _, _, _, _, _, _, _, _, _, _, _, _, _, rfl, rfl⟩ rfl (by decide +kernel))
  have h_rd : ∃ mc u, ClX.CRead K (He.ga K "Clip") mc ∧ ClX.CVal K (He.ga K "Clip") mc "LONGEST" (.int 2000) u := (My.valM1 (v := .int 2000) (c.facts 58 _ rfl))
  have h_hm : PySem.W.mroIn K (He.ga K "Clip") (.type "object") = some true := (of_decide_eq_true (c.facts 35 _ rfl))
  have h_ne0 : PySem.W.findIn K (.ref (He.ga K "Clip")) "__ne__" = some (some (.builtin "object.__ne__")) := (He.eqO_ok (c.facts 59 _ rfl))
  have h_nq : PySem.W.noSeq K (He.ga K "Clip") = true := (c.facts 60 _ rfl)
  have h_A_rinit : HasD K (He.ga K "Ratio") "__init__" "Ratio.__init__" s_rinit [.int 1] [] := (My.hasDM (c.defs 4 _ rfl) (c.facts 61 _ rfl))
  have h_A_isnum : HasS K (He.ga K "Ratio") "is_number" "Ratio.is_number" s_isnum := (My.hasSM (c.defs 5 _ rfl) (c.facts 62 _ rfl))
  have h_A_of : HasS K (He.ga K "Ratio") "of" "Ratio.of" s_of := (My.hasSM (c.defs 6 _ rfl) (c.facts 63 _ rfl))
  have h_A_cinit : HasM K (He.ga K "Clip") "__init__" "Clip.__init__" s_cinit := (My.hasMM (c.defs 7 _ rfl) (c.facts 64 _ rfl))
  have h_A_cof : HasCM K (He.ga K "Clip") "of" "Clip.of" s_cof := (My.hasCMM (c.defs 8 _ rfl) (c.facts 65 _ rfl))
  have h_A_whole0 : Has K mg "is_whole" s_whole0 := (My.hasM0 KX G (c.defs 9 _ rfl) (c.facts 66 _ rfl))
  have h_A_cd : Has K mg "common_divisor" s_cd := (My.hasM0 KX G (c.defs 10 _ rfl) (c.facts 67 _ rfl))
  have h_A_partsof : Has K mg "parts_of" s_partsof := (My.hasM0 KX G (c.defs 11 _ rfl) (c.facts 68 _ rfl))
  have h_A_isint : Has K mg "is_integer" s_isint := (My.hasM0 KX G (c.defs 12 _ rfl) (c.facts 69 _ rfl))
  have h_A_isbtw : Has K mg "is_between" s_isbtw := (My.hasM0 KX G (c.defs 13 _ rfl) (c.facts 70 _ rfl))
  have h_A_needplc : Has K mg "need_place" s_needplc := (My.hasM0 KX G (c.defs 14 _ rfl) (c.facts 71 _ rfl))
  have h_A_isstr : Has K mg "is_stretch" s_isstr := (My.hasM0 KX G (c.defs 15 _ rfl) (c.facts 72 _ rfl))
  have h_A_ratof : Has K mg "ratio_of" s_ratof := (My.hasM0 KX G (c.defs 16 _ rfl) (c.facts 73 _ rfl))
  have h_A_pen : Has K mg "_law_pen" s_pen := (My.hasM0 KX G (c.defs 17 _ rfl) (c.facts 74 _ rfl))
  have h_A_draw : Has K mg "_law_draw" s_draw := (My.hasM0 KX G (c.defs 18 _ rfl) (c.facts 75 _ rfl))
  have h_A_pick : Has K mg "_law_pick" s_pick := (My.hasM0 KX G (c.defs 19 _ rfl) (c.facts 76 _ rfl))
  have h_oE : Own K (He.ga K "Echo") := ⟨(My.clsB_ok (c.facts 77 _ rfl)), (He.eqO_ok (c.facts 78 _ rfl)), (He.eqO_ok (c.facts 24 _ rfl)), (of_decide_eq_true (c.facts 25 _ rfl)), (of_decide_eq_true (c.facts 79 _ rfl)), (of_decide_eq_true (c.facts 80 _ rfl)), (of_decide_eq_true (c.facts 81 _ rfl)), (My.kindsB_ok (c.facts 82 _ rfl)), (c.facts 83 _ rfl)⟩
  have h_mkE : PySem.W.makesIn K (He.ga K "Echo") = true := (c.facts 84 _ rfl)
  have h_kpE : PySem.W.keepIn K (.ref (He.ga K "Echo")) = true := (c.facts 85 _ rfl)
  have h_n_own_span : NoAttr K (He.ga K "Echo") "own_span" := (He.eqO_ok (c.facts 86 _ rfl))
  have h_n_delay : NoAttr K (He.ga K "Echo") "delay" := (He.eqO_ok (c.facts 87 _ rfl))
  have h_n_share : NoAttr K (He.ga K "Echo") "share" := (He.eqO_ok (c.facts 88 _ rfl))
  have h_n_tail : NoAttr K (He.ga K "Echo") "tail" := (He.eqO_ok (c.facts 89 _ rfl))
  have h_gMost : ∃ t, mg "MOST" = some (.int 60 t) := (He.int_ok KX G (c.facts 90 _ rfl))
  have h_gFar : ∃ t, mg "FARTHEST" = some (.int 10000000000000000000000000000000000000000 t) := (He.int_ok KX G (c.facts 91 _ rfl))
  have h_isStep : PySem.W.kitOne K (.ref (He.ga K "Echo")) (.ref (He.ga K "Step")) = some true := (of_decide_eq_true (c.facts 92 _ rfl))
  have h_z_max : mg "max" = none := (He.free_ok KX G (c.facts 93 _ rfl))
  have h_z_min : mg "min" = none := (He.free_ok KX G (c.facts 94 _ rfl))
  have h_U : SupM.SupOf P0 K mg (He.ga K "Echo") (He.ma K (He.ga K "Edit") "__init__") "__init__" := (My.supB_ok KX G (c.facts 95 _ rfl) (by decide +kernel))
  have h_A_echinit : HasX P0 K (He.ga K "Echo") "__init__" "Echo.__init__" s_echinit [.bl false] := (My.hasXM (c.defs 20 _ rfl) (c.facts 96 _ rfl))
  have h_B_radd : BinF K (He.ga K "Ratio") (Operator.info .Add).2 := (My.binB_ok (c.facts 97 _ rfl))
  have h_B_rmul : BinF K (He.ga K "Ratio") (Operator.info .Mult).2 := (My.binB_ok (c.facts 98 _ rfl))
  have h_A_radd : HasM K (He.ga K "Ratio") "__add__" "Ratio.__add__" s_radd := (My.hasMM (c.defs 21 _ rfl) (c.facts 99 _ rfl))
  have h_A_rmul : HasM K (He.ga K "Ratio") "__mul__" "Ratio.__mul__" s_rmul := (My.hasMM (c.defs 22 _ rfl) (c.facts 100 _ rfl))
  have h_A_ceach : HasM K (He.ga K "Clip") "each" "Clip.each" s_ceach := (My.hasMM (c.defs 23 _ rfl) (c.facts 101 _ rfl))
  have h_A_clen : HasM K (He.ga K "Clip") "__len__" "Clip.__len__" s_clen := (My.hasMM (c.defs 24 _ rfl) (c.facts 102 _ rfl))
  have h_A_cset : HasM K (He.ga K "Clip") "__setitem__" "Clip.__setitem__" s_cset := (My.hasMM (c.defs 25 _ rfl) (c.facts 103 _ rfl))
  have h_A_cledby : HasM K (He.ga K "Clip") "led_by" "Clip.led_by" s_cledby := (My.hasMM (c.defs 26 _ rfl) (c.facts 104 _ rfl))
  have h_A_cdo : HasM K (He.ga K "Clip") "do" "Clip.do" s_cdo := (My.hasMM (c.defs 27 _ rfl) (c.facts 105 _ rfl))
  have h_A_einit : HasD K (He.ga K "Edit") "__init__" "Edit.__init__" s_einit [.int 0] [] := (My.hasDM (c.defs 28 _ rfl) (c.facts 106 _ rfl))
  have h_A_elenat : HasM K (He.ga K "Echo") "length_at" "Edit.length_at" s_elenat := (My.hasMM (c.defs 29 _ rfl) (c.facts 107 _ rfl))
  have h_A_ecall : HasM K (He.ga K "Echo") "__call__" "Edit.__call__" s_ecall := (My.hasMM (c.defs 30 _ rfl) (c.facts 108 _ rfl))
  have h_A_echplain : HasM K (He.ga K "Echo") "plain_length" "Echo.plain_length" s_echplain := (My.hasMM (c.defs 31 _ rfl) (c.facts 109 _ rfl))
  have h_A_echmade : HasM K (He.ga K "Echo") "made" "Echo.made" s_echmade := (My.hasMM (c.defs 32 _ rfl) (c.facts 110 _ rfl))
  have h_A_needcnt : Has K mg "need_count" s_needcnt := (My.hasM0 KX G (c.defs 33 _ rfl) (c.facts 111 _ rfl))
  have h_A_needshr : Has K mg "need_share" s_needshr := (My.hasM0 KX G (c.defs 34 _ rfl) (c.facts 112 _ rfl))
  have h_A_frac : Has K mg "_law_frac" s_frac := (My.hasM0 KX G (c.defs 35 _ rfl) (c.facts 113 _ rfl))
  have h_A_lsum : Has K mg "_law_sum" s_lsum := (My.hasM0 KX G (c.defs 36 _ rfl) (c.facts 114 _ rfl))
  have h_A_lprod : Has K mg "_law_product" s_lprod := (My.hasM0 KX G (c.defs 37 _ rfl) (c.facts 115 _ rfl))
  have h_A_passed : Has K mg "_law_passed" s_passed := (My.hasM0 KX G (c.defs 38 _ rfl) (c.facts 116 _ rfl))
  have h_A_sample : Has K mg "_law_sample" s_sample := (My.hasM0 KX G (c.defs 39 _ rfl) (c.facts 117 _ rfl))
  have h_A_lclip : Has K mg "_law_clip" s_lclip := (My.hasM0 KX G (c.defs 40 _ rfl) (c.facts 118 _ rfl))
  have h_A_pairs : Has K mg "_law_pairs" s_pairs := (My.hasM0 KX G (c.defs 41 _ rfl) (c.facts 119 _ rfl))
  have h_A_lis : Has K mg "_law_is" s_lis := (My.hasM0 KX G (c.defs 42 _ rfl) (c.facts 120 _ rfl))
  have h_A_lshare : Has K mg "_law_share" s_lshare := (My.hasM0 KX G (c.defs 43 _ rfl) (c.facts 121 _ rfl))
  have h_A_lscaled : Has K mg "_law_scaled" s_lscaled := (My.hasM0 KX G (c.defs 44 _ rfl) (c.facts 122 _ rfl))
  have h_A_lover : Has K mg "_law_over" s_lover := (My.hasM0 KX G (c.defs 45 _ rfl) (c.facts 123 _ rfl))
  have h_A_ldone : Has K mg "_law_done" s_ldone := (My.hasM0 KX G (c.defs 46 _ rfl) (c.facts 124 _ rfl))
  have h_A_ledR : Has K mg "_law_led_right" s_ledR := (My.hasM0 KX G (c.defs 47 _ rfl) (c.facts 125 _ rfl))
  have h_A_echoed : Has K mg "_law_echoed" s_echoed := (My.hasM0 KX G (c.defs 48 _ rfl) (c.facts 126 _ rfl))
  have h_A_echoR : HasC K mg "_law_echo_right" s_echoR (My.cAt K (He.ga K "_law_echo_right")) := (My.hasCM KX G (c.defs 49 _ rfl) (c.facts 127 _ rfl))
  have h_T1 : TabF K h ((My.cAt K (He.ga K "_law_echo_right")), (He.tabOf K (My.cAt K (He.ga K "_law_echo_right")))) := (My.tabFM KX c 0 rfl)
  have h_A_law : HasC K mg "law" s_law (My.cAt K (He.ga K "law")) := (My.hasCM KX G (c.defs 50 _ rfl) (c.facts 128 _ rfl))
  have h_T2 : TabF K h ((My.cAt K (He.ga K "law")), (He.tabOf K (My.cAt K (He.ga K "law")))) := (My.tabFM KX c 1 rfl)
  have h_n1_2 : ¬ (He.tabOf K (My.cAt K (He.ga K "_law_echo_right"))) = (He.tabOf K (My.cAt K (He.ga K "law"))) := (of_decide_eq_true (c.facts 129 _ rfl))
  exact My.all_mk (l := PySem.Challenge.rw_clipfades_k30_echoes_with_and_without_ta) (K := K) (CR := He.ga K "Ratio") (CC := He.ga K "Clip") (CL := He.ga K "BadLength") (fL := He.ma K (He.ga K "BadLength") "__init__") (CP := He.ga K "BadPlace") (fP := He.ma K (He.ga K "BadPlace") "__init__") (CS := He.ga K "BadSample") (fS := He.ma K (He.ga K "BadSample") "__init__") (CM := He.ga K "TooMany") (fM := He.ma K (He.ga K "TooMany") "__init__") (CE := He.ga K "Echo") (CSt := He.ga K "Step") (CEd := He.ga K "Edit") (fEd := He.ma K (He.ga K "Edit") "__init__") (c1 := My.cAt K (He.ga K "_law_echo_right")) (t1 := He.tabOf K (My.cAt K (He.ga K "_law_echo_right"))) (c2 := My.cAt K (He.ga K "law")) (t2 := He.tabOf K (My.cAt K (He.ga K "law"))) hmg h_gR h_gC h_gBadLength h_iBadLength h_gBadPlace h_iBadPlace h_gBadSample h_iBadSample h_gTooMany h_iTooMany h_gE h_gStep h_gEd h_iEd h_bi h_o_CR h_mk_CR h_kp_CR h_o_CC h_mk_CC h_kp_CC h_x_CR_CC h_x_CC_CR h_nd h_n_top h_n_bottom h_n_samples h_z_str h_z_tuple h_z_enumerate h_z_zip h_e_BadLength h_e_BadPlace h_e_BadSample h_e_TooMany h_rd h_hm h_ne0 h_nq h_A_rinit h_A_isnum h_A_of h_A_cinit h_A_cof h_A_whole0 h_A_cd h_A_partsof h_A_isint h_A_isbtw h_A_needplc h_A_isstr h_A_ratof h_A_pen h_A_draw h_A_pick h_oE h_mkE h_kpE h_n_own_span h_n_delay h_n_share h_n_tail h_gMost h_gFar h_isStep h_z_max h_z_min h_U h_A_echinit h_B_radd h_B_rmul h_A_radd h_A_rmul h_A_ceach h_A_clen h_A_cset h_A_cledby h_A_cdo h_A_einit h_A_elenat h_A_ecall h_A_echplain h_A_echmade h_A_needcnt h_A_needshr h_A_frac h_A_lsum h_A_lprod h_A_passed h_A_sample h_A_lclip h_A_pairs h_A_lis h_A_lshare h_A_lscaled h_A_lover h_A_ldone h_A_ledR h_A_echoed h_A_echoR h_T1 h_A_law h_T2 h_n1_2
end HeadL
open PySem PySem.W PySem.Calls PyProof.Rows
theorem PySem.Challenge.cw_clipfades_k30_echoes_with_and_without_ta_holds : PySem.Challenge.rw_clipfades_k30_echoes_with_and_without_ta.Holds := by
  w_on; o_law
  refine HandSHeadRun.head_any (r := OpenLaw.row PySem.Challenge.rw_clipfades_k30_echoes_with_and_without_ta) (q := view (OpenLaw.row PySem.Challenge.rw_clipfades_k30_echoes_with_and_without_ta).prog [63]) (H := HeadL.hk) (ob := HeadL.ob) (M := 60000) (loose := HeadL.names) (d := HandSHeadRun.topDef (OpenLaw.row PySem.Challenge.rw_clipfades_k30_echoes_with_and_without_ta).prog 63) (kwd := []) HeadL.ob_eq
    (by kernel_rfl) (fun s => by kernel_rfl) HeadL.run (by kernel_rfl) (by kernel_rfl) (by kernel_rfl) (by rfl) (by first | assumption | decide +kernel) (by decide +kernel) ⟨rfl, rfl, rfl, rfl, rfl, by decide +kernel⟩ ?hw ?hc
  case hw => w_witness2
  case hc =>
    refine My.walk_GE (l := PySem.Challenge.rw_clipfades_k30_echoes_with_and_without_ta) (n := 63) (k := 17) (x := "_law_script") rfl (by decide) (by kernel_rfl) ⟨rfl, by decide, by decide⟩ ?F
    intro w mg fa h Y G hmg0
    obtain ⟨K, KX, c⟩ := Y
    have hmg : mg ("law" : PySem.Str) = some (.ref fa) := by
      have e : (HandSHeadRun.topDef (OpenLaw.row PySem.Challenge.rw_clipfades_k30_echoes_with_and_without_ta).prog 63).name = ("law" : PySem.Str) := by kernel_rfl
      rw [← e]
      exact hmg0
    exact ⟨K, KX, HeadL.law_of KX G hmg c⟩
