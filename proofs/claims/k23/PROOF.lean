import PyProof.Rows.All
import Wide.All
import OpenK.AllK
import Wide.FinOn
import HandS.ForMost
import HandS.ForExc
import HandS.ExcInit
import HandS.ExcField
import HandS.Lambda
import HandS.IsInst
import KE.KExcIs
import PyProof.Rows.NestShow
import KE.KExcSuper
import HandS.Wide
import HandS.Star
import HandS.Defaults
import HandS.EndTab
import PyProof.ListMulRight
import KE.KOpsOwn
import KE.KCallOwn
import KE.KFmtOwn
import PyProof.InstNe
import HandS.ClsMeth
import HandS.TupLe
import HandS.MakeKwOnly
import HandS.MakeKw
import HandS.Small
import HandS.Style
import HandS.TupAny
import KE.GoesEnum
import KE.GoesMore
import KE.KTupTruth
import KE.KStateDown
import KE.KNestM
import HandS.Head0
import HandS.Head1
import HandS.Head2
import HandS.HeadHook1
import HandS.HeadHook2
import HandS.HeadHook4
import HandS.Property
import HandS.GenList
import HandS.Walk
import HandS.Codes
import HandS.FStr
import HandS.RaiseMore
import HandS.Dict
import HandS.Comp
import PyProof.ReprLen
import HandS.OwnEq
import HandS.List
import KE.DataEq
import HandS.Text
import HandS.MapJoin
import HandS.RaiseFrom
import HandS.SuiteRaise
import HandS.WordsExc
import KE.KAsSuite
import KE.DataFind
import HandS.Deep
import HandS.ExcBuiltin
import PyProof.StrOps2
import PyProof.StrLawsRepr
import PySem.Challenge.RW_clipfades_k23_texts_of_clips
set_option Elab.async false
set_option linter.all false
set_option maxRecDepth 100000
set_option maxHeartbeats 4000000
/-! Rules of our own over the hand layer: defs whose guards are told (for repr), repr of data, an error kept behind its except suite. -/
namespace My
open PySem PySem.Spec PyProof.Rows L2
/-! ### a def that is run where no repr is under way -/
structure FnG (P : Program) (w : World) (K : PySem.W.Frag) (mg : Str → Option Value) (base : Heap) (CX : CXT) (k : Nat) (f : Addr) (fd : FuncData) (ps : List Str) (sp : Sp) : Prop where
  len : ∀ vs H Q E, sp vs H Q E → vs.length = ps.length
  run : ∀ (A : Around) (outer : List Env) (s : Shared) (H : Hp) (args : Args) (us : List Value) (vs : List V) (Q : VK) (E : XK), A.guards = some [] → Room k A → Env0 P w K mg base A outer s H → BindsTo s fd args (ps.zip us) → Vals vs us → sp vs H Q E →
    codeAny (model P w) A (.call (.ref f) args) (CR CX outer P w H s Q E) s
section
variable {P : Program} {w : World} {K : PySem.W.Frag} {mg : Str → Option Value} {base : Heap}
theorem okG {x qual : Str} {st : Stmt} {f : Addr} {fd : FuncData} {N ps : List Str} {k : Nat} {sp : Sp} (F : Fun K x qual st f fd) (S : FnScope N ps (defScope st)) (len : ∀ vs H Q E, sp vs H Q E → vs.length = ps.length)
    (hbody : ∀ (cdv : Value) (A : Around) (outer : List Env) (s : Shared) (H : Hp) (vs : List V) (Q : VK) (E : XK), K.lookup f ≠ none → A.guards = some [] → Room k (A.deeper (envOfC qual (defScope st) s.heap.objs.size f cdv)) → sp vs H Q E →
      ∃ t, PSs (cxOf CX0 P w K mg base N qual (defScope st) f cdv A outer s H E).nox (defBody st) t ∧ t { nx := fun _ H' => Q .non H', rt := Q } (start N vs) H) : FnG P w K mg base CX0 (k + 1) f fd ps sp := by
  obtain ⟨oc, od, kV, doc, pm, an, cdv, ct, osl, rfl, lk, hcd⟩ := F.ex
  refine ⟨len, fun A outer s H args us vs Q E hg hr e0 hb r hsp => LamX.run_ofS lk hcd S hr e0 hb r (len _ _ _ _ hsp) fun hr' => ?_⟩
  obtain ⟨t, h, q⟩ := hbody cdv A outer s H vs Q E (by rw [lk]; exact fun z => nomatch z) hg hr' hsp
  exact ⟨t, h.nox, q⟩
end
section
variable {X : Cx} {CX : CXT} {k : Nat} {f : Addr} {fd : FuncData} {ps : List Str} {sp : Sp} {E : XK} {x : Str} {e : Expr} {es : List Expr} {t : TA} {p pos : Pos} {ds : List Value} {dvs : List V}
/-- x(e, ..) -/
theorem pe_callG (F : FnG X.prog X.w X.K X.mg X.base CX k f fd ps sp) (hgd : X.A.guards = some []) (hr : Room k X.A) (hg : Gl X x) (hm : X.mg x = some (.ref f)) (hk : PySem.W.keepIn X.K (.ref f) = true) (hb : Binds X.K fd ps []) (hx : Passes CX X E)
    (ha : PA X (e :: es) t) (hdb : (x == ("__debug__" : Str)) = false := by decide) (hs : starEach (e :: es) X.env = (false, eval e X.env) :: starEach es X.env := by rfl) (hpl : (backTo pos (starEach es X.env)).any (·.1) = false := by rfl) :
    PE X (.Call (.Name x p) (e :: es) [] pos) (tCall sp [] E t) := by
  refine ⟨fun pins s σ H Q I h => ?_⟩
  refine wpAny_Call_Name_kw (ld_glob I hg hm ?_ hdb)
  refine PySem.W.callWith_K (h₀ := X.base) I.ok.mod.kin hk (thn (ha.run pos pins s σ H _ I h) fun us s1 ⟨vs, H1, I1, r, q⟩ => ⟨I1.kIn, ?_⟩) hs hpl
  have q' : sp vs H1 Q E := by
    have z : sp (vs ++ []) H1 Q E := q
    rw [List.append_nil] at z
    exact z
  have hl : us.length = ps.length := by rw [← r.length]; exact F.len _ _ _ _ q'
  have hb' : BindsTo s1 fd ⟨us, []⟩ (ps.zip us) := by
    have z := hb s1 us I1.kIn (by rw [List.append_nil]; exact hl)
    rw [List.append_nil] at z
    exact z
  refine wpAny_call (codeAny_mono (F.run X.A X.stack s1 H1 ⟨us, []⟩ us vs Q E hgd hr I1.env0 hb' r q') fun res s2 hq => ?_)
  cases res with
  | error er => exact hx pins σ H1 s1 er s2 I1 hq
  | ok fl =>
    cases fl with
    | ret u => exact I1.after hq
    | next => exact False.elim hq
    | brk => exact False.elim hq
    | cont => exact False.elim hq
end
/-! ### repr of data -/
theorem sqt_same {K : PySem.W.Frag} {H H' : Hp} {a : Addr} {xs : List V} (e : Same H H') (h : SqT K H a xs) : SqT K H' a xs := by
  rcases h with (h | ⟨o, h⟩) | h
  · exact .inl (.inl (e _ _ h))
  · exact .inl (.inr ⟨o, e _ _ h⟩)
  · exact .inr h
/-- data that repr shows: as for ==, and the empty dict -/
def Dr (K : PySem.W.Frag) (H : Hp) (v : V) (d : PyData) : Prop := Dp K H v d ∨ (∃ a, v = .ref a ∧ d = .dict [] ∧ H a = some (.dK []))
mutual
theorem dp_same {K : PySem.W.Frag} {H H' : Hp} (k : Same H H') : ∀ (d : PyData) (v : V), Dp K H v d → Dp K H' v d
  | _, _, .non => .non
  | _, _, .bl b => .bl b
  | _, _, .int i => .int i
  | _, _, .str x => .str x
  | .list ds, _, .lst h ha => .lst (k.seq h) (dp_sameAll k ds _ ha)
  | .tuple ds, _, .tup h ha => .tup (sqt_same k h) (dp_sameAll k ds _ ha)
theorem dp_sameAll {K : PySem.W.Frag} {H H' : Hp} (k : Same H H') : ∀ (ds : List PyData) (vs : List V), DpAll K H vs ds → DpAll K H' vs ds
  | [], _, .nil => .nil
  | d :: ds, _, .cons h1 h2 => .cons (dp_same k d _ h1) (dp_sameAll k ds _ h2)
end
theorem dr_same {K : PySem.W.Frag} {H H' : Hp} {v : V} {d : PyData} (k : Same H H') (h : Dr K H v d) : Dr K H' v d := by
  rcases h with h | ⟨a, e1, e2, e3⟩
  · exact .inl (dp_same k d v h)
  · exact .inr ⟨a, e1, e2, k _ _ e3⟩
def rRepr (K : PySem.W.Frag) : List V → Hp → VK → Prop := fun xs H Q => ∃ (v : V) (d : PyData), xs = [v] ∧ Dr K H v d ∧ d.showable = true ∧ d.depth ≤ 60 ∧ d.shown.length ≤ sizeLine ∧ Q (.str d.shown) H
mutual
theorem noDict {K : PySem.W.Frag} {H : Hp} : ∀ (d : PyData) (v : V), Dp K H v d → d.hasDict = false
  | .none, _, _ => rfl
  | .bool _, _, _ => rfl
  | .int _, _, _ => rfl
  | .str _, _, _ => rfl
  | .list ds, _, h => by
    cases h with
    | lst _ ha => exact noDictAll ds _ ha
  | .tuple ds, _, h => by
    cases h with
    | tup _ ha => exact noDictAll ds _ ha
  | .dict _, _, h => by cases h
theorem noDictAll {K : PySem.W.Frag} {H : Hp} : ∀ (ds : List PyData) (vs : List V), DpAll K H vs ds → PyData.hasDictAll ds = false
  | [], _, _ => rfl
  | d :: ds, _, h => by
    cases h with
    | cons h1 h2 =>
      show (d.hasDict || PyData.hasDictAll ds) = false
      rw [noDict d _ h1, noDictAll ds _ h2]
      rfl
end
section
variable {X : Cx} {k : Nat}
theorem call_repr (hgd : X.A.guards = some []) (hr : Room k X.A) : CallR X (.builtin "repr") (rRepr X.K) := by
  intro pins s σ H xs us Q I r h
  obtain ⟨v, d, rfl, hd, hs, hdp, hz, q⟩ := h
  obtain ⟨u, rfl, r1⟩ := vals1 r
  have hu : X.A.units + (d.depth + 1) < cLine := by
    have := hr.units
    omega
  have fin : ∀ (h' : Heap) (t : Tok) (tk : Nat), (∀ b o, s.heap.get? b = some o → h'.get? b = some o) → EP X pins σ Q (.str d.shown t) { s with heap := h', toks := tk } :=
    fun h' t tk hk => ⟨.str d.shown, H, I.kept (t' := tk) hk, ⟨t, rfl⟩, q⟩
  rcases hd with hd | ⟨a, rfl, rfl, ha⟩
  · have hn := noDict d v hd
    obtain ⟨as, rd⟩ := Dp.reads I d v u hd r1
    cases hd with
    | non => cases (show u = Value.none from r1); exact PySem.P.repr_of_none (fin s.heap _ _ fun _ _ e => e)
    | bl b => cases (show u = Value.bool b from r1); exact PySem.P.repr_of_bool (fin s.heap _ _ fun _ _ e => e)
    | int i =>
      obtain ⟨t, e⟩ := (show ∃ t, u = Value.int i t from r1)
      cases e
      exact PySem.P.repr_of_int (of_decide_eq_true hs) (fin s.heap _ _ fun _ _ e => e)
    | str z =>
      obtain ⟨t, e⟩ := (show ∃ t, u = Value.str z t from r1)
      cases e
      exact PySem.P.repr_of_str (fin s.heap _ _ fun _ _ e => e) hz
    | @lst a xs ds _ _ =>
      cases (show u = Value.ref a from r1)
      exact repr_of_reads' rd hs (PyData.noDict_hsm hn) hgd hu (fun _ _ e => e) (fun h' t tk hk => fin h' t tk hk) hz
    | @tup a xs ds _ _ =>
      cases (show u = Value.ref a from r1)
      exact repr_of_reads' rd hs (PyData.noDict_hsm hn) hgd hu (fun _ _ e => e) (fun h' t tk hk => fin h' t tk hk) hz
  · cases (show u = Value.ref a from r1)
    obtain ⟨_, hne, vs, kv, o, es, ep, e1, e2, e3, e4⟩ := (show ObjOk X.prog X.w H s.heap a (.dK []) from I.hok a _ ha)
    cases kv
    have hes : es.toList = [] := by
      obtain ⟨_, pr, _⟩ := e4
      revert pr
      generalize es.toList = l
      intro pr
      cases pr
      rfl
    have rd : Reads s.heap (.ref a) (.dict []) (a :: [] ++ []) := .dict e1 e2.1 e3 (by rw [hes]; exact .nil) (by rw [hes]; exact .nil)
    exact repr_of_reads' rd hs (fun _ hm => by simp at hm; simp [hm] at hne) hgd hu (fun _ _ e => e) (fun h' t tk hk => fin h' t tk hk) hz
end
/-! ### an error that stands behind its except suite -/
/-- at a: an error of the class cls, its own dict at d -/
def ExA (cls : Value) (d : Option Addr) (a : Addr) : HO := .ext fun h => ∃ (oe : Obj) (vs : Array Value), h.get? a = some oe ∧ Zc cls d oe ∧ oe.data = .fields vs
theorem exA_ok {P : Program} {w : World} {H : Hp} {h : Heap} {a : Addr} {cls : Value} {d : Option Addr} {oe : Obj} {vs : Array Value} (e : h.get? a = some oe) (z : Zc cls d oe) (hd : oe.data = .fields vs) : ObjOk P w H h a (ExA cls d a) :=
  ⟨⟨oe, vs, e, z, hd⟩, ⟨oe, e⟩, fun _ _ ⟨o, v, q, r⟩ k => ⟨o, v, k o q, r⟩⟩
section
variable {X : Cx} {pins : List (Addr × Obj)} {σ : L2.St} {H : Hp} {s : Shared}
/-- an object of the heap that was not there at the entry, tracked from now on -/
theorem track {a : Addr} {o : HO} (I : Inv X pins σ H s) (h0 : X.s_0.heap.get? a = none) (na : H a = none) (nL : a ≠ X.env.locals) (nC : ∀ x c, X.env.cells.lookup x = some c → c ≠ a) (nP : ∀ p ∈ X.pn ++ pins, p.1 ≠ a)
    (new : ObjOk X.prog X.w (upd H a o) s.heap a o) : Inv X pins σ (upd H a o) s := by
  have ne0 : ∀ b ob, X.s_0.heap.get? b = some ob → b ≠ a := fun b ob e z => by rw [z, h0] at e; cases e
  refine ⟨I.ok, I.os, I.bare, ⟨I.base.keep, I.base.slot, fun b ob e n hx => ?_, I.base.there, fun b xs e => ?_, fun b ob u e => ?_, fun b ps e => ?_⟩, I.loc, I.cell, ?_, fun x c e => ?_, fun p hp => ?_, fun b u e => ?_, I.len⟩
  · rw [upd_ne (ne0 b ob e)]
    exact I.base.free b ob e n hx
  · have z := I.base.tups b xs e
    rw [upd_ne (ne_of_none z na)]
    exact z
  · have z := I.base.frzs b ob u e
    rw [upd_ne (ne_of_none z na)]
    exact z
  · obtain ⟨m, z⟩ := I.base.tbls b ps e
    exact ⟨m, by rw [upd_ne (ne_of_none z na)]; exact z⟩
  · rw [upd_ne (Ne.symm nL)]
    exact I.free
  · rw [upd_ne (nC x c e)]
    exact I.freeC x c e
  · obtain ⟨e, n, r⟩ := I.pin p hp
    exact ⟨e, by rw [upd_ne (nP p hp)]; exact n, r⟩
  · by_cases hb : b = a
    · subst hb
      rw [upd_same] at e
      cases e
      exact new
    · rw [upd_ne hb] at e
      exact (I.hok b u e).stay (fun _ _ _ q => q) (fun c q => by rw [upd_ne (ne_of_none q na)]; exact q) fun c xs q => by rw [upd_ne (ne_of_none q na)]; exact q
end
/-- the wish of «except c as n: y = n»: slot i is n's, slot j is y's -/
def wKeep (K : PySem.W.Frag) (c : Value) (i j n : Nat) (Wout : WX) (D : Ends) : WX := fun cls d σ H =>
  ∃ b, PySem.W.exmOne K cls c = some b ∧ (b = true → ∀ a, H a = none → σ.length = n → D.nx (((σ.set i (some (.ref a))).set j (some (.ref a))).set i none) (upd H a (ExA cls d a))) ∧ (b = false → Wout cls d σ H)
section
variable {X : Cx} {x n y : Str} {c : Value} {i j : Nat} {body : List Stmt} {np p1 p2 p3 pos pos' : Pos} {tb : WX → TS} {Wout : WX}
theorem ps_try_keep (hs : X.stack = X.env :: X.outer) (hf : X.env.frame = some X.env.locals) (hN : X.N.Nodup) (hi : X.N[i]? = some n) (hln : X.env.kindOf n = some .local) (hj : X.N[j]? = some y) (hly : X.env.kindOf y = some .local) (hex : X.ex = []) (hc : Names X x c) (tk : Takes X Wout)
    (hb : ∀ (W : WX) (pn : List (Addr × Obj)) (xe : Value → Shared → Prop), Takes (X.tr pn xe) W → PassesOwn (model X.prog X.w) X.A X.env xe → PSs (X.tr pn xe) body (tb W)) (hd1 : (n == ("__debug__" : Str)) = false := by decide) (hd2 : (n == ("__classdict__" : Str)) = false := by decide) :
    PS X (.Try body [.ExceptHandler (some (.Name x np)) (some n) [.Assign [.Name y p1] (.Name n p2) p3] pos'] [] [] pos) (fun D σ H => tb (wKeep X.K c i j X.N.length Wout D) D σ H) := by
  refine ⟨fun pins s σ H D I h => ?_⟩
  have ok := I.ok
  have hfr : X.A.frames = some (X.env :: X.outer) := by rw [ok.frames, hs]
  refine wpAny_Try_except ?_
  refine wpAny_mono ((hb (wKeep X.K c i j X.N.length Wout D) (X.pn ++ pins) (fun e t1 => wpAny (model X.prog X.w) X.A (noteFrame e X.env) (fun _ t2 => wpAny (model X.prog X.w) X.A (setFlight e none) (fun _ t3 =>
    wpAny (model X.prog X.w) X.A (handleBy e X.env [.ExceptHandler (some (.Name x np)) (some n) [.Assign [.Name y p1] (.Name n p2) p3] pos']) (SP X pins D) X.xe t3) X.xe t2) X.xe t1) (fun u s' xx => ?_) PassesOwn.looking).run [] s σ H D (I.toTry _) h) (fun fl t1 hsp => ?_) (fun _ _ he => he)
  · obtain ⟨a, B, sI, pins', σ1, H1, cls, d, rfl, J0, nb, up, sky, na, os, ag, b, hb1, hyes, hno⟩ := xx
    have J : Inv X pins σ1 H1 sI := J0.ofTry ok
    have sky' : Sky B (X.env :: X.outer) a (Zc cls d) X.env.locals s'.heap := by rw [← hs]; exact sky
    show wpAny (model X.prog X.w) X.A (noteFrame (.ref a) X.env) _ _ _
    refine Sky.land Zc.steady hfr hf sky' fun h3 fl3 up3 => ?_
    have J3 : Inv X pins σ1 H1 { s' with heap := h3 } := J.landed nb fl3.1 (up.trans up3) os ag
    obtain ⟨oe3, vs3, he3, hz3, hd3⟩ := fl3.there
    have nfr : a ∉ frs (X.env :: X.outer) := fun hm => by
      obtain ⟨_, o', e', hnf⟩ := fl3.2.2.1.mem hm
      rw [he3] at e'
      cases e'
      exact hnf _ hd3
    have nL : a ≠ X.env.locals := fun z => nfr (List.mem_filterMap.mpr ⟨X.env, List.mem_cons_self, by rw [hf, z]⟩)
    have nF : a ∉ X.fs := fun hm => by
      obtain ⟨e1, he1, q1⟩ := List.mem_filterMap.mp hm
      exact nfr (List.mem_filterMap.mpr ⟨e1, List.mem_cons_of_mem _ he1, q1⟩)
    -- the error was not there at the entry, and is no pin
    have Ba : B.get? a = none := fl3.2.1
    have sIa : sI.heap.get? a = none := by
      cases z : sI.heap.get? a with
      | none => rfl
      | some o =>
        have y := nb a o z (by rw [hs]; exact nfr)
        rw [Ba] at y
        cases y
    have s0a : X.s_0.heap.get? a = none := by
      cases z : X.s_0.heap.get? a with
      | none => rfl
      | some o =>
        obtain ⟨o', y⟩ := J.base.there a o z (by rw [hex]; exact fun w => nomatch w)
        rw [sIa] at y
        cases y
    have nPin : ∀ p ∈ X.pn ++ pins, p.1 ≠ a := fun p hp z => by
      have y := (J.pin p hp).1
      rw [z, sIa] at y
      cases y
    have S3 := J3.suite he3 hd3 na nL nF
    refine wpAny_handleBy_cons (codeAny_handlers_test ?_) (by intro q; cases q)
    have LT : PySem.W.Looks (model X.prog X.w) h3 (typeOf (.ref a)) cls := fun A Q E s k q => wpAny_typeOf_ref (k _ _ he3) (by rw [hz3.1]; exact q)
    have LM := PySem.W.exm_one (M := model X.prog X.w) (J3.kIn) LT hb1
    have test : ∀ {Q : Value → Shared → Prop} {E : Value → Shared → Prop}, Q c { s' with heap := h3 } → wpAny (model X.prog X.w) (X.A.mark (some (.ref a))) (eval (.Name x np) X.env) Q E { s' with heap := h3 } := fun {Q E} q => by
      obtain ⟨hg, hdbg, hm | ⟨hm, hv, hnn⟩⟩ := hc
      · exact ld_glob (X := X.suite a ((a, oe3) :: (X.pn ++ pins))) S3 hg hm q hdbg
      · exact ld_blt (X := X.suite a ((a, oe3) :: (X.pn ++ pins))) S3 hg hm hv q hnn hdbg
    refine test (LM.here ?_)
    cases b with
    | true =>
      refine codeAny_handlers_suite_as ?_
      refine HandSPX.lands_againZ fl3 fun h4 fl4 up4 => ?_
      have J4 : Inv X pins σ1 H1 { s' with heap := h4 } := J.landed nb fl4.1 ((up.trans up3).trans up4) os ag
      obtain ⟨oe4, vs4, he4, hz4, hd4⟩ := fl4.there
      have S4 := J4.suite he4 hd4 na nL nF
      refine store_ok (X := X.suite a ((a, oe4) :: (X.pn ++ pins))) (v := .ref a) S4 hN hi (.inl hln) rfl (fun s5 S5 => ?_) (.inr hln)
      have suite : PSs (X.suite a ((a, oe4) :: (X.pn ++ pins))) [.Assign [.Name y p1] (.Name n p2) p3] (tAsg (tVar i) (gName j)) :=
        pss_one (ps_asg (pe_var (i := i) hi (.inl hln) hd1 hd2) (pg_name (i := j) hN hj (.inl hly) (hf := .inr hly)))
      have hlen : i < σ1.length := by
        rw [J.len]
        exact (List.getElem?_eq_some_iff.mp hi).1
      refine wpAny_mono (suite.run [] s5 _ H1 { nx := fun σ' H' => σ' = (σ1.set i (some (.ref a))).set j (some (.ref a)) ∧ H' = H1, rt := fun _ _ => False } S5 ⟨.ref a, by rw [List.getElem?_set_self hlen], rfl, rfl⟩) (fun fl s6 hsp => ?_) (fun _ _ z => False.elim z)
      cases fl with
      | next =>
        obtain ⟨σ6, H6, S6, eσ, eH⟩ := hsp
        subst eσ
        subst eH
        refine gone_ok (X := X.suite a ((a, oe4) :: (X.pn ++ pins))) S6 hN hi hln fun s7 S7 => ?_
        have ha7 : s7.heap.get? a = some oe4 := (S7.pin (a, oe4) (List.mem_append_left _ List.mem_cons_self)).1
        have J7 := S7.unsuite ok
        have nC : ∀ (x : Str) (c : Addr), X.env.cells.lookup x = some c → c ≠ a := fun x c e z => by
          obtain ⟨v, o, ho, hdc⟩ := J7.cell x c e
          rw [z, ha7] at ho
          cases ho
          rw [hd4] at hdc
          cases hdc
        exact ⟨_, _, track J7 s0a na nL nC nPin (exA_ok ha7 hz4 hd4), hyes rfl a na J.len⟩
      | brk => obtain ⟨_, _, _, z⟩ := hsp; exact z.elim
      | cont => obtain ⟨_, _, _, z⟩ := hsp; exact z.elim
      | ret u => obtain ⟨_, _, _, _, _, z⟩ := hsp; exact z.elim
    | false =>
      show wpAny _ X.A (handleBy (.ref a) X.env []) _ _ _
      refine wpAny_handleBy_nil ?_
      obtain ⟨w1, w2, w3, oe, vs, T, oT, ts', he, hz, hdd, h1, hr⟩ := id fl3
      unfold PySem.passOn
      refine wpAny_bind (wpAny_field he hdd h1 ?_)
      rw [if_neg (show ¬ ((Value.ref T == Value.none) = true) from by simp)]
      have fin : wpAny (model X.prog X.w) X.A (setFlight (.ref a) X.env.frame) (fun _ s4 => wpAny (model X.prog X.w) X.A (throw (.ref a) : Sem Flow) (SP X pins D) X.xe s4) X.xe { s' with heap := h3 } := by
        rw [hf]
        refine HandSPX.setFlight_upZ fl3 fun h4 hh4 up4 => wpAny_throw (tk _ _ ?_)
        exact ⟨a, B, sI, pins, σ1, H1, cls, d, rfl, J, nb, (up.trans up3).trans up4, .inr (.inr (by rw [hs]; exact hh4)), na, os, ag, hno rfl⟩
      first
        | exact wpAny_bind (wpAny_pure (wpAny_bind fin))
        | exact wpAny_bind fin
  · cases fl with
    | next =>
      obtain ⟨σ', H', J', q⟩ := hsp
      exact wpAny_execs_nil ⟨σ', H', J'.ofTry ok, q⟩
    | brk =>
      obtain ⟨σ', H', J', q⟩ := hsp
      exact ⟨σ', H', J'.ofTry ok, q⟩
    | cont =>
      obtain ⟨σ', H', J', q⟩ := hsp
      exact ⟨σ', H', J'.ofTry ok, q⟩
    | ret u =>
      obtain ⟨v, σ', H', J', r, q⟩ := hsp
      exact ⟨v, σ', H', J'.ofTry ok, r, q⟩
end
/-! ### isinstance and fields of such an error -/
structure ExcK (K : PySem.W.Frag) (C : Addr) : Prop where
  cl : (PySem.W.clsIn K C).isSome = true
  ga : PySem.W.findIn K (.ref C) "__getattribute__" = some (some (.builtin "BaseException.__getattribute__"))
  gg : PySem.W.findIn K (.ref C) "__getattr__" = some none
  sb : PySem.W.subIn K (.ref C) (.type "BaseException") = some true
  ha : PySem.W.findIn K (.ref C) "__class__" = some (some (.builtin "object.__class__"))
  hn : PySem.W.specialIn K (.builtin "object.__class__") "__get__" = some (some (.builtin "getset_descriptor.__get__"))
  ht : PySem.W.takesIn K (.builtin "object.__class__") = some true
  hm : PySem.W.mroIn K C (.type "object") = some true
/-- isinstance(e, D) -/
def rIsA (K : PySem.W.Frag) : List V → Hp → VK → Prop := fun xs H Q => ∃ (a C d : Addr) (fs : List (Str × V)) (c : V) (cv : Value) (b : Bool), xs = [.ref a, c] ∧ ClsV c cv ∧ ExcK K C ∧ H a = some (ExA (.ref C) (some d) a) ∧ H d = some (.xd fs) ∧ PySem.W.kitOne K (.ref C) cv = some b ∧ Q (.bl b) H
section
variable {X : Cx} {pins : List (Addr × Obj)} {σ : L2.St} {H : Hp} {s : Shared}
theorem exA_at {a C d : Addr} {fs : List (Str × V)} (I : Inv X pins σ H s) (ha : H a = some (ExA (.ref C) (some d) a)) (hd : H d = some (.xd fs)) :
    ∃ (oe od : Obj) (mA : Str → Option Value), PySem.W.InstAt s.heap a oe C (some od) ∧ (∀ name, PySem.W.lookIn name od = some (mA name)) ∧ ∀ f, RelO (fs.lookup f) (mA f) := by
  obtain ⟨⟨oe, vs, ho, hz, hdat⟩, _, _⟩ := I.hok a _ ha
  obtain ⟨mA, hns, hr⟩ := (show ObjOk X.prog X.w H s.heap d (.xd fs) from I.hok d _ hd)
  obtain ⟨od, hod, hl⟩ := lookIn_ns hns
  exact ⟨oe, od, mA, ⟨ho, hz.1, by unfold PySem.W.notCls; rw [hdat] <;> rfl, by rw [hz.2]; exact hod⟩, hl, hr⟩
theorem call_isA : CallR X (.builtin "isinstance") (rIsA X.K) := by
  intro pins s σ H xs us Q I r h
  obtain ⟨a, C, d, fs, c, cv, b, rfl, k, T, ha, hd, e, q⟩ := h
  obtain ⟨u1, u2, rfl, r1, r2⟩ := vals2 r
  cases (show u1 = Value.ref a from r1)
  have e2 := k.eq r2
  subst e2
  obtain ⟨oe, od, mA, J, _, _⟩ := exA_at I ha hd
  exact PySem.W.kia_one (PySem.W.kitx_exc T.cl T.ga T.gg T.sb T.ha T.hn T.ht T.hm) I.kIn J e (fun z => nomatch z) fun t => ⟨.bl b, H, I.tok t, rfl, q⟩
/-- e.f -/
def tXa (K : PySem.W.Frag) (f : Str) (te : TE) : TE := fun σ H Q => te σ H fun x H1 => ∃ (a C d : Addr) (fs : List (Str × V)) (v : V), x = .ref a ∧ H1 a = some (ExA (.ref C) (some d) a) ∧ H1 d = some (.xd fs) ∧ XfC K C ∧ PySem.W.findIn K (.ref C) f = some none ∧ fs.lookup f = some v ∧ Q v H1
theorem pe_xa {e : Expr} {te : TE} {n : Str} {pos : Pos} (he : PE X e te) (hb : attributeBase e n X.env (eval e X.env) = eval e X.env := by rfl) : PE X (.Attribute e n pos) (tXa X.K n te) := by
  refine ⟨fun pins s σ H Q I h => ?_⟩
  refine attr_of hb (thn (he.run pins s σ H _ I h) fun u s1 hh => ?_)
  obtain ⟨x, H1, I1, rx, a, C, d, fs, v, ex, ha, hd, T, hno, l, q⟩ := hh
  subst ex
  obtain rfl : u = Value.ref a := rx
  obtain ⟨oe, od, mA, J, hl, hr⟩ := exA_at I1 ha hd
  obtain ⟨u, hu, ru⟩ := RelO.some_of (v := v) (o := mA n) (by rw [← l]; exact hr n)
  exact HandSPX.exc_get I1.kIn J T.ga T.gg T.exC (PySem.W.findObj_own T.hdC hno rfl (by rw [hl, hu])) (handed_of ru) ⟨v, H1, I1.tok _, ru, q⟩
end
end My
/-! An own error class E(Base(ValueError)) whose __init__ says super().__init__(f) and self.f = f. -/
namespace Sup
open PySem PySem.W PySem.Calls PyProof.Rows PySem.HandSPX
def a1 (f : Str) (p1 p2 : Pos) : Arguments :=
  { posonlyargs := [], args := [{ arg := "self", annotation := none, pos := p1 }, { arg := f, annotation := none, pos := p2 }], vararg := none, kwonlyargs := [], kw_defaults := [], kwarg := none, defaults := [] }
def b1 (f : Str) (q1 q2 q3 q4 q5 q6 r1 r2 r3 r4 : Pos) : List Stmt :=
  [.Expr (.Call (.Attribute (.Call (.Name "super" q1) [] [] q2) "__init__" q3) [.Name f q4] [] q5) q6, .Assign [.Attribute (.Name "self" r1) f r2] (.Name f r3) r4]
def s1 (f : Str) : Scope :=
  { kind := .function, names := [(PySem.Str.ofString "self", .local), (f, .local), (PySem.Str.ofString "__class__", .free), (PySem.Str.ofString "super", .globalImplicit)], isGenerator := false, isCoroutine := false, more := [] }
/-- the field's name is no other name of the text -/
structure Nm (f : Str) : Prop where
  n1 : (f == ("self" : Str)) = false
  n2 : (("__class__" : Str) == f) = false
  n3 : (("super" : Str) == f) = false
  n4 : (f == ("__debug__" : Str)) = false
  bd : ∀ (qual : Str) (body : List Stmt) (doc pm : Value) (an : Option Addr) (cdv ct : Value) (cc : Addr) (p1 p2 : Pos) (a b : Value),
    bindArgs (ksFn "__init__" qual (a1 f p1 p2) body (s1 f) .none .none doc pm an cdv ct cc) ⟨[a, b], []⟩ = pure [(("self" : Str), a), (f, b)]
/-- what the top has written of the class x, at C, and of its __init__, at fI -/
structure Err1 (prog : Program) (K : Frag) (mg : Str → Option Value) (x f : Str) (C fI : Addr) : Prop where
  gC : mg x = some (.ref C)
  ox : L2.OexC K C
  rd : L2.XfC K C
  nf : findIn K (.ref C) f = some none
  nm : Nm f
  iC : findIn K (.ref C) "__init__" = some (some (.ref fI))
  tI : typeIn K (.ref fI) = some (.type "function")
  fn : ∃ (qual : Str) (oc : Value) (od : Option Addr) (doc pm : Value) (an : Option Addr) (cda : Addr) (ct : Value) (cc : Addr) (osl : Array (Option Value)) (p1 p2 q1 q2 q3 q4 q5 q6 r1 r2 r3 r4 : Pos),
    K.lookup fI = some ⟨oc, od, .func (ksFn "__init__" qual (a1 f p1 p2) (b1 f q1 q2 q3 q4 q5 q6 r1 r2 r3 r4) (s1 f) .none .none doc pm an (.ref cda) ct cc), osl⟩ ∧ codeIn K (.ref cda) qual = true ∧
    (∃ cl cld csl, K.lookup cc = some ⟨cl, cld, .cell (some (.ref C)), csl⟩) ∧ ∃ ccl cdd vs ccs file tf, K.lookup cda = some ⟨ccl, cdd, .fields vs, ccs⟩ ∧ vs[2]? = some (.str file tf) ∧ ((prog.main.file : Str) == file) = true ∧ (q3.endLine == q5.line) = true
  su : ks_superIn K C C "__init__" = some (some (.builtin "ValueError.__init__"))
  sV : subIn K (.ref C) (.type "ValueError") = some true
  sC : mroIn K C (.ref C) = some true
  gS : mg "super" = none
  oq : nsIn K cStatics "thirdparty.any" = some none
  top : (prog.main.scope.names.lookup ("super" : Str)).isSome = false
/-- what __init__ leaves of a fresh exception at x -/
structure End1 (h h' : Heap) (f : Str) (x C dx t1 : Addr) (v : Value) : Prop where
  keep : ∀ b o, b ≠ x → h.get? b = some o → h'.get? b = some o
  obj : h'.get? x = some { cls := .ref C, dict := some dx, data := .fields #[.ref t1, .none, .none, .none, .bool false, .none] }
  dbig : h.objs.size ≤ dx
  dne : dx ≠ x
  ns : h'.Ns1 dx (fun y => if y = f then some v else none)
theorem lk2 {f : Str} (N : Nm f) : (s1 f).names.lookup f = some .local := by
  simp only [s1, List.lookup, N.n1, beq_self_eq_true]
theorem lk3 {f : Str} (N : Nm f) : (s1 f).names.lookup ("__class__" : Str) = some .free := by
  have e : (("__class__" : Str) == ("self" : Str)) = false := by decide +kernel
  have e2 : (("__class__" : Str) == ("__class__" : Str)) = true := by decide +kernel
  simp only [s1, List.lookup, N.n2, e, e2]
theorem lk4 {f : Str} (N : Nm f) : (s1 f).names.lookup ("super" : Str) = some .globalImplicit := by
  have e : (("super" : Str) == ("self" : Str)) = false := by decide +kernel
  have e2 : (("super" : Str) == ("__class__" : Str)) = false := by decide +kernel
  have e3 : (("super" : Str) == ("super" : Str)) = true := by decide +kernel
  simp only [s1, List.lookup, N.n3, e, e2, e3]
theorem meth_eq {o : Expr} {name f : Str} {q3 q4 q5 : Pos} {env : Env} (hp : (q3.endLine == q5.line) = true) :
    eval (.Call (.Attribute o name q3) [.Name f q4] [] q5) env = (do
      let ov ← attributeBase o name env (eval o env)
      standAt q3.atName
      let (g, first) ← holding [ov] (getMethod ov name (do return (← importBound o env).getD true))
      callWith q5 g first (backTo q5 (starEach [.Name f q4] env)) []) := by
  rw [arm_eval_Call]
  have hf : methodCallForm ([Expr.Name f q4].length + ([] : List Keyword).length) (backTo q5 (starEach [.Name f q4] env)) (backToKw q5 (keywordEach [] env)) = true := rfl
  have e : ∀ ov, methodCall o name q3 q5 env ov ([Expr.Name f q4].length + ([] : List Keyword).length) (backTo q5 (starEach [.Name f q4] env)) (backToKw q5 (keywordEach [] env)) = (do
      let (g, first) ← holding [ov] (getMethod ov name (do return (← importBound o env).getD true))
      callWith q5 g first (backTo q5 (starEach [.Name f q4] env)) []) := fun ov => by
    unfold methodCall
    rw [hf]
    unfold calleeOf methodCallPos
    simp only [hp, Bool.not_true, Bool.false_or, if_true]
    rfl
  simp only [e]
section
variable {prog : Program} {w : World} {A : Around} {E : Value → Shared → Prop} {R : Result → Shared → Prop} {s : Shared} {K : Frag} {mg : Str → Option Value} {x f : Str} {C fI : Addr}
/-- the bound ValueError.__init__ called -/
theorem call_mw {h : Heap} {g : Array GenState} {d : Drawn} {t : Nat} {os : OsState} {u e t0 : Addr} {rest : List Value} {Q : Value → Shared → Prop} {nm q : Str} {N : Addr} {bs bm : List Value} {hdct : Bool} {sn : List Str} {sub : List Value} {ab : Bool} {col : Option Bool} {dd : Option Addr} {k0 k1 k2 k3 k5 : Option Value}
    (hC : h.get? C = some (excClassObj nm q C N bs bm hdct sn sub ab col dd k0 k1 k2 k3 k5 "ValueError.__new__")) (he : h.get? e = some (excO C t0)) (hu : h.get? u = some (kxs_mw "ValueError.__init__" e)) (hz : rest.length ≤ sizeLine)
    (hq : ∀ h' t1, (∀ b o, b ≠ e → h.get? b = some o → h'.get? b = some o) → h'.get? e = some (excO C t1) → Q .none ⟨h', g, d, t, os⟩) :
    wpAny (model prog w) A (call (.ref u) rest) Q E ⟨h, g, d, t, os⟩ := by
  refine wpAny_call (codeAny_of_tree ?_)
  show wpAny _ A.in1 (callAny (.ref u) ⟨rest, []⟩) _ _ _
  simp only [callAny]
  refine wpAny_bind (wpAny_load hu ?_)
  simp only [kxs_mw, show (Value.type "method-wrapper" == Value.type "method" || Value.type "method-wrapper" == Value.type "builtin_function_or_method" || Value.type "method-wrapper" == Value.type "method-wrapper") = true by decide, if_true]
  refine KFB.if_so (by decide) ?_
  refine wpAny_bind (check_bound_init F.excBase_ValueError.toExcCallFacts hC he rfl ?_)
  refine wpAny_bind (wpAny_pure (wpAny_pure ?_))
  refine ⟨plainId_quiet F.excBase_ValueError.init.plain _, codeAny_builtin F.excBase_ValueError.initEntry ?_⟩
  exact exc_init_tree (cls := .ref C) (t0 := t0) (dv := none) (c2 := .none) (c3 := .none) (b4 := .bool false) he hz fun h' k e' _ => hq h' _ k e'
theorem init1 (T : Err1 prog K mg x f C fI) {e t0 : Addr} {v : Value} (X : K.In s.heap) (hlim : s.heap.NoLimit) (hg : s.heap.Ns mainGlobals mg) (hb : ∃ mb, s.heap.Ns builtinsNs mb ∧ ∀ x : Str, x ≠ "__name__" → mb x = bootBuiltins x)
    (he : s.heap.get? e = some (excO C t0)) (hnx : K.lookup e = none) (hroom : A.depth < recursionLimit)
    (hq : ∀ h' tk dx t1, End1 s.heap h' f e C dx t1 v → R (.ok (.ret .none)) { s with heap := h', toks := tk }) :
    codeAny (model prog w) A (.call (.ref fI) ⟨[.ref e, v], []⟩) R s := by
  obtain ⟨qual, oc, od, doc, pm, an, cda, ct, cc, osl, p1, p2, q1, q2, q3, q4, q5, q6, r1, r2, r3, r4, ho, hcd, ⟨cl, cld, csl, hcell⟩, ccl, cdd, vs, ccs, file, tf, hcode, hvs, hfile, hqq⟩ := T.fn
  obtain ⟨nm, q, N, bs, bm, sn, sub, ab, col, dd, k0, k1, k2, k3, k5, hC, hbm⟩ := T.ox.cls
  obtain ⟨mb, hb1, hb2⟩ := hb
  have hcl : clsIn K C = some { name := nm, bases := bs, mro := .ref C :: bm, ns := N, qualname := q, hasDict := true, slotNames := sn, subclasses := sub, abstract := ab, collection := col, hasDel := false } := by unfold clsIn; rw [hC] <;> rfl
  have hloc : ∀ y ∈ [(("self" : Str), Value.ref e), (f, v)], (s1 f).names.lookup y.1 = some .local := fun y hy => by
    rcases List.mem_cons.mp hy with z | z
    · rw [z]; rfl
    · rw [List.mem_singleton.mp z]; exact lk2 T.nm
  have hsu : alongIn K "__init__" ((((Value.ref C :: bm) : List Value).dropWhile (· != .ref C)).drop 1) = some (some (.builtin "ValueError.__init__")) := by
    have z := T.su
    unfold ks_superIn at z
    rw [hcl] at z
    exact z
  refine ks_codeAny_call_defAt (fd := ksFn "__init__" qual (a1 f p1 p2) (b1 f q1 q2 q3 q4 q5 q6 r1 r2 r3 r4) (s1 f) .none .none doc pm an (.ref cda) ct cc) (binds := [("self", .ref e), (f, v)]) hroom (X _ _ ho) rfl hlim (codeRec_of X hcd) rfl (BindsTo.of_eq (T.nm.bd _ _ _ _ _ _ _ _ _ _ _ _))
    (by intro y hy; simp only [s1, List.mem_cons, List.mem_nil_iff, or_false] at hy; rcases hy with z | z | z | z <;> rw [z] <;> exact (fun w => nomatch w)) hloc (fun h1 hns kp => ?_)
  have X1 : K.In h1 := X.keeps kp
  have he1 := kp _ _ he
  have hC1 := X1 _ _ hC
  have hx0 : e ≠ C := fun z => by
    have y := X _ _ hC
    rw [← z, he] at y
    cases y
  have mself : ([(("self" : Str), Value.ref e), (f, v)].reverse.lookup ("self" : Str)) = some (.ref e) := by
    have e1 : (("self" : Str) == f) = false := by
      have z := T.nm.n1
      rw [Bool.eq_false_iff] at z ⊢
      intro y
      exact z (by rw [beq_iff_eq] at y ⊢; exact y.symm)
    simp only [List.reverse_cons, List.reverse_nil, List.nil_append, List.cons_append, List.lookup, e1, beq_self_eq_true]
  have mf : ([(("self" : Str), Value.ref e), (f, v)].reverse.lookup f) = some v := by
    simp only [List.reverse_cons, List.reverse_nil, List.nil_append, List.cons_append, List.lookup, beq_self_eq_true]
  show _root_.PySem.wpAt _ _ _ (execs (b1 f q1 q2 q3 q4 q5 q6 r1 r2 r3 r4) _) _ _ _
  unfold b1
  refine ks_wpAt_execs_cons (ks_wpAt_Expr_any (ks_wpAt_MethodCall (ks_wpAt_super_base (lk4 T.nm) (lk3 T.nm) (by decide +kernel) rfl (X1 _ _ ho) rfl rfl rfl (X1 _ _ hcode) rfl hvs hfile T.top ?_) (meth_eq hqq)))
  refine ks_loadName_global rfl (lk4 T.nm) (loadGlobal_builtin (hg.keeps kp) T.gS (hb1.keeps kp) ((hb2 _ (by decide +kernel)).trans (by decide +kernel : bootBuiltins "super" = some (.type "super"))) ⟨rfl, ?_⟩)
  refine wpAny_loadName_free rfl (lk3 T.nm) rfl ⟨_, X1 _ _ hcell, rfl⟩ ?_
  refine wpAny_loadName_local rfl rfl hns mself ?_
  refine ks_wpAny_isType_cls hC1 rfl ⟨rfl, ?_⟩
  refine ks_wpAny_call_super hC1 rfl he1 rfl (fun c z => nomatch z) (looks_mroIn X1 T.sC) (fun h2 hso k2 => ?_)
  have X2 : K.In h2 := X1.keeps k2
  have he2 := k2 _ _ he1
  have I2 : InstAt h2 e (excO C t0) C none := ⟨he2, rfl, rfl, trivial⟩
  refine kxs_getMethod kxs_ValueError hso (looks_opaque X2 T.oq) (l₀ := .ref C :: bm) (fun A Q E s k q => wpAny_bind ((looks_clsIn X2 hcl) A _ E s k (wpAny_pure q))) rfl X2 hsu (I2.type.andThen (looks_subIn X2 T.sV)) hx0 (by decide +kernel) ?_
  refine kxs_callWith (i := "ValueError.__init__") (x := e) rfl ?_
  have hns2 := hns.keeps k2
  refine evalArgs_plain (Calls.spliced_cons (ldc rfl (lk2 T.nm) (hns2.keeps fun b o z => Heap.get?_push_of_some _ z) mf (Calls.spliced_nil ⟨Heap.get?_push_size _ rfl, ?_⟩) T.nm.n4))
  have k3 : ∀ b o, h2.get? b = some o → (h2.push (kxs_mw "ValueError.__init__" e)).get? b = some o := fun b o z => Heap.get?_push_of_some _ z
  show wpAny _ _ (call (.ref h2.objs.size) [v]) _ _ _
  refine call_mw (X2.keeps k3 _ _ hC) (k3 _ _ he2) (Heap.get?_push_size _ rfl) (by rw [sizeLine_eq]; exact (by decide : 1 ≤ 16777216)) fun h4 t1 k4 he4 => ?_
  have kall : ∀ b o, b ≠ e → s.heap.get? b = some o → h4.get? b = some o := fun b o hb z => k4 b o hb (k3 b o (k2 b o (kp b o z)))
  have X4 : K.In h4 := fun a o z => kall a o (fun y => by rw [y, hnx] at z; cases z) (X a o z)
  have hL : s.heap.objs.size ≠ e := Nat.ne_of_gt (Heap.lt_size he)
  have hns4 : h4.Ns s.heap.objs.size (fun y => [(("self" : Str), Value.ref e), (f, v)].reverse.lookup y) := by
    obtain ⟨oL, es, ep, hoL, r⟩ := hns2
    exact ⟨oL, es, ep, k4 _ _ hL (k3 _ _ hoL), r⟩
  show _root_.PySem.wpAt _ _ _ (execs [.Assign [.Attribute (.Name "self" r1) f r2] (.Name f r3) r4] _) _ _ _
  refine wpAt_of_wpAny (wpAny_execs_cons (plainObj_wpAny_Assign_Attribute (ldc rfl (lk2 T.nm) hns4 mf (ldc rfl rfl hns4 mself ?_) T.nm.n4)))
  refine set_plain X4 (ox := excO C t1) (od := none) ⟨he4, rfl, rfl, trivial⟩ T.ox.sa ?_
  refine exc_osa X4 he4 hcl (show refsVE (.ref C :: bm) = true from hbm) rfl T.nf (fun h5 tk5 dx k5 dn dne hx5 hn5 => ?_)
  have z1 : s.heap.objs.size ≤ h1.objs.size := Nat.le_of_lt hns.lt
  refine wpAny_execs_nil (hq h5 tk5 dx t1 ⟨fun b o hb z => k5 b o hb (kall b o hb z), hx5, ?_, dne, hn5⟩)
  have z2 := hns4.lt
  exact Nat.le_trans (Nat.le_of_lt z2) dn
/-- a made error -/
structure Made1 (h h' : Heap) (f : Str) (e C d : Addr) (v : Value) : Prop where
  keep : ∀ b o, h.get? b = some o → h'.get? b = some o
  new : h.objs.size ≤ e
  obj : ∃ oe vs, h'.get? e = some oe ∧ oe.cls = .ref C ∧ oe.dict = some d ∧ oe.data = .fields vs ∧ vs[1]? = some .none
  dbig : h.objs.size ≤ d
  dne : d ≠ e
  ns : h'.Ns1 d (fun y => if y = f then some v else none)
theorem made1 (T : Err1 prog K mg x f C fI) {v : Value} (X : K.In s.heap) (hlim : s.heap.NoLimit) (hg : s.heap.Ns mainGlobals mg) (hb : ∃ mb, s.heap.Ns builtinsNs mb ∧ ∀ x : Str, x ≠ "__name__" → mb x = bootBuiltins x) (hroom : A.depth + 1 < recursionLimit)
    (hq : ∀ h' tk e d, Made1 s.heap h' f e C d v → R (.ok (.ret (.ref e))) { s with heap := h', toks := tk }) :
    codeAny (model prog w) A (.call (.ref C) ⟨[v], []⟩) R s := by
  obtain ⟨nm, q, N, bs, bm, sn, sub, ab, col, dd, k0, k1, k2, k3, k5, hC, hbm⟩ := T.ox.cls
  obtain ⟨hp, g, dr, tk, os⟩ := s
  have kp : ∀ b o, hp.get? b = some o → ((hp.push (kdv_tup [v])).push (excO C hp.objs.size)).get? b = some o := fun b o z => Heap.get?_push_of_some _ (Heap.get?_push_of_some _ z)
  have hget : ((hp.push (kdv_tup [v])).push (excO C hp.objs.size)).get? (hp.objs.size + 1) = some (excO C hp.objs.size) := by heap_get
  have hnx : K.lookup (hp.objs.size + 1) = none := by
    cases z : K.lookup (hp.objs.size + 1) with
    | none => rfl
    | some o => exact absurd (Nat.lt_of_succ_lt (Heap.lt_size (X _ _ z))) (Nat.lt_irrefl _)
  refine call_own F.excBase_ValueError (fun Y => refsVE_contains Y bm hbm) (X _ _ hC) (looks_findIn X T.iC) (fun self => bind_fn X self T.tI) (by rw [sizeLine_eq]; exact (by decide : 1 ≤ 16777216)) ?_
  obtain ⟨mb, hb1, hb2⟩ := hb
  refine init1 (s := ⟨(hp.push (kdv_tup [v])).push (excO C hp.objs.size), g, dr, tk, os⟩) T (X.keeps kp) (hlim.keeps kp) (hg.keeps kp) ⟨mb, hb1.keeps kp, hb2⟩ hget hnx ?_ fun h' tk' dx t1 ⟨k', hx, dn, dne, hns⟩ => ?_
  · show A.depth + 1 < recursionLimit
    exact hroom
  · have old : ∀ b o, hp.get? b = some o → h'.get? b = some o := fun b o z => k' b o (Nat.ne_of_lt (Nat.lt_succ_of_lt (Heap.lt_size z))) (kp b o z)
    have z : hp.objs.size + 1 + 1 ≤ dx := by
      have y := dn
      first
        | (rw [Heap.size_push, Heap.size_push] at y; exact y)
        | exact y
    exact ⟨rfl, hq h' tk' (hp.objs.size + 1) dx ⟨old, Nat.le_succ _, ⟨_, _, hx, rfl, rfl, rfl, rfl⟩, Nat.le_trans (Nat.le_trans (Nat.le_succ _) (Nat.le_succ _)) z, dne, hns⟩⟩
end
end Sup
namespace L2
open PySem PySem.Spec PyProof.Rows
theorem relO_one {v : V} {v' : Value} {f : Str} (r : RelV v v') (g : Str) : RelO (List.lookup g [(f, v)]) (if g = f then some v' else none) := by
  by_cases hw : g = f
  · rw [if_pos hw, hw]
    have z : List.lookup f [(f, v)] = some v := by simp [List.lookup]
    rw [z]
    exact r
  · rw [if_neg hw]
    have y : (g == f) = false := by simpa using hw
    have z : List.lookup g [(f, v)] = none := by simp [List.lookup, y]
    rw [z]
    trivial
section
variable {X : Cx} {C fI : Addr} {x f : Str}
/-- E(e) -/
def tMk1 (C : Addr) (f : Str) (ta : TA) : St → Hp → XK → Prop := fun σ H Q => ta σ H fun vs H1 => ∃ v, vs = [v] ∧ ∀ d, H1 d = none → Q (.ref C) (some d) (upd H1 d (.xd [(f, v)]))
theorem pmk_1 {a : Expr} {ta : TA} {p pos : Pos} {k : Nat} (T : Sup.Err1 X.prog X.K X.mg x f C fI) (hr : Room k X.A) (ha : PA X [a] ta) (hg : Gl X x := by rfl) (hdb : (x == ("__debug__" : Str)) = false := by decide)
    (hs : starEach (a :: []) X.env = (false, eval a X.env) :: starEach [] X.env := by rfl) (hpl : (backTo pos (starEach [] X.env)).any (·.1) = false := by rfl) :
    PMk X (.Call (.Name x p) [a] [] pos) (tMk1 C f ta) := by
  intro pins s σ H Q I h
  refine wpAny_Call_Name_kw (ld_glob I hg T.gC ?_ hdb)
  refine PySem.W.callWith_K (h₀ := X.base) I.ok.mod.kin T.ox.kC (thn (ha.run pos pins s σ H _ I h) fun us s1 hh => ?_) hs hpl
  obtain ⟨vs, H1, I1, r1, v, ev, q1⟩ := hh
  subst ev
  refine ⟨I1.kIn, ?_⟩
  cases r1 with
  | cons rv rn =>
    rename_i v' us'
    cases rn
    show wpAny _ _ (call (.ref C) [v']) _ _ _
    have hlim := I1.nolimit
    obtain ⟨mb, hb1, hb2⟩ := I1.mod.blt
    have bk1 := I1.bk
    have gl1 := I1.mod.glob
    obtain ⟨hp, g, dr, tk, os⟩ := s1
    refine wpAny_call (Sup.made1 T I1.kIn hlim (gl1.keeps bk1) ⟨mb, hb1.keeps bk1, hb2⟩ (by have := hr.dp; omega) fun h' tk' e d M => ?_)
    show MkP X pins σ Q (.ref e) ⟨h', g, dr, tk', os⟩
    obtain ⟨oe, fv, hoe, hc, hd, hdat, h1⟩ := M.obj
    have hns := M.ns
    obtain ⟨G', g1, g2⟩ := restrict h' fun b => decide (b ≠ e)
    have gk : ∀ b, b ≠ e → G'.get? b = h'.get? b := fun b hb => g1 b (decide_eq_true hb)
    have ge : G'.get? e = none := g2 e (by simp)
    have old : ∀ b o, hp.get? b = some o → G'.get? b = some o := fun b o z => (gk b (Nat.ne_of_lt (Nat.lt_of_lt_of_le (Heap.lt_size z) M.new))).trans (M.keep b o z)
    have ob : ObjOk X.prog X.w (upd H1 d (.xd [(f, v)])) G' d (.xd [(f, v)]) :=
      ⟨_, hns.at (fun o z => (gk d M.dne).trans z), fun y => relO_one rv y⟩
    have J : Inv X pins σ (upd H1 d (.xd [(f, v)])) ⟨G', g, dr, tk', os⟩ := I1.laid (t' := tk') old M.dbig ob
    refine ⟨e, oe, fv, ⟨G', g, dr, tk', os⟩, _, .ref C, some d, rfl, J, fun b o z => ?_, ge, hoe, ⟨hc, hd⟩, hdat, h1, ?_, rfl, I1.bare, raises_own T.ox.exC T.ox.tyC, q1 d (I1.hok.fresh M.dbig)⟩
    · by_cases hb : b = e
      · have z' : G'.get? b = some o := z
        rw [hb, ge] at z'; cases z'
      · exact (gk b hb).symm.trans z
    · rw [upd_ne (Ne.symm M.dne)]
      exact I1.hok.fresh M.new
/-- raise E(e) -/
def tRaise1 (C : Addr) (f : Str) (W : WX) (ta : TA) : TS := fun _ σ H => tMk1 C f ta σ H fun cls d H' => W cls d σ H'
theorem ps_raise1 {a : Expr} {ta : TA} {W : WX} {p pos pos2 : Pos} {k : Nat} (hc : X.calm = true) (T : Sup.Err1 X.prog X.K X.mg x f C fI) (hr : Room k X.A) (tk : Takes X W) (ha : PA X [a] ta) (hg : Gl X x := by rfl) (hdb : (x == ("__debug__" : Str)) = false := by decide)
    (hs : starEach (a :: []) X.env = (false, eval a X.env) :: starEach [] X.env := by rfl) (hpl : (backTo pos (starEach [] X.env)).any (·.1) = false := by rfl) :
    PS X (.Raise (some (.Call (.Name x p) [a] [] pos)) none pos2) (tRaise1 C f W ta) := ps_raise hc tk (pmk_1 T hr ha hg hdb hs hpl)
end
end L2
/-! Defs by name, the pen. -/
namespace My
open PySem PySem.Spec PyProof.Rows L2
/-- a def of the module that keeps its promise -/
structure DefAt (P : Program) (w : World) (K : PySem.W.Frag) (mg : Str → Option Value) (base : Heap) (CX : CXT) (k : Nat) (x : Str) (ps : List Str) (sp : Sp) : Prop where
  ex : ∃ f fd, FnOk P w K mg base CX k f fd ps sp ∧ mg x = some (.ref f) ∧ PySem.W.keepIn K (.ref f) = true ∧ L2.Binds K fd ps []
structure DefG (P : Program) (w : World) (K : PySem.W.Frag) (mg : Str → Option Value) (base : Heap) (CX : CXT) (k : Nat) (x : Str) (ps : List Str) (sp : Sp) : Prop where
  ex : ∃ f fd, FnG P w K mg base CX k f fd ps sp ∧ mg x = some (.ref f) ∧ PySem.W.keepIn K (.ref f) = true ∧ L2.Binds K fd ps []
section
variable {X : Cx} {CX : CXT} {k : Nat} {ps : List Str} {sp : Sp} {E : XK} {x : Str} {e : Expr} {es : List Expr} {t : TA} {p pos : Pos}
theorem pe_d (D : DefAt X.prog X.w X.K X.mg X.base CX k x ps sp) (hr : Room k X.A) (hg : Gl X x) (hx : Passes CX X E) (ha : PA X (e :: es) t) (hdb : (x == ("__debug__" : Str)) = false := by decide)
    (hs : starEach (e :: es) X.env = (false, eval e X.env) :: starEach es X.env := by rfl) (hpl : (backTo pos (starEach es X.env)).any (·.1) = false := by rfl) : PE X (.Call (.Name x p) (e :: es) [] pos) (tCall sp [] E t) := by
  obtain ⟨f, fd, F, m, hk, b⟩ := D.ex
  exact pe_call F hr hg m hk b .nil hx ha hdb hs hpl
theorem pe_dG (D : DefG X.prog X.w X.K X.mg X.base CX k x ps sp) (hgd : X.A.guards = some []) (hr : Room k X.A) (hg : Gl X x) (hx : Passes CX X E) (ha : PA X (e :: es) t) (hdb : (x == ("__debug__" : Str)) = false := by decide)
    (hs : starEach (e :: es) X.env = (false, eval e X.env) :: starEach es X.env := by rfl) (hpl : (backTo pos (starEach es X.env)).any (·.1) = false := by rfl) : PE X (.Call (.Name x p) (e :: es) [] pos) (tCall sp [] E t) := by
  obtain ⟨f, fd, F, m, hk, b⟩ := D.ex
  exact pe_callG F hgd hr hg m hk b hx ha hdb hs hpl
end
/-- a class of the module that is made by its __init__, some defaults filled up -/
structure MakeAt (P : Program) (w : World) (K : PySem.W.Frag) (mg : Str → Option Value) (base : Heap) (CX : CXT) (k : Nat) (x : Str) (C : Addr) (ps : List Str) (sp : Sp) (dvs : List V) : Prop where
  ex : ∃ f fd ds, Mk K C f ∧ FnOk P w K mg base CX k f fd ps sp ∧ mg x = some (.ref C) ∧ L2.Binds K fd ps ds ∧ Vals dvs ds
structure MethAt (P : Program) (w : World) (K : PySem.W.Frag) (mg : Str → Option Value) (base : Heap) (CX : CXT) (k : Nat) (C : Addr) (m : Str) (ps : List Str) (sp : Sp) : Prop where
  ex : ∃ f fd, Meth K C m f ∧ FnOk P w K mg base CX k f fd ps sp ∧ L2.Binds K fd ps []
/-- .. called with keywords alone: their names ks, gV puts them in the parameters' order -/
structure MethK (P : Program) (w : World) (K : PySem.W.Frag) (mg : Str → Option Value) (base : Heap) (CX : CXT) (k : Nat) (C : Addr) (m : Str) (ps ks : List Str) (sp : Sp) (gV : List V → List V → List V) : Prop where
  ex : ∃ f fd g, Meth K C m f ∧ FnOk P w K mg base CX k f fd ps sp ∧ KBn K fd ps 1 ks g gV
structure CallAt (P : Program) (w : World) (K : PySem.W.Frag) (mg : Str → Option Value) (base : Heap) (CX : CXT) (k : Nat) (C : Addr) (ps : List Str) (sp : Sp) : Prop where
  ex : ∃ f fd, StX.CallO K C f ∧ FnOk P w K mg base CX k f fd ps sp ∧ L2.Binds K fd ps []
section
variable {X : Cx} {CX : CXT} {k : Nat} {C : Addr} {ps ks : List Str} {sp : Sp} {E : XK} {x m : Str} {e o fe : Expr} {es : List Expr} {kws : List Keyword} {t tk : TA} {ta tf : TE} {p pos apos : Pos} {dvs : List V} {gV : List V → List V → List V}
theorem pe_mk (M : MakeAt X.prog X.w X.K X.mg X.base CX k x C ps sp dvs) (hr : Room (k + 1) X.A) (hg : Gl X x) (hx : Passes CX X E) (ha : PA X (e :: es) t) (hdb : (x == ("__debug__" : Str)) = false := by decide)
    (hs : starEach (e :: es) X.env = (false, eval e X.env) :: starEach es X.env := by rfl) (hpl : (backTo pos (starEach es X.env)).any (·.1) = false := by rfl) : PE X (.Call (.Name x p) (e :: es) [] pos) (tMake C sp dvs E t) := by
  obtain ⟨f, fd, ds, mk, F, hm, b, d⟩ := M.ex
  exact pe_make mk F hr hg hm b d hx ha hdb hs hpl
theorem pe_mt {pl : Sem Bool} (c : Cls X.K C) (M : MethAt X.prog X.w X.K X.mg X.base CX k C m ps sp) (hr : Room k X.A) (hx : Passes CX X E) (he : PE X o ta) (ha : PA X (e :: es) t)
    (hst : starEach (e :: es) X.env = (false, eval e X.env) :: starEach es X.env := by rfl) (hpl : (backTo pos (starEach es X.env)).any (·.1) = false := by rfl)
    (ht : eval (.Call (.Attribute o m apos) (e :: es) [] pos) X.env = (do
      let ov ← eval o X.env
      standAt apos.atName
      let (f, first) ← holding [ov] (getMethod ov m pl)
      callWith pos f first (backTo pos (starEach (e :: es) X.env)) (backToKw pos (keywordEach [] X.env))) := by rfl) :
    PE X (.Call (.Attribute o m apos) (e :: es) [] pos) (tMeth C m sp [] E ta t) := by
  obtain ⟨f, fd, hm, F, b⟩ := M.ex
  exact pe_meth he c hm F hr b .nil hx ha hst hpl ht
theorem pe_mt0 {pl : Sem Bool} (c : Cls X.K C) (M : MethAt X.prog X.w X.K X.mg X.base CX k C m ps sp) (hr : Room k X.A) (hx : Passes CX X E) (he : PE X o ta)
    (ht : eval (.Call (.Attribute o m apos) [] [] pos) X.env = (do
      let ov ← eval o X.env
      standAt apos.atName
      let (f, first) ← holding [ov] (getMethod ov m pl)
      callWith pos f first (backTo pos (starEach [] X.env)) (backToKw pos (keywordEach [] X.env))) := by rfl) :
    PE X (.Call (.Attribute o m apos) [] [] pos) (tMeth C m sp [] E ta tNil) := by
  obtain ⟨f, fd, hm, F, b⟩ := M.ex
  exact pe_meth0 he c hm F hr b .nil hx ht
/-- o.m(k = v, ..) -/
def tMethK (C : Addr) (m : Str) (j : Nat) (sp : Sp) (gV : List V → List V → List V) (E : XK) (ta : TE) (tk : TA) : TE := fun σ H Q => ta σ H fun x H1 => ∃ a dx fs, x = .ref a ∧ H1 a = some (.ins C dx fs) ∧ fs.lookup m = none ∧
  tk σ H1 fun zs H2 => zs.length = j ∧ sp (gV [.ref a] zs) H2 Q E
theorem pe_mtK {pl : Sem Bool} (c : Cls X.K C) (M : MethK X.prog X.w X.K X.mg X.base CX k C m ps ks sp gV) (hr : Room k X.A) (hx : Passes CX X E) (he : PE X o ta) (hkw : PK X kws tk)
    (hall : (backToKw pos (keywordEach kws X.env)).all (·.1.isSome) = true := by rfl) (hks : (backToKw pos (keywordEach kws X.env)).filterMap (·.1) = ks := by rfl)
    (hpl : ((backTo pos (starEach [] X.env)).any (·.1) || (backToKw pos (keywordEach kws X.env)).any (·.1.isNone)) = false := by rfl)
    (ht : eval (.Call (.Attribute o m apos) [] kws pos) X.env = (do
      let ov ← eval o X.env
      standAt apos.atName
      let (f, first) ← holding [ov] (getMethod ov m pl)
      callWith pos f first (backTo pos (starEach [] X.env)) (backToKw pos (keywordEach kws X.env))) := by rfl) :
    PE X (.Call (.Attribute o m apos) [] kws pos) (tMethK C m ks.length sp gV E ta tk) := by
  obtain ⟨f, fd, g, hm, F, b⟩ := M.ex
  refine ⟨fun pins s σ H Q I h => ?_⟩
  refine PySem.W.methodCall_KW (pl := pl) (thn (he.run pins s σ H _ I h) fun u s1 ⟨x, H1, I1, rx, a, dx, fs, ex, ea, l, q⟩ => ?_) ht
  subst ex
  obtain rfl : u = Value.ref a := rx
  refine getmeth_ok I1 ea c hm l ?_
  refine PySem.W.callWith_KW0 (first := [.ref a]) (h₀ := X.base) I.ok.mod.kin hm.kp hall (thn (hkw.run pos pins s1 σ H1 _ I1 q) fun ws s2 ⟨zs, H2, I2, rz, l2, q2⟩ => ⟨I2.kIn, ?_⟩) hpl
  rw [hks]
  exact run_fnN (us := [.ref a]) (vs := [.ref a]) F hr b hx I2 (.cons rfl .nil) rz rfl l2 q2
theorem pe_cl (M : CallAt X.prog X.w X.K X.mg X.base CX k C ps sp) (hr : Room k X.A) (hx : Passes CX X E) (hf : PE X fe tf) (ha : PA X (e :: es) t)
    (ht : eval (.Call fe (e :: es) [] pos) X.env = (do callWith pos (← eval fe X.env) [] (backTo pos (starEach (e :: es) X.env)) (backToKw pos (keywordEach [] X.env))) := by rfl)
    (hs : starEach (e :: es) X.env = (false, eval e X.env) :: starEach es X.env := by rfl) (hpl : (backTo pos (starEach es X.env)).any (·.1) = false := by rfl) : PE X (.Call fe (e :: es) [] pos) (StX.tCallO X C sp E tf t) := by
  obtain ⟨f, fd, c, F, b⟩ := M.ex
  refine StX.pe_callO hf c (fun A outer s H us vs Q E hr e0 r hsp => ?_) hr hx ha ht hs hpl
  have hl : (us ++ []).length = ps.length := by rw [List.append_nil, ← r.length]; exact F.len _ _ _ _ hsp
  have hb := b s us (e0.mod.kin.keeps fun b o e => (e0.bs b o e).1) hl
  rw [List.append_nil] at hb
  exact F.run A outer s H ⟨us, []⟩ us vs Q E hr e0 hb r hsp
end
/-- an own comparison -/
structure CmpAt (P : Program) (w : World) (K : PySem.W.Frag) (mg : Str → Option Value) (base : Heap) (CX : CXT) (k : Nat) (C : Addr) (m : Str) (ps : List Str) (sp : Sp) : Prop where
  ex : ∃ f fd, PySem.W.findIn K (.ref C) m = some (some (.ref f)) ∧ PySem.W.isFn K (.ref f) = true ∧ FnOk P w K mg base CX k f fd ps sp ∧ L2.Binds K fd ps []
def rCmpO (K : PySem.W.Frag) (C : Addr) (sp : Sp) (E : XK) : R2 := fun x y H Q => ∃ a dx fs t, x = .ref a ∧ H a = some (.ins C dx fs) ∧ TyX K H y t ∧ PySem.W.notFirst K C t = true ∧ sp [.ref a, y] H Q E
theorem op_cmpO {X : Cx} {CX : CXT} {k : Nat} {C : Addr} {m : Str} {ps : List Str} {sp : Sp} {E : XK} {op : CmpOp} (M : CmpAt X.prog X.w X.K X.mg X.base CX k C m ps sp) (hr : Room k X.A) (hx : Passes CX X E) (hop : (cmpInfo op).2.1 = m := by rfl)
    (hco : ∀ v u, compareOp op v u = richCompare op v u := by intro _ _; rfl) : OpR X (compareOp op) (rCmpO X.K C sp E) := by
  intro pins s σ H x y v u Q I rx ry h
  obtain ⟨f, fd, hs, hf, F, hb⟩ := M.ex
  obtain ⟨a, dx, fs, t, rfl, ha, ty, hn, hsp⟩ := h
  obtain rfl : v = Value.ref a := rx
  obtain ⟨mA, J, _⟩ := ins_get I.hok ha
  obtain ⟨od, J, _⟩ := J.look
  obtain ⟨m', hF⟩ := I.fr
  obtain ⟨Pz, Z, pz, _⟩ := kit_of I ry ty
  rw [hco]
  refine PySem.W.cmp_K (op := op) (tb := t) hr.units0 hF I.ok.mod.kin J (Z.ty _ _ I.kIn pz) hn (by rw [hop]; exact hs) hf ?_
  have hl := F.len _ _ _ _ hsp
  have r2 : Vals [V.ref a, y] [Value.ref a, u] := .cons rfl (.cons ry .nil)
  refine wpAny_call (codeAny_mono (F.run X.A X.stack s H ⟨[.ref a, u], []⟩ [.ref a, u] [.ref a, y] _ E hr I.env0 (by
    have := hb s [.ref a, u] I.kIn (by simpa using hl)
    simpa using this) r2 hsp) fun r s' hq => ?_)
  cases r with
  | error e => exact hx pins σ H s e s' I hq
  | ok fl =>
    cases fl with
    | ret z =>
      have q := I.after hq
      obtain ⟨zv, H', I', rz, q'⟩ := id q
      cases z with
      | notImplemented => cases zv <;> first | (cases rz; done) | (obtain ⟨_, rz⟩ := rz; cases rz)
      | _ => exact q
    | next => exact False.elim hq
    | brk => exact False.elim hq
    | cont => exact False.elim hq
/-! ### the pen: a list of the cells, an index, what is left of a great cell -/
def PenAt (H : Hp) (pn : Addr) (n : Nat) : Prop := ∃ (cl : Addr) (ns : List Int) (at_ rest : Int), H pn = some (.lst [.ref cl, .int at_, .int rest]) ∧ H cl = some (.lst (ns.map V.int)) ∧ ns.length ≤ 63 ∧ 0 ≤ at_ ∧ at_ ≤ n
/-- all but pn stays -/
def But (pn : Addr) (H H' : Hp) : Prop := ∀ b o, H b = some o → b ≠ pn → H' b = some o
theorem But.refl (pn : Addr) (H : Hp) : But pn H H := fun _ _ h _ => h
theorem But.trans {pn : Addr} {H H1 H2 : Hp} (a : But pn H H1) (b : But pn H1 H2) : But pn H H2 := fun c o h n => b c o (a c o h n) n
theorem But.new {pn p : Addr} {H : Hp} {o : HO} (h : H p = none) : But pn H (upd H p o) := fun b u e _ => by rw [upd_ne (ne_of_none e h)]; exact e
theorem But.put {pn : Addr} {H : Hp} {o : HO} : But pn H (upd H pn o) := fun b u e n => by rw [upd_ne n]; exact e
theorem pen_new {H : Hp} {pn p : Addr} {n : Nat} {o : HO} (h : PenAt H pn n) (hp : H p = none) : PenAt (upd H p o) pn n := by
  obtain ⟨cl, ns, a, r, h1, h2, h3⟩ := h
  exact ⟨cl, ns, a, r, by rw [upd_ne (ne_of_none h1 hp)]; exact h1, by rw [upd_ne (ne_of_none h2 hp)]; exact h2, h3⟩
theorem PenAt.le {H : Hp} {pn : Addr} {n m : Nat} (h : PenAt H pn n) (le : n ≤ m) : PenAt H pn m := by
  obtain ⟨cl, ns, a, r, h1, h2, h3, h4, h5⟩ := h
  exact ⟨cl, ns, a, r, h1, h2, h3, h4, by omega⟩
def spDraw : Sp := fun vs H Q _ => ∃ (pn : Addr) (m : Int) (n : Nat), vs = [.ref pn, .int m] ∧ 0 < m ∧ m.natAbs.log2 < 9000 ∧ PenAt H pn n ∧ n < 100000 ∧
  ∀ (d : Int) (H' : Hp), 0 ≤ d → d < m → PenAt H' pn (n + 1) → But pn H H' → Q (.int d) H'
/-- pick(pen, some): one of some -/
def spPick : Sp := fun vs H Q _ => ∃ (pn l : Addr) (n : Nat) (xs : List V), vs = [.ref pn, .ref l] ∧ H l = some (.lst xs) ∧ l ≠ pn ∧ 0 < xs.length ∧ xs.length ≤ 1000 ∧ PenAt H pn n ∧ n < 100000 ∧
  ∀ (v : V) (H' : Hp), v ∈ xs → PenAt H' pn (n + 1) → But pn H H' → Q v H'
def spPen (K : PySem.W.Frag) : Sp := fun vs H Q _ => ∃ (a : Addr) (ns : List Int), vs = [.ref a] ∧ SqL K H a (ns.map V.int) ∧
  ∀ (pn : Addr) (H' : Hp), H pn = none → PenAt H' pn 0 → Same H H' → Q (.ref pn) H'
/-! ### lists of ints as data -/
theorem dp_ints {K : PySem.W.Frag} {H : Hp} : ∀ ns : List Int, DpAll K H (ns.map V.int) (ns.map PyData.int)
  | [] => .nil
  | n :: ns => .cons (.int n) (dp_ints ns)
theorem lay_ints : ∀ ns : List Int, PyData.canLayAll0 (ns.map PyData.int) = true
  | [] => rfl
  | n :: ns => by
    show (true && PyData.canLayAll0 (ns.map PyData.int)) = true
    rw [lay_ints ns]
    rfl
theorem dep_ints : ∀ ns : List Int, PyData.depthAll (ns.map PyData.int) = 0
  | [] => rfl
  | n :: ns => by
    show max 0 (PyData.depthAll (ns.map PyData.int)) = 0
    rw [dep_ints ns]
    rfl
theorem shaped_ints (ns : List Int) : SeqAt.shaped (.list (ns.map PyData.int)) = true := by
  show (PyData.canLayAll0 (ns.map PyData.int) && decide (PyData.depthAll (ns.map PyData.int) + 1 ≤ 64)) = true
  rw [lay_ints, dep_ints]
  rfl
theorem pow_lt {i : Int} {b : Nat} (h0 : 0 ≤ i) (h : i < 2 ^ b) : i.natAbs < 2 ^ b := by
  have e : ((2 ^ b : Nat) : Int) = (2 : Int) ^ b := by simp
  omega
theorem mix_lt {x a c d e : Int} (x0 : 0 ≤ x) (x1 : x < 2147483648) (a0 : 0 ≤ a) (a1 : a < 100000) (c0 : 0 ≤ c) (c1 : c ≤ 1000) (d0 : 0 ≤ d) (d1 : d ≤ 100000) (e0 : 0 ≤ e) (e1 : e ≤ 100000) : (x * (2 * a + c) + d * a * a + e).natAbs < 2 ^ 64 := by
  have h1 : x * (2 * a + c) ≤ 2147483648 * 201000 := Int.mul_le_mul (by omega) (by omega) (by omega) (by decide)
  have h2 : 0 ≤ x * (2 * a + c) := Int.mul_nonneg x0 (by omega)
  have h3 : d * a ≤ 100000 * 100000 := Int.mul_le_mul d1 (by omega) a0 (by decide)
  have h4 : 0 ≤ d * a := Int.mul_nonneg d0 a0
  have h5 : d * a * a ≤ (100000 * 100000) * 100000 := Int.mul_le_mul h3 (by omega) a0 (by decide)
  have h6 : 0 ≤ d * a * a := Int.mul_nonneg h4 a0
  generalize x * (2 * a + c) = y at *
  generalize d * a * a = z at *
  refine pow_lt (by omega) (by omega)
theorem cut_ints (ns : List Int) (k : Nat) : cutV (ns.map V.int) none (some (k : Int)) = (ns.take k).map V.int := by
  unfold cutV
  rw [HT.sIx_none, HT.sIx_nat, List.drop_zero, Nat.sub_zero, List.map_take, List.length_map]
  by_cases h : k ≤ ns.length
  · rw [Nat.min_eq_left h]
  · rw [Nat.min_eq_right (by omega), List.take_of_length_le (by rw [List.length_map]; exact Nat.le_refl _), List.take_of_length_le (by rw [List.length_map]; omega)]
/-- names that are still the built-in ones -/
structure BI (mg : Str → Option Value) : Prop where
  z_len : mg "len" = none
  z_abs : mg "abs" = none
  z_int : mg "int" = none
  z_bool : mg "bool" = none
  z_list : mg "list" = none
  z_repr : mg "repr" = none
  z_isinstance : mg "isinstance" = none
  z_range : mg "range" = none
end My
/-! The end of a law whose def shows containers: a def that keeps its promise where nothing is being shown. -/
namespace My
open PySem PySem.Spec PyProof.Rows L2
/-- the heap h at the law's start as the walk sees it: the script's list at a, the tables of code objects -/
structure Begin (P : Program) (w : World) (K : PySem.W.Frag) (cs : List (Addr × Addr)) (a : Addr) (ns : List Int) (H : Hp) (h : Heap) : Prop where
  tbl : ∀ p ∈ cs, H p.2 = some (.tbl #[])
  kind : ∀ b, H b = none ∨ b ∈ cs.map (·.2) ∨ ∃ o xs, H b = some (.frz o (.lst xs))
  seq : SqL K H a (ns.map V.int)
  ok : HOk P w H h
  only : ∀ b, H b ≠ none → b = a ∨ b ∈ cs.map (·.2)
  out : H a ≠ none → K.lookup a = none
/-- what is known of a table and its code object -/
structure TabF (K : PySem.W.Frag) (h : Heap) (p : Addr × Addr) : Prop where
  get : h.get? p.2 = some { cls := .none, data := .fields #[] }
  out : K.lookup p.2 = none
  hd : PySem.W.CodeHd h p.1 p.2
def Goal (l : Program) (w : World) (fa a : Addr) (s₁ : Shared) : Prop := codeAny (model l w) callerA (.call (.ref fa) ⟨[.ref a], []⟩) (fun r s' => r = .ok (.ret (.bool true)) ∧ OldK s₁.heap s'.heap ∧ s'.os = s₁.os ∧ AllBare s'.gens) s₁
theorem tab_get {K : PySem.W.Frag} {h : Heap} {cs : List (Addr × Addr)} (t : ∀ p ∈ cs, TabF K h p) {b : Addr} (hb : b ∈ cs.map (·.2)) : h.get? b = some { cls := .none, data := .fields #[] } := by
  obtain ⟨p, hp, rfl⟩ := List.mem_map.mp hb
  exact (t p hp).get
section
variable {P : Program} {w : World} {K : PySem.W.Frag} {mg mb : Str → Option Value} {k : Nat} {fa a : Addr} {cs : List (Addr × Addr)} {fd : FuncData} {x : Str} {sp : Sp} {s₁ : Shared} {vs : List Value} {ns : List Int}
theorem from_begin {H : Hp} (B : Begin P w K cs a ns H s₁.heap) (hK : K.In s₁.heap) (gN : s₁.heap.Ns mainGlobals mg) (bN : s₁.heap.Ns builtinsNs mb) (bB : ∀ x : Str, x ≠ "__name__" → mb x = bootBuiltins x) (lim : s₁.heap.NoLimit) (gens : s₁.gens = #[])
    (ts : ∀ p ∈ cs, TabF K s₁.heap p) (mB : ∃ (bm : Addr) (ob : Obj), mg "__builtins__" = some (.ref bm) ∧ bm ≠ builtinsNs ∧ s₁.heap.get? bm = some ob ∧ ob.cls = .type "module" ∧ ob.dict = some builtinsNs ∧ ob.data = .plain)
    (la : s₁.heap.get? a = some { cls := .type "list", data := .seq vs.toArray }) (hr : Room k callerA)
    (F : ∀ base : Heap, K.In base → base.Ns mainGlobals mg → (∀ p ∈ cs, LamX.TabB base mg p.1 p.2) → FnG P w K mg base CX0 k fa fd [x] sp) (bd : ∀ (s : Shared) (u : Value), BindsTo s fd ⟨[u], []⟩ [(x, u)])
    (go : sp [.ref a] H (fun v _ => v = .bl true) fun _ _ _ => False) : Goal P w fa a s₁ := by
  have away : ∀ {b : Addr} {o : Obj}, s₁.heap.get? b = some o → (∀ ys n, o.data ≠ .seq ys n) → o.data ≠ .fields #[] → H b = none := fun {b o} e n1 n2 => by
    by_cases q : H b = none
    · exact q
    · exfalso
      rcases B.only b q with rfl | hb
      · rw [la] at e
        injection e with e
        subst e
        exact n1 _ _ rfl
      · rw [tab_get ts hb] at e
        injection e with e
        subst e
        exact n2 rfl
  have seen : ∀ {b : Addr} {o : Obj}, s₁.heap.get? b = some o → H b = none → (hidT s₁.heap H).get? b = some o := fun e n => hidT_get e n
  have nsOf : ∀ {b : Addr} {m : Str → Option Value}, s₁.heap.Ns b m → (hidT s₁.heap H).Ns b m := fun {b m} ⟨o, es, ep, e, d, r⟩ =>
    ⟨o, es, ep, seen e (away e (fun ys n z => by rw [d] at z; cases z) (fun z => by rw [d] at z; cases z)), d, r⟩
  have inK : K.In (hidT s₁.heap H) := fun b o e => by
    refine seen (hK b o e) ?_
    by_cases q : H b = none
    · exact q
    · exfalso
      rcases B.only b q with rfl | hb
      · rw [B.out q] at e
        cases e
      · obtain ⟨p, hp, rfl⟩ := List.mem_map.mp hb
        rw [(ts p hp).out] at e
        cases e
  have modK : L2.Mod K mg (hidT s₁.heap H) := ⟨inK, nsOf gN, ⟨mb, nsOf bN, bB⟩, let ⟨mc, h1, h2⟩ := lim; ⟨mc, nsOf h1, h2⟩⟩
  have tabs : ∀ p ∈ cs, LamX.TabB (hidT s₁.heap H) mg p.1 p.2 := fun p hp => by
    have tp := ts p hp
    refine ⟨?_, ?_, fun z => ?_⟩
    · obtain ⟨o, us, file, tf, flags, tg, inF, text, tt, e1, r1, r2, r3, rs⟩ := tp.hd
      exact ⟨o, us, file, tf, flags, tg, inF, text, tt, seen e1 (away e1 (fun ys n z => by rw [r2] at z; cases z) (fun z => by rw [r2] at z; cases z; simp at r3)), r1, r2, r3, rs⟩
    · obtain ⟨bm, ob, m1, m2, m3, m4, m5, m6⟩ := mB
      refine ⟨bm, ob, m1, m2, fun z => ?_, fun z => ?_, seen m3 (away m3 (fun ys n z => by rw [m6] at z; cases z) (fun z => by rw [m6] at z; cases z)), m4, m5, m6⟩
      · obtain ⟨o, es, ep, e, hd, _⟩ := gN
        rw [z, e] at m3
        cases m3
        rw [hd] at m6
        cases m6
      · rw [z, tp.get] at m3
        cases m3
        cases m6
    · obtain ⟨o, es, ep, e, hd, _⟩ := gN
      rw [z, tp.get] at e
      cases e
      cases hd
  have env0 : Env0 P w K mg (hidT s₁.heap H) callerA [] s₁ H := ⟨rfl, modK, fun b o e => of_hidT e, Nat.le_of_eq (hidT_size _ _), trivial, fun b hb => absurd (show b ∈ ([] : List Addr) from hb) (by simp), B.ok, .of_eq gens⟩
  unfold Goal
  refine codeAny_mono ((F _ inK (nsOf gN) tabs).run callerA [] s₁ H ⟨[.ref a], []⟩ [.ref a] [.ref a] _ _ rfl hr env0 (bd s₁ (.ref a)) (.cons rfl .nil) go) fun r s' done => ?_
  match r, done with
  | .error e, z => exact False.elim z
  | .ok .next, z => exact False.elim z
  | .ok .brk, z => exact False.elim z
  | .ok .cont, z => exact False.elim z
  | .ok (.ret u), ⟨v, H', os, bare, un, ok', r', q⟩ =>
    have q2 : v = .bl true := q
    subst q2
    have q3 : u = Value.bool true := r'
    subst q3
    have stays : ∀ b o, b ∉ cs.map (·.2) → s₁.heap.get? b = some o → s'.heap.get? b = some o := fun b o nb e => by
      rcases B.kind b with z | z | ⟨ob, xs, z⟩
      · exact un.keep b o e z (by intro z; exact absurd (show b ∈ ([] : List Addr) from z) (by simp)) (by simp)
      · exact absurd z nb
      · obtain ⟨e1, _⟩ := B.ok b _ z
        obtain ⟨e2, _⟩ := ok' b _ (un.frzs b ob _ z)
        rw [e] at e1
        cases e1
        exact e2
    have more : ∀ p ∈ cs, ∃ ys : Array Value, s'.heap.get? p.2 = some { cls := .none, data := .fields ys } := fun p hp => by
      obtain ⟨ys, z⟩ := un.tbls p.2 #[] (B.tbl p hp)
      exact ⟨_, ok' p.2 _ z⟩
    refine ⟨rfl, ⟨fun b o e => ?_, fun b o e => ?_⟩, os, bare⟩
    · by_cases hb : b ∈ cs.map (·.2)
      · obtain ⟨p, hp, rfl⟩ := List.mem_map.mp hb
        obtain ⟨ys, hm⟩ := more p hp
        rw [(ts p hp).get] at e
        cases e
        exact .inr (.inl ⟨((ts p hp).hd.tab (ts p hp).get).isCodeTable, rfl, #[], ys, rfl, by rw [Array.empty_append]; exact hm⟩)
      · exact .inl (stays b o hb e)
    · by_cases hb : b ∈ cs.map (·.2)
      · obtain ⟨p, hp, rfl⟩ := List.mem_map.mp hb
        obtain ⟨ys, hm⟩ := more p hp
        exact ⟨_, hm⟩
      · exact ⟨o, stays b o hb e⟩
/-- such a beginning is to be had -/
theorem begins (hK : K.In s₁.heap) (ts : ∀ p ∈ cs, TabF K s₁.heap p) (la : s₁.heap.get? a = some { cls := .type "list", data := .seq vs.toArray }) (hi : IntsAre vs ns) (hl : ns.length ≤ sizeLine) : ∃ H, Begin P w K cs a ns H s₁.heap := by
  have nt : a ∉ cs.map (·.2) := fun z => by
    have q := tab_get ts z
    rw [la] at q
    injection q with q
    injection q with _ _ q _
    cases q
  have rv := vals_ints hi
  let O : Option HO := if (K.lookup a).isSome = true then none else some (.frz { cls := .type "list", data := .seq vs.toArray } (.lst (ns.map V.int)))
  have atT : ∀ b, b ∈ cs.map (·.2) → (if b ∈ cs.map (·.2) then some (HO.tbl #[]) else if b = a then O else none) = some (HO.tbl #[]) := fun b h => if_pos h
  have atA : (if a ∈ cs.map (·.2) then some (HO.tbl #[]) else if a = a then O else none) = O := (if_neg nt).trans (if_pos rfl)
  have atN : ∀ b, b ∉ cs.map (·.2) → b ≠ a → (if b ∈ cs.map (·.2) then some (HO.tbl #[]) else if b = a then O else none) = none := fun b h1 h2 => (if_neg h1).trans (if_neg h2)
  refine ⟨fun b => if b ∈ cs.map (·.2) then some (.tbl #[]) else if b = a then O else none, fun p hp => atT _ (List.mem_map.mpr ⟨p, hp, rfl⟩), fun b => ?_, ?_, fun b u z => ?_, fun b z => ?_, fun z => ?_⟩
  · by_cases h1 : b ∈ cs.map (·.2)
    · exact .inr (.inl h1)
    · by_cases h2 : b = a
      · subst h2
        by_cases h3 : (K.lookup b).isSome = true
        · exact .inl (atA.trans (if_pos h3))
        · exact .inr (.inr ⟨_, _, atA.trans (if_neg h3)⟩)
      · exact .inl (atN b h1 h2)
  · cases h3 : K.lookup a with
    | none =>
      refine .inl (.inr ⟨_, atA.trans (if_neg ?_)⟩)
      rw [h3]
      exact Bool.noConfusion
    | some o =>
      have e := hK a o h3
      rw [la] at e
      cases e
      exact .inr ⟨_, vs.toArray, _, h3, rfl, rfl, rfl, by rw [List.size_toArray, hi.length]; exact hl, by simpa using rv⟩
  · by_cases h1 : b ∈ cs.map (·.2)
    · have z' := (atT b h1).symm.trans z
      cases z'
      exact tab_get ts h1
    · by_cases h2 : b = a
      · subst h2
        have z' := atA.symm.trans z
        by_cases h3 : (K.lookup b).isSome = true
        · have z2 := (if_pos h3).symm.trans z'
          cases z2
        · have z2 := (if_neg h3).symm.trans z'
          cases z2
          exact ⟨la, by rw [List.length_map]; exact hl, vs, _, rv, la⟩
      · have z' := (atN b h1 h2).symm.trans z
        cases z'
  · by_cases h1 : b ∈ cs.map (·.2)
    · exact .inr h1
    · by_cases h2 : b = a
      · exact .inl h2
      · exact absurd (atN b h1 h2) z
  · cases h3 : K.lookup a with
    | none => rfl
    | some o => exact absurd (atA.trans (if_pos (by rw [h3]; rfl))) z
end
/-- what is known of the law's promise at the head's heap h; TF: what the top says of the tables -/
def LawG (l : PySem.W.OpenLaw) (w : World) (K : PySem.W.Frag) (k n : Nat) (x : Str) (mg : Str → Option Value) (fa : Addr) (h : Heap) : Prop :=
  ∃ (fd : FuncData) (cs : List (Addr × Addr)) (sp : Sp), (∀ p ∈ cs, TabF K h p) ∧ (∀ (s : Shared) (u : Value), BindsTo s fd ⟨[u], []⟩ [(x, u)]) ∧
    (∀ (H : Hp) (a : Addr) (ns : List Int), ns.length ≤ n → (∀ z ∈ ns, Builtin.Int.intBits z ≤ 1048576) → (∀ p ∈ cs, H p.2 = some (.tbl #[])) → SqL K H a (ns.map V.int) → sp [.ref a] H (fun v _ => v = .bl true) fun _ _ _ => False) ∧
    ∀ base : Heap, K.In base → base.Ns mainGlobals mg → (∀ p ∈ cs, LamX.TabB base mg p.1 p.2) → FnG l.prog w K mg base CX0 k fa fd [x] sp
theorem walk_G {l : PySem.W.OpenLaw} {n k : Nat} {q : Program} {loose : List Str} {XP : (Str → Option Value) → Heap → Prop} {YP : World → Heap → Prop} {d : DefRec} {K : Params → PySem.W.Frag} {x : Str}
    (hn : l.most = some n) (hn2 : n ≤ sizeLine) (hdf : d.params.defaults = []) (hr : Room k callerA) (hY : ∀ (w : World) (h : Heap), YP w h → (K w.params).In h)
    (F : ∀ (w : World) (mg : Str → Option Value) (fa : Addr) (h : Heap), YP w h → (K w.params).In h → h.Ns mainGlobals mg → mg d.name = some (.ref fa) →
      (∀ (y : Str) (c T : Addr), ((recsOf q).any fun e => e.name == y) = true → PySem.W.tabIn (K w.params) y = some (c, T) → (K w.params).lookup T = none → TabF (K w.params) h (c, T)) → LawG l w (K w.params) k n x mg fa h) :
    PySem.W.WalkO q loose XP YP l.row.toRowW d [] (fun f vs => PySem.call f vs) := by
  refine Att.attach_callB hn hdf fun w s₀ s₁ mg mb fa o pm cd doc a vs ns G Y ho hd hcd hmg hobj hints hlen hbits hg => ?_
  have KX := hY w _ Y
  obtain ⟨fd, cs, sp, ts, hb, hsp, hF⟩ := F w mg fa _ Y KX G.T.g hmg fun y c T hrec hT hN => by
    obtain ⟨e, he⟩ := Option.isSome_iff_exists.mp (show ((recsOf q).find? fun e => e.name == y).isSome = true by rw [List.find?_isSome]; obtain ⟨e, h1, h2⟩ := List.any_eq_true.mp hrec; exact ⟨e, h1, h2⟩)
    obtain ⟨h1, h2⟩ := PySem.W.tab_of G.T KX he hT
    exact ⟨h2, hN, h1⟩
  obtain ⟨H, B⟩ := begins (P := l.prog) (w := w) KX ts hobj hints (Nat.le_trans hlen hn2)
  exact from_begin B KX G.T.g G.T.b G.T.builtins G.T.nolimit hg ts G.T.bmain hobj hr hF hb (hsp H a ns hlen hbits B.tbl B.seq)
end My
/-! What the top has written, by name. -/
namespace My
open PySem PySem.Spec PyProof.Rows L2
/-- the module has the def -/
structure Has (K : PySem.W.Frag) (mg : Str → Option Value) (x : Str) (st : Stmt) : Prop where
  ex : ∃ f fd, mg x = some (.ref f) ∧ Fun K x x st f fd
/-- a def that makes functions, its code object at c -/
structure HasC (K : PySem.W.Frag) (mg : Str → Option Value) (x : Str) (st : Stmt) (c : Addr) : Prop where
  ex : ∃ (f : Addr) (oc : Value) (od : Option Addr) (kV doc pm : Value) (an : Option Addr) (ct : Value) (osl : Array (Option Value)), mg x = some (.ref f) ∧
    K.lookup f = some ⟨oc, od, .func (PySem.W.fnOf x x (defArgs st) (defBody st) (defScope st) .none kV doc pm an (.ref c) ct), osl⟩ ∧ PySem.W.codeIn K (.ref c) x = true ∧ PySem.W.keepIn K (.ref f) = true
/-- the class has the method -/
structure HasM (K : PySem.W.Frag) (C : Addr) (m qual : Str) (st : Stmt) : Prop where
  ex : ∃ f fd, PySem.W.findIn K (.ref C) m = some (some (.ref f)) ∧ PySem.W.isFn K (.ref f) = true ∧ Fun K m qual st f fd
/-- the class has the method, with defaults -/
structure HasD (K : PySem.W.Frag) (C : Addr) (m qual : Str) (st : Stmt) (dvs : List V) (kws : List (Str × V)) : Prop where
  ex : ∃ f fd, PySem.W.findIn K (.ref C) m = some (some (.ref f)) ∧ PySem.W.isFn K (.ref f) = true ∧ FunD K m qual (defArgs st) (defBody st) (defScope st) dvs kws f fd
section
variable {P : Program} {w : World} {K : PySem.W.Frag} {mg : Str → Option Value} {base : Heap} {CX : CXT} {k : Nat} {x m qual : Str} {st : Stmt} {ps ks : List Str} {sp : Sp} {C c : Addr}
def BindW (x qual : Str) (st : Stmt) (ps : List Str) : Prop := ∀ (kV doc pm : Value) (an : Option Addr) (cdv ct : Value) (us : List Value), us.length = ps.length → bindArgs (PySem.W.fnOf x qual (defArgs st) (defBody st) (defScope st) .none kV doc pm an cdv ct) ⟨us, []⟩ = pure (ps.zip us)
theorem def_at (A : Has K mg x st) (ok : ∀ f fd, Fun K x x st f fd → FnOk P w K mg base CX k f fd ps sp) (b : BindW x x st ps) : DefAt P w K mg base CX k x ps sp := by
  obtain ⟨f, fd, h1, F⟩ := A.ex
  exact ⟨f, fd, ok f fd F, h1, F.kp, F.binds b⟩
theorem def_atG (A : Has K mg x st) (ok : ∀ f fd, Fun K x x st f fd → FnG P w K mg base CX k f fd ps sp) (b : BindW x x st ps) : DefG P w K mg base CX k x ps sp := by
  obtain ⟨f, fd, h1, F⟩ := A.ex
  exact ⟨f, fd, ok f fd F, h1, F.kp, F.binds b⟩
theorem meth_at (A : HasM K C m qual st) (ok : ∀ f fd, Fun K m qual st f fd → FnOk P w K mg base CX k f fd ps sp) (b : BindW m qual st ps) : MethAt P w K mg base CX k C m ps sp := by
  obtain ⟨f, fd, h1, h2, F⟩ := A.ex
  exact ⟨f, fd, ⟨h1, h2, F.kp⟩, ok f fd F, F.binds b⟩
theorem call_at (A : HasM K C "__call__" qual st) (ok : ∀ f fd, Fun K "__call__" qual st f fd → FnOk P w K mg base CX k f fd ps sp) (b : BindW "__call__" qual st ps) : CallAt P w K mg base CX k C ps sp := by
  obtain ⟨f, fd, h1, h2, F⟩ := A.ex
  obtain ⟨oc, od, kV, doc, pm, an, cdv, ct, osl, e, lk, _⟩ := F.ex
  refine ⟨f, fd, ⟨h1, h2, ?_⟩, ok f fd F, F.binds b⟩
  unfold PySem.W.fnIn
  rw [lk]
theorem cmp_at (A : HasM K C m qual st) (ok : ∀ f fd, Fun K m qual st f fd → FnOk P w K mg base CX k f fd ps sp) (b : BindW m qual st ps) : CmpAt P w K mg base CX k C m ps sp := by
  obtain ⟨f, fd, h1, h2, F⟩ := A.ex
  exact ⟨f, fd, h1, h2, ok f fd F, F.binds b⟩
/-- called with keywords alone -/
theorem methK_at {gV : List V → List V → List V} {g : List Value → List Value → List Value} (A : HasM K C m qual st) (ok : ∀ f fd, Fun K m qual st f fd → FnOk P w K mg base CX k f fd ps sp)
    (b : ∀ (kV doc pm : Value) (an : Option Addr) (cdv ct : Value) (us ws : List Value), us.length = 1 → ws.length = ks.length → bindArgs (PySem.W.fnOf m qual (defArgs st) (defBody st) (defScope st) .none kV doc pm an cdv ct) ⟨us, ks.zip ws⟩ = pure (ps.zip (g us ws)))
    (r : ∀ {vs : List V} {us : List Value} {zs : List V} {ws : List Value}, Vals vs us → Vals zs ws → Vals (gV vs zs) (g us ws)) : MethK P w K mg base CX k C m ps ks sp gV := by
  obtain ⟨f, fd, h1, h2, F⟩ := A.ex
  obtain ⟨oc, od, kV, doc, pm, an, cdv, ct, osl, rfl, lk, hcd⟩ := id F.ex
  exact ⟨f, _, g, ⟨h1, h2, F.kp⟩, ok f _ F, ⟨fun s us ws _ l1 l2 => .of_eq (b kV doc pm an cdv ct us ws l1 l2), r⟩⟩
/-- the class is made with all its arguments -/
theorem make_all {dvs : List V} (A : HasD K C "__init__" qual st dvs []) (hx : mg x = some (.ref C)) (mk : PySem.W.makesIn K C = true) (kp : PySem.W.keepIn K (.ref C) = true) (ok : ∀ f fd, FunD K "__init__" qual (defArgs st) (defBody st) (defScope st) dvs [] f fd → FnOk P w K mg base CX k f fd ps sp) (hd : dvs ≠ [])
    (b : ∀ (T : Addr) (kV doc pm : Value) (an : Option Addr) (cdv ct : Value) (us its : List Value), us.length = ps.length → its.length = dvs.length →
      ∃ k, bindArgs (PySem.W.fnOf "__init__" qual (defArgs st) (defBody st) (defScope st) (.ref T) kV doc pm an cdv ct) ⟨us, []⟩ = seqItems? (.ref T) >>= k ∧ k (some its.toArray) = pure (ps.zip (us ++ its.drop dvs.length))) : MakeAt P w K mg base CX k x C ps sp [] := by
  obtain ⟨f, fd, h1, h2, F⟩ := A.ex
  obtain ⟨ds, r, bs⟩ := F.binds1 ps.length dvs.length hd (by omega) b
  rw [List.drop_length] at r
  exact ⟨f, fd, ds, ⟨mk, h1, h2, kp⟩, ok f fd F, hx, bs, r⟩
end
end My
/-! Ints beside instances: the int's own slots decline. -/
namespace My
open PySem PySem.Spec PyProof.Rows
def Plain (h : Heap) (l : Addr) : Prop := ∃ (c : Value) (d : Option Addr) (sl : Array (Option Value)), h.get? l = some { cls := c, dict := d, data := .plain, slots := sl }
def Declines (B : Builtin) (a : Int) (t : Tok) (l : Addr) : Prop := Meets (B ⟨[.int a t, .ref l], []⟩) fun _ R s => Plain s.heap l ∧ R (.ok (.ret Value.notImplemented)) s
theorem dec_add (a : Int) (t : Tok) (l : Addr) : Declines Builtin.«int.__add__» a t l :=
  .of_wp fun prog w A R s h => by obtain ⟨hp, g, d, tk, os⟩ := s; obtain ⟨⟨c, dd, sl, hl⟩, h⟩ := h; wp_walk; exact ⟨_, rfl, h⟩
theorem dec_sub (a : Int) (t : Tok) (l : Addr) : Declines Builtin.«int.__sub__» a t l :=
  .of_wp fun prog w A R s h => by obtain ⟨hp, g, d, tk, os⟩ := s; obtain ⟨⟨c, dd, sl, hl⟩, h⟩ := h; wp_walk; exact ⟨_, rfl, h⟩
theorem dec_mul (a : Int) (t : Tok) (l : Addr) : Declines Builtin.«int.__mul__» a t l :=
  .of_wp fun prog w A R s h => by obtain ⟨hp, g, d, tk, os⟩ := s; obtain ⟨⟨c, dd, sl, hl⟩, h⟩ := h; wp_walk; exact ⟨_, rfl, h⟩
theorem dec_floordiv (a : Int) (t : Tok) (l : Addr) : Declines Builtin.«int.__floordiv__» a t l :=
  .of_wp fun prog w A R s h => by obtain ⟨hp, g, d, tk, os⟩ := s; obtain ⟨⟨c, dd, sl, hl⟩, h⟩ := h; wp_walk; exact ⟨_, rfl, h⟩
theorem dec_mod (a : Int) (t : Tok) (l : Addr) : Declines Builtin.«int.__mod__» a t l :=
  .of_wp fun prog w A R s h => by obtain ⟨hp, g, d, tk, os⟩ := s; obtain ⟨⟨c, dd, sl, hl⟩, h⟩ := h; wp_walk; exact ⟨_, rfl, h⟩
theorem dec_lt (a : Int) (t : Tok) (l : Addr) : Declines Builtin.«int.__lt__» a t l :=
  .of_wp fun prog w A R s h => by obtain ⟨hp, g, d, tk, os⟩ := s; obtain ⟨⟨c, dd, sl, hl⟩, h⟩ := h; wp_walk; exact ⟨_, rfl, h⟩
theorem dec_le (a : Int) (t : Tok) (l : Addr) : Declines Builtin.«int.__le__» a t l :=
  .of_wp fun prog w A R s h => by obtain ⟨hp, g, d, tk, os⟩ := s; obtain ⟨⟨c, dd, sl, hl⟩, h⟩ := h; wp_walk; exact ⟨_, rfl, h⟩
theorem dec_gt (a : Int) (t : Tok) (l : Addr) : Declines Builtin.«int.__gt__» a t l :=
  .of_wp fun prog w A R s h => by obtain ⟨hp, g, d, tk, os⟩ := s; obtain ⟨⟨c, dd, sl, hl⟩, h⟩ := h; wp_walk; exact ⟨_, rfl, h⟩
theorem dec_ge (a : Int) (t : Tok) (l : Addr) : Declines Builtin.«int.__ge__» a t l :=
  .of_wp fun prog w A R s h => by obtain ⟨hp, g, d, tk, os⟩ := s; obtain ⟨⟨c, dd, sl, hl⟩, h⟩ := h; wp_walk; exact ⟨_, rfl, h⟩
theorem dec_eq (a : Int) (t : Tok) (l : Addr) : Declines Builtin.«int.__eq__» a t l :=
  .of_wp fun prog w A R s h => by obtain ⟨hp, g, d, tk, os⟩ := s; obtain ⟨⟨c, dd, sl, hl⟩, h⟩ := h; wp_walk; exact ⟨_, rfl, h⟩
end My
/-! Own operators: an instance beside an instance, beside an int, an int beside it, in place, the sign. -/
namespace My
open PySem PySem.Spec PySem.Calls PyProof.Rows L2
section
open PySem.W
variable {prog : Program} {w : World} {A : Around} {E : Value → Shared → Prop} {s : Shared} {K : Frag} {x C L f f0 : Addr} {h₀ : Heap} {m : Str → Option Value} {ox : Obj} {od : Option Obj}
/-- what is known of the int's slot -/
structure IntSlot (K : Frag) (nm : String) (id : String) (B : Builtin) : Prop where
  slot : Slot "int" (PySem.dunder nm) id
  entry : entryFor table id = some B
  args : ∀ a b : Value, argsOk id ⟨[a, b], []⟩
  dec : ∀ a t l, Declines B a t l
theorem int_plain (i : Int) (t : Tok) (s : Shared) : s.TypeIs (.int i t) "int" := by
  first | exact .int | exact trivial | rfl | exact ⟨_, rfl⟩
theorem int_call {i : Int} {t : Tok} {nm id : String} {B : Builtin} {Q : Value → Shared → Prop} (S : IntSlot K nm id B) (hp : Plain s.heap x) (h : Q .notImplemented s) : wpAny (model prog w) A (call (.builtin id) [.int i t, .ref x]) Q E s :=
  call_meets S.slot (int_plain i t s) S.entry (S.args _ _) (S.dec i t x) ⟨hp, h⟩
/-- an int beside an instance: the reflected method -/
theorem binR_K {op : Operator} {i : Int} {t : Tok} {id : String} {B : Builtin} {fo ro : Option Value} {Q : Value → Shared → Prop} (S : IntSlot K op.info.2 id B) (F : Fr h₀ L s.heap m) (X₀ : K.In h₀) (I : InstAt s.heap x ox C od) (hp : Plain s.heap x) (hc : selfFirst K C = true)
    (hs : findIn K (.ref C) (PySem.dunder op.info.2) = some (some (.ref f0))) (hr : findIn K (.ref C) (dunderR op.info.2) = some (some (.ref f))) (hf : isFn K (.ref f) = true)
    (h1 : findIn K (.type "int") (PySem.dunder op.info.2) = some fo) (h2 : findIn K (.type "int") (dunderR op.info.2) = some ro) (hl : ((fo.isSome && !isSeqSlot fo) || (ro.isSome && !isSeqSlot ro)) = true) (hsub : subIn K (.ref C) (.type "int") = some false)
    (h : wpAny (model prog w) A (call (.ref f) [.ref x, .int i t]) (PySem.W.CmpBack Q) E s) : wpAny (model prog w) A (binaryOp op (.int i t) (.ref x)) Q E s := by
  have X := X₀.keeps F.keep
  obtain ⟨cd, rest, hcd, hm⟩ := ksp_first hc
  have two := ksp_try X I hr hf h
  rcases hi : op.info with ⟨sym, nm'⟩
  rw [hi] at hs hr h1 h2 S two
  dsimp only at hs hr h1 h2 S two
  have one : wpAny (model prog w) A (tryMethod (.int i t) (PySem.dunder nm') (.ref x)) (fun r s' => r = none ∧ s' = s) E s := wpAny_tryMethod_declines (int_plain i t s) S.slot (int_call S hp ⟨rfl, rfl, rfl⟩)
  obtain ⟨hh, g, d, tt, os⟩ := s
  have L1 : Looks (model prog w) hh (typeOf (.ref x)) (.ref C) := I.type
  have L2 : Looks (model prog w) hh (typeOf (.int i t)) (.type "int") := Looks.of_pure rfl
  have L3 : Looks (model prog w) hh (fillsNumberSlot (.ref C) nm') true := fills_K X hcd hm hs
  have L4 : Looks (model prog w) hh (fillsNumberSlot (.type "int") nm') true := hl ▸ ksp_fillsT X h1 h2
  have L5 : Looks (model prog w) hh (isSubtype (.ref C) (.type "int")) false := looks_subIn X hsub
  have L7 : Looks (model prog w) hh (numberSlotInPython (.type "int") nm') false := Looks.of_pure rfl
  have hne : (Value.type "int" == Value.ref C) = false := Bool.eq_false_iff.mpr fun q => by cases beq_iff_eq.mp q
  simp only [binaryOp, hi]
  refine wpAny_holding (wpAny_bind ?_)
  unfold binaryOp1
  refine wpAny_bind (L2.at (wpAny_bind (L1.at (wpAny_bind (L4.at ?_)))))
  simp only [hne, Bool.false_eq_true, if_false]
  ksp_lk
  refine wpAny_mono one (fun r s' hr' => ?_) fun _ _ e => e
  obtain ⟨rfl, rfl⟩ := hr'
  ksp_lk
  refine wpAny_mono two (fun r s' hr' => ?_) fun _ _ e => e
  obtain ⟨v, rfl, hq⟩ := hr'
  ksp_lk
  exact hq
/-- an int compared with an instance: the reflected method -/
theorem cmpR_K {op : CmpOp} {i : Int} {t : Tok} {id : String} {B : Builtin} {Q : Value → Shared → Prop} (hu : A.units < cLine) (sl : Slot "int" (cmpInfo op).2.1 id) (en : entryFor table id = some B) (ar : ∀ a b : Value, argsOk id ⟨[a, b], []⟩) (de : ∀ a t l, Declines B a t l)
    (F : Fr h₀ L s.heap m) (X₀ : K.In h₀) (I : InstAt s.heap x ox C od) (hp : Plain s.heap x) (hs : findIn K (.ref C) (cmpInfo op).2.2 = some (some (.ref f))) (hf : isFn K (.ref f) = true) (hsub : subIn K (.ref C) (.type "int") = some false)
    (h : wpAny (model prog w) A (call (.ref f) [.ref x, .int i t]) (PySem.W.CmpBack Q) E s) (h1 : oneThing? op (.int i t) (.ref x) = none) : wpAny (model prog w) A (richCompare op (.int i t) (.ref x)) Q E s := by
  have X := X₀.keeps F.keep
  have two : wpAny (model prog w) A (tryCompare (.ref x) (cmpInfo op).2.2 (.int i t)) (fun r s' => ∃ v, r = some v ∧ Q v s') E s := by
    unfold tryCompare
    refine wpAny_bind (ifBound_K X I hs hf (wpAny_mono h (fun v s' hv => ?_) fun _ _ e => e))
    cases v <;> first | exact hv.elim | exact wpAny_pure ⟨_, rfl, hv⟩
  have one : wpAny (model prog w) A (tryCompare (.int i t) (cmpInfo op).2.1 (.ref x)) (fun r s' => r = none ∧ s' = s) E s :=
    wpAny_tryCompare_declines (int_plain i t s) sl (call_meets sl (int_plain i t s) en (ar _ _) (de i t x) ⟨hp, rfl, rfl, rfl⟩)
  have hne : (Value.type "int" != Value.ref C) = true := by
    have : (Value.type "int" == Value.ref C) = false := Bool.eq_false_iff.mpr fun q => by cases beq_iff_eq.mp q
    simp [bne, this]
  unfold richCompare
  simp only [h1]
  refine wpAny_holding (wpAny_bind (wpAny_cRoomFor hu ?_))
  refine wpAny_bind ((Looks.of_pure (show typeOf (.int i t) = pure (.type "int") from rfl)).here (wpAny_bind (I.type.here ?_)))
  simp only [hne, if_true]
  refine wpAny_bind ((looks_subIn X hsub).here ?_)
  simp only [Bool.false_eq_true, if_false, Bool.not_false, if_true]
  refine wpAny_bind (wpAny_mono one (fun r s' z => ?_) fun _ _ e => e)
  obtain ⟨rfl, rfl⟩ := z
  refine wpAny_bind (wpAny_mono two (fun r s' z => ?_) fun _ _ e => e)
  obtain ⟨v, rfl, hq⟩ := z
  exact wpAny_pure hq
end
/-! ### a method run somewhere below the body -/
structure Und (X : Cx) (n : Nat) (A : Around) : Prop where
  room : Room n A
  fr : A.frames = X.A.frames
theorem Und.here {X : Cx} {n : Nat} (hr : Room n X.A) : Und X n X.A := ⟨hr, rfl⟩
theorem Und.in1 {X : Cx} {n : Nat} {A : Around} (u : Und X (n + 1) A) : Und X n A.in1 := ⟨u.room.in1, u.fr⟩
section
variable {X : Cx} {pins : List (Addr × Obj)} {σ : L2.St} {H : Hp} {s : Shared} {CX : CXT} {k : Nat} {ps : List Str} {sp : Sp} {E : XK} {C : Addr} {m : Str}
theorem run_at {f : Addr} {fd : FuncData} {A : Around} {vs : List V} {us : List Value} {Q : VK} (F : FnOk X.prog X.w X.K X.mg X.base CX k f fd ps sp) (hb : L2.Binds X.K fd ps []) (hx : Passes CX X E) (u : Und X k A) (I : Inv X pins σ H s) (r : Vals vs us) (hsp : sp vs H Q E) :
    wpAny (model X.prog X.w) A (call (.ref f) us) (EP X pins σ Q) X.xe s := by
  have e0 : Env0 X.prog X.w X.K X.mg X.base A X.stack s H := by
    have e := I.env0
    exact ⟨by rw [u.fr]; exact e.frames, e.mod, e.bs, e.bsz, e.funs, e.frf, e.hok, e.bare⟩
  have hl : (us ++ []).length = ps.length := by rw [List.append_nil, ← r.length]; exact F.len _ _ _ _ hsp
  have bd := hb s us I.kIn hl
  rw [List.append_nil] at bd
  refine wpAny_call (codeAny_mono (F.run A X.stack s H ⟨us, []⟩ us vs _ E u.room e0 bd r hsp) fun r s' hq => ?_)
  match r, hq with
  | .error e, hq => exact hx pins σ H s e s' I hq
  | .ok (.ret z), hq => exact I.after hq
  | .ok .next, hq => exact False.elim hq
  | .ok .brk, hq => exact False.elim hq
  | .ok .cont, hq => exact False.elim hq
theorem ep_back {Q : VK} {v : Value} {s' : Shared} (h : EP X pins σ Q v s') : PySem.W.CmpBack (EP X pins σ Q) v s' := by
  cases v with
  | notImplemented =>
    obtain ⟨zv, H', I', rz, q'⟩ := h
    cases zv <;> first | (cases rz; done) | (obtain ⟨_, rz⟩ := rz; cases rz)
  | _ => exact h
theorem ins_plain {a dx : Addr} {fs : List (Str × V)} (I : Inv X pins σ H s) (ha : H a = some (.ins C dx fs)) : ∃ (ox od : Obj), PySem.W.InstAt s.heap a ox C (some od) ∧ Plain s.heap a := by
  obtain ⟨mA, J, _⟩ := ins_get I.hok ha
  have g : Plain s.heap a := ⟨_, _, _, J.1⟩
  obtain ⟨od, J, _⟩ := J.look
  exact ⟨_, od, J, g⟩
/-- a two-place method of C beside an instance of C or an int -/
structure BinF (K : PySem.W.Frag) (C : Addr) (nm : String) : Prop where
  sf : PySem.W.selfFirst K C = true
  rc : ∃ rc, PySem.W.findIn K (.ref C) (dunderR nm) = some rc ∧ (rc = none ∨ ∃ g : Addr, rc = some (.ref g))
  i1 : ∃ fo, PySem.W.findIn K (.type "int") (PySem.dunder nm) = some fo
  i2 : ∃ ro, PySem.W.findIn K (.type "int") (dunderR nm) = some ro
  su : PySem.W.subIn K (.type "int") (.ref C) = some false
def OrInt (H : Hp) (C : Addr) (y : V) : Prop := (∃ b dy gs, y = .ref b ∧ H b = some (.ins C dy gs)) ∨ ∃ j, y = .int j
def rBinO (C : Addr) (sp : Sp) (E : XK) : R2 := fun x y H Q => ∃ a dx fs, x = .ref a ∧ H a = some (.ins C dx fs) ∧ OrInt H C y ∧ sp [x, y] H Q E
theorem op_binO {op : Operator} (M : CmpAt X.prog X.w X.K X.mg X.base CX k C m ps sp) (B : BinF X.K C op.info.2) (hr : Room k X.A) (hx : Passes CX X E) (hm : PySem.dunder op.info.2 = m := by rfl) : OpR X (binaryOp op) (rBinO C sp E) := by
  intro pins s σ H x y v u Q I rx ry h
  obtain ⟨f, fd, hs, hf, F, hb⟩ := M.ex
  obtain ⟨a, dx, fs, rfl, ha, oi, hsp⟩ := h
  obtain rfl : v = Value.ref a := rx
  obtain ⟨ox, od, J, _⟩ := ins_plain I ha
  obtain ⟨m', hF⟩ := I.fr
  subst hm
  have go : wpAny (model X.prog X.w) X.A (call (.ref f) [.ref a, u]) (PySem.W.CmpBack (EP X pins σ Q)) X.xe s := wpAny_mono (run_at (vs := [.ref a, y]) F hb hx (Und.here hr) I (.cons rfl (.cons ry .nil)) hsp) (fun _ _ z => ep_back z) fun _ _ z => z
  rcases oi with ⟨b, dy, gs, rfl, hb'⟩ | ⟨j, rfl⟩
  · obtain rfl : u = Value.ref b := ry
    obtain ⟨oy, od', J', _⟩ := ins_plain I hb'
    exact PySem.W.binop_K hF I.ok.mod.kin J J'.type B.sf hs hf go
  · obtain ⟨t, rfl⟩ := ry
    obtain ⟨rc, r1, r2⟩ := B.rc
    obtain ⟨fo, i1⟩ := B.i1
    obtain ⟨ro, i2⟩ := B.i2
    exact PySem.W.ksp_binT hF I.ok.mod.kin J rfl B.sf hs hf r1 r2 i1 i2 B.su go
/-- an int beside an instance: the reflected method -/
structure RefF (K : PySem.W.Frag) (C : Addr) (nm : String) : Prop where
  sf : PySem.W.selfFirst K C = true
  f0 : ∃ f : Addr, PySem.W.findIn K (.ref C) (PySem.dunder nm) = some (some (.ref f))
  ii : ∃ fo ro, PySem.W.findIn K (.type "int") (PySem.dunder nm) = some fo ∧ PySem.W.findIn K (.type "int") (dunderR nm) = some ro ∧ ((fo.isSome && !isSeqSlot fo) || (ro.isSome && !isSeqSlot ro)) = true
  su : PySem.W.subIn K (.ref C) (.type "int") = some false
def rBinR (C : Addr) (sp : Sp) (E : XK) : R2 := fun x y H Q => ∃ i b dy gs, x = .int i ∧ y = .ref b ∧ H b = some (.ins C dy gs) ∧ sp [y, x] H Q E
theorem op_binR {op : Operator} {id : String} {Bu : Builtin} (M : CmpAt X.prog X.w X.K X.mg X.base CX k C m ps sp) (S : IntSlot X.K op.info.2 id Bu) (B : RefF X.K C op.info.2) (hr : Room k X.A) (hx : Passes CX X E) (hm : dunderR op.info.2 = m := by rfl) : OpR X (binaryOp op) (rBinR C sp E) := by
  intro pins s σ H x y v u Q I rx ry h
  obtain ⟨f, fd, hs, hf, F, hb⟩ := M.ex
  obtain ⟨i, b, dy, gs, rfl, rfl, hb', hsp⟩ := h
  obtain rfl : u = Value.ref b := ry
  obtain ⟨t, rfl⟩ := rx
  obtain ⟨ox, od, J, pl⟩ := ins_plain I hb'
  obtain ⟨m', hF⟩ := I.fr
  subst hm
  obtain ⟨f0, h0⟩ := B.f0
  obtain ⟨fo, ro, i1, i2, i3⟩ := B.ii
  exact binR_K S hF I.ok.mod.kin J pl B.sf h0 hs hf i1 i2 i3 B.su (wpAny_mono (run_at (vs := [.ref b, .int i]) F hb hx (Und.here hr) I (.cons rfl (.cons ⟨t, rfl⟩ .nil)) hsp) (fun _ _ z => ep_back z) fun _ _ z => z)
theorem is_add {K : PySem.W.Frag} : IntSlot K (Operator.info .Add).2 "int.__add__" Builtin.«int.__add__» := ⟨PySem.F.slot_int_add, PySem.F.entry_int_add, PySem.F.args_int_add_2, dec_add⟩
theorem is_sub {K : PySem.W.Frag} : IntSlot K (Operator.info .Sub).2 "int.__sub__" Builtin.«int.__sub__» := ⟨PySem.F.slot_int_sub, PySem.F.entry_int_sub, PySem.F.args_int_sub_2, dec_sub⟩
theorem is_mul {K : PySem.W.Frag} : IntSlot K (Operator.info .Mult).2 "int.__mul__" Builtin.«int.__mul__» := ⟨PySem.F.slot_int_mul, PySem.F.entry_int_mul, PySem.F.args_int_mul_2, dec_mul⟩
/-- an int compared with an instance -/
def rCmpR (C : Addr) (sp : Sp) (E : XK) : R2 := fun x y H Q => ∃ i b dy gs, x = .int i ∧ y = .ref b ∧ H b = some (.ins C dy gs) ∧ sp [y, x] H Q E
theorem op_cmpRv {op : CmpOp} {id : String} {Bu : Builtin} (M : CmpAt X.prog X.w X.K X.mg X.base CX k C m ps sp) (su : PySem.W.subIn X.K (.ref C) (.type "int") = some false) (hr : Room k X.A) (hx : Passes CX X E) (hm : (cmpInfo op).2.2 = m) (hco : ∀ v u, compareOp op v u = richCompare op v u)
    (h1 : ∀ i t b, oneThing? op (.int i t) (.ref b) = none) (sl : Slot "int" (cmpInfo op).2.1 id) (en : entryFor table id = some Bu) (ar : ∀ a b : Value, argsOk id ⟨[a, b], []⟩) (de : ∀ a t l, Declines Bu a t l) : OpR X (compareOp op) (rCmpR C sp E) := by
  intro pins s σ H x y v u Q I rx ry h
  obtain ⟨f, fd, hs, hf, F, hb⟩ := M.ex
  obtain ⟨i, b, dy, gs, rfl, rfl, hb', hsp⟩ := h
  obtain rfl : u = Value.ref b := ry
  obtain ⟨t, rfl⟩ := rx
  obtain ⟨ox, od, J, pl⟩ := ins_plain I hb'
  obtain ⟨m', hF⟩ := I.fr
  subst hm
  rw [hco]
  exact cmpR_K hr.units0 sl en ar de hF I.ok.mod.kin J pl hs hf su (wpAny_mono (run_at (vs := [.ref b, .int i]) F hb hx (Und.here hr) I (.cons rfl (.cons ⟨t, rfl⟩ .nil)) hsp) (fun _ _ z => ep_back z) fun _ _ z => z) (h1 i t b)
theorem op_ltR (M : CmpAt X.prog X.w X.K X.mg X.base CX k C "__gt__" ps sp) (su : PySem.W.subIn X.K (.ref C) (.type "int") = some false) (hr : Room k X.A) (hx : Passes CX X E) : OpR X (compareOp .Lt) (rCmpR C sp E) := op_cmpRv M su hr hx rfl (fun _ _ => rfl) (fun _ _ _ => rfl) PySem.F.slot_int_lt PySem.F.entry_int_lt PySem.F.args_int_lt_2 dec_lt
theorem op_leR (M : CmpAt X.prog X.w X.K X.mg X.base CX k C "__ge__" ps sp) (su : PySem.W.subIn X.K (.ref C) (.type "int") = some false) (hr : Room k X.A) (hx : Passes CX X E) : OpR X (compareOp .LtE) (rCmpR C sp E) := op_cmpRv M su hr hx rfl (fun _ _ => rfl) (fun _ _ _ => rfl) PySem.F.slot_int_le PySem.F.entry_int_le PySem.F.args_int_le_2 dec_le
theorem op_gtR (M : CmpAt X.prog X.w X.K X.mg X.base CX k C "__lt__" ps sp) (su : PySem.W.subIn X.K (.ref C) (.type "int") = some false) (hr : Room k X.A) (hx : Passes CX X E) : OpR X (compareOp .Gt) (rCmpR C sp E) := op_cmpRv M su hr hx rfl (fun _ _ => rfl) (fun _ _ _ => rfl) PySem.F.slot_int_gt PySem.F.entry_int_gt PySem.F.args_int_gt_2 dec_gt
theorem op_geR (M : CmpAt X.prog X.w X.K X.mg X.base CX k C "__le__" ps sp) (su : PySem.W.subIn X.K (.ref C) (.type "int") = some false) (hr : Room k X.A) (hx : Passes CX X E) : OpR X (compareOp .GtE) (rCmpR C sp E) := op_cmpRv M su hr hx rfl (fun _ _ => rfl) (fun _ _ _ => rfl) PySem.F.slot_int_ge PySem.F.entry_int_ge PySem.F.args_int_ge_2 dec_ge
/-- - of an instance -/
def rNegO (C : Addr) (sp : Sp) (E : XK) : V → Hp → VK → Prop := fun x H Q => ∃ a dx fs, x = .ref a ∧ H a = some (.ins C dx fs) ∧ sp [x] H Q E
theorem un_negO (M : CmpAt X.prog X.w X.K X.mg X.base CX k C "__neg__" ps sp) (hr : Room k X.A) (hx : Passes CX X E) : UnR X (unaryOp .USub) (rNegO C sp E) := by
  intro pins s σ H x v Q I rx h
  obtain ⟨f, fd, hs, hf, F, hb⟩ := M.ex
  obtain ⟨a, dx, fs, rfl, ha, hsp⟩ := h
  obtain rfl : v = Value.ref a := rx
  obtain ⟨ox, od, J, _⟩ := ins_plain I ha
  obtain ⟨m', hF⟩ := I.fr
  exact PySem.W.ksp_neg hF I.ok.mod.kin J hs hf (run_at (vs := [.ref a]) F hb hx (Und.here hr) I (.cons rfl .nil) hsp)
/-- str(x) of an instance with its own __str__ -/
def rStrO (C : Addr) (sp : Sp) (E : XK) : List V → Hp → VK → Prop := fun xs H Q => ∃ a dx fs, xs = [.ref a] ∧ H a = some (.ins C dx fs) ∧ sp [.ref a] H (fun v H' => ∃ x, v = .str x ∧ Q v H') E
theorem call_strO (M : CmpAt X.prog X.w X.K X.mg X.base CX k C "__str__" ps sp) (hr : Room (k + 2) X.A) (hx : Passes CX X E) : CallR X (.type "str") (rStrO C sp E) := by
  intro pins s σ H xs us Q I r h
  obtain ⟨f, fd, hs, hf, F, hb⟩ := M.ex
  obtain ⟨a, dx, fs, rfl, ha, hsp⟩ := h
  obtain ⟨u, rfl, r1⟩ := vals1 r
  obtain rfl : u = Value.ref a := r1
  obtain ⟨ox, od, J, _⟩ := ins_plain I ha
  have U : Und X k X.A.in1.in1 := (Und.here hr).in1.in1
  refine PySem.W.kso_call U.room.units0 (I.kIn) J hs hf (wpAny_mono (run_at (vs := [.ref a]) F hb hx U I (.cons rfl .nil) hsp) (fun v s' z => ?_) fun _ _ z => z)
  obtain ⟨z, H', I', rz, x, rfl, q⟩ := z
  obtain ⟨t, rfl⟩ := rz
  exact ⟨.str x, H', I', ⟨t, rfl⟩, q⟩
end
end My
/-! != by an own ==. -/
namespace My
open PySem PySem.Spec PySem.Calls PyProof.Rows L2
theorem slot_one : Slot "object" "__ne__" "object.__ne__" :=
  .of (owner := "object") (n := "__ne__") (by rw [typeLookup_type, builtinLookup_eq_fast]; kernel_rfl) (by decide +kernel) (by decide +kernel) (by decide +kernel) (.inl (by decide +kernel)) (by rw [isSubtype_type]; kernel_rfl)
section
open PySem.W
variable {prog : Program} {w : World} {A : Around} {E : Value → Shared → Prop} {s : Shared} {K : Frag} {x C L f : Addr} {h₀ : Heap} {m : Str → Option Value} {ox : Obj} {od : Option Obj} {b tb : Value}
/-- what an own == hands back, turned about -/
def NotBack (Q : Value → Shared → Prop) (v : Value) (s' : Shared) : Prop := ∃ c, v = .bool c ∧ Q (.bool (!c)) s'
theorem one_call {Q : Value → Shared → Prop} (hu : A.in1.units < cLine) (X : K.In s.heap) (I : InstAt s.heap x ox C od) (hm : mroIn K C (.type "object") = some true) (hs : findIn K (.ref C) "__eq__" = some (some (.ref f))) (hf : isFn K (.ref f) = true)
    (h : wpAny (model prog w) A.in1 (call (.ref f) [.ref x, b]) (NotBack Q) E s) : wpAny (model prog w) A (call (.builtin "object.__ne__") [.ref x, b]) Q E s := by
  refine wpAny_call (codeAny_call_builtin slot_one.plain PySem.F.cmpEntry_ne (check_slot (i := "object.__ne__") (owner := "object") (n := "__ne__") PySem.F.cmpKind_ne PySem.F.cmpSplit_ne (I.type.andThen (looks_mroIn X hm)) (PySem.F.cmpArgs_ne _ _) ?_))
  unfold Builtin.«object.__ne__»
  refine wpAny_bind (m := slotArgs "__ne__" 1 _) (wpAny_pure ?_)
  refine wpAny_bind (m := cRoomFor _ _) (wpAny_cRoomFor hu ?_)
  refine wpAny_bind (m := callSpecialIfBound? (.ref x) (Str.ofString "__eq__") _) (ifBound_K X I hs hf (wpAny_mono h (fun r s' hq => ?_) fun _ _ y => y))
  obtain ⟨c, rfl, hq⟩ := hq
  refine wpAny_bind (m := truthy (.bool c)) (wpAny_truthy_bool ?_)
  exact wpAny_pure hq
theorem ne_K {Q : Value → Shared → Prop} (hu : A.units < cLine) (hu1 : A.in1.units < cLine) (F : Fr h₀ L s.heap m) (X₀ : K.In h₀) (I : InstAt s.heap x ox C od) (hb : Looks (model prog w) s.heap (typeOf b) tb) (hn : notFirst K C tb = true)
    (hm : mroIn K C (.type "object") = some true) (h1 : findIn K (.ref C) "__ne__" = some (some (.builtin "object.__ne__"))) (hs : findIn K (.ref C) "__eq__" = some (some (.ref f))) (hf : isFn K (.ref f) = true)
    (h : wpAny (model prog w) A.in1 (call (.ref f) [.ref x, b]) (NotBack Q) E s) : wpAny (model prog w) A (richCompare .NotEq (.ref x) b) Q E s := by
  have X := X₀.keeps F.keep
  have one : wpAny (model prog w) A (tryCompare (.ref x) "__ne__" b) (fun r s' => ∃ v, r = some v ∧ Q v s') E s := by
    unfold tryCompare
    refine wpAny_bind ?_
    simp only [callSpecialIfBound?, bindSpecialIfBound?]
    refine wpAny_holding (wpAny_bind (wpAny_bind (wpAny_bind (I.type.here ((looks_findIn X h1).here ?_)))))
    refine wpAny_bind (wpAny_askSetting (wpAny_ite ?_))
    have fin : wpAny (model prog w) A (call (.builtin "object.__ne__") ([.ref x] ++ [b]) >>= fun v => pure (some v)) (fun r s' => wpAny (model prog w) A (match r with | some .notImplemented | none => pure none | some v => pure (some v)) (fun r s' => ∃ v, r = some v ∧ Q v s') E s') E s := by
      refine wpAny_bind (one_call hu1 X I hm hs hf (wpAny_mono h (fun v s' z => ?_) fun _ _ z => z))
      obtain ⟨c, rfl, hq⟩ := z
      exact ⟨c, rfl, wpAny_pure (wpAny_pure ⟨_, rfl, hq⟩)⟩
    split
    · exact wpAny_bind ((Looks.of_pure (slot_one.bind (.ref x))).here (wpAny_pure (by exact fin)))
    · exact wpAny_tryCatch (wpAny_bind ((Looks.of_pure (slot_one.bind (.ref x))).here (wpAny_pure (by exact fin))))
  unfold richCompare
  simp only [oneThing_ref]
  refine wpAny_holding (wpAny_bind (wpAny_cRoomFor hu ?_))
  refine wpAny_bind (I.type.here (wpAny_bind (hb.here ?_)))
  split
  · rename_i q
    have e : subIn K tb (.ref C) = some false := by
      rcases Bool.or_eq_true_iff.mp hn with e | e
      · rw [beq_iff_eq.mp e] at q; simp at q
      · exact beq_iff_eq.mp e
    refine wpAny_bind ((looks_subIn X e).here ?_)
    simp only [Bool.false_eq_true, if_false]
    refine wpAny_bind (wpAny_mono one (fun r s' z => ?_) fun _ _ e => e)
    obtain ⟨v, rfl, hq⟩ := z
    exact wpAny_pure hq
  · refine wpAny_bind (wpAny_pure ?_)
    simp only [Bool.false_eq_true, if_false]
    refine wpAny_bind (wpAny_mono one (fun r s' z => ?_) fun _ _ e => e)
    obtain ⟨v, rfl, hq⟩ := z
    exact wpAny_pure hq
end
section
variable {X : Cx} {CX : CXT} {k : Nat} {ps : List Str} {sp : Sp} {E : XK} {C : Addr}
def rNeO (K : PySem.W.Frag) (C : Addr) (sp : Sp) (E : XK) : R2 := fun x y H Q => ∃ a dx fs t, x = .ref a ∧ H a = some (.ins C dx fs) ∧ TyX K H y t ∧ PySem.W.notFirst K C t = true ∧ sp [.ref a, y] H (fun v H' => ∃ b, v = .bl b ∧ Q (.bl (!b)) H') E
theorem op_neO (M : CmpAt X.prog X.w X.K X.mg X.base CX k C "__eq__" ps sp) (hm : PySem.W.mroIn X.K C (.type "object") = some true) (h1 : PySem.W.findIn X.K (.ref C) "__ne__" = some (some (.builtin "object.__ne__"))) (hr : Room (k + 1) X.A) (hx : Passes CX X E) : OpR X (compareOp .NotEq) (rNeO X.K C sp E) := by
  intro pins s σ H x y v u Q I rx ry h
  obtain ⟨f, fd, hs, hf, F, hb⟩ := M.ex
  obtain ⟨a, dx, fs, t, rfl, ha, ty, hn, hsp⟩ := h
  obtain rfl : v = Value.ref a := rx
  obtain ⟨ox, od, J, _⟩ := ins_plain I ha
  obtain ⟨m', hF⟩ := I.fr
  obtain ⟨Pz, Z, pz, _⟩ := kit_of I ry ty
  have U : Und X k X.A.in1 := (Und.here hr).in1
  refine ne_K hr.units0 U.room.units0 hF I.ok.mod.kin J (Z.ty _ _ I.kIn pz) hn hm h1 hs hf (wpAny_mono (run_at (vs := [.ref a, y]) F hb hx U I (.cons rfl (.cons ry .nil)) hsp) (fun v s' z => ?_) fun _ _ z => z)
  obtain ⟨z, H', I', rz, b, rfl, q⟩ := z
  obtain rfl : v = Value.bool b := rz
  exact ⟨b, rfl, .bl (!b), H', I', rfl, q⟩
end
end My
/-! Static methods by the class's name; ints divided by ints of any sign; lists beside the empty one. -/
namespace My
open PySem PySem.Spec PySem.Calls PyProof.Rows L2
/-- C.m is a staticmethod with the def at f -/
structure Stat (K : PySem.W.Frag) (C : Addr) (m : Str) (f : Addr) : Prop where
  ga : PySem.W.specialIn K (.ref C) "__getattribute__" = some (some (.builtin "type.__getattribute__"))
  rc : ∃ (mc : Value) (p : Addr) (rest : List Value), PySem.W.readsIn K C mc = true ∧ PySem.W.findCls K (.ref C) mc m = some (.get (.builtin "staticmethod.__get__") (.ref p) .none (.ref C)) ∧ PySem.W.recIn K p "staticmethod" = some (.ref f :: rest)
  kp : PySem.W.keepIn K (.ref f) = true
structure StatAt (P : Program) (w : World) (K : PySem.W.Frag) (mg : Str → Option Value) (base : Heap) (CX : CXT) (k : Nat) (C : Addr) (m : Str) (ps : List Str) (sp : Sp) : Prop where
  ex : ∃ f fd, Stat K C m f ∧ FnOk P w K mg base CX k f fd ps sp ∧ L2.Binds K fd ps []
structure StatK (P : Program) (w : World) (K : PySem.W.Frag) (mg : Str → Option Value) (base : Heap) (CX : CXT) (k : Nat) (C : Addr) (m : Str) (ps ks : List Str) (sp : Sp) (gV : List V → List V → List V) : Prop where
  ex : ∃ f fd g, Stat K C m f ∧ FnOk P w K mg base CX k f fd ps sp ∧ KBn K fd ps 0 ks g gV
section
variable {X : Cx} {CX : CXT} {k : Nat} {C : Addr} {ps ks : List Str} {sp : Sp} {E : XK} {m : Str} {e o : Expr} {es : List Expr} {kws : List Keyword} {t tk : TA} {ta : TE} {pos apos : Pos} {gV : List V → List V → List V}
theorem getstat_ok {pins : List (Addr × Obj)} {σ : L2.St} {H : Hp} {s : Shared} {f : Addr} {pl : Sem Bool} {A : Around} {Er : Value → Shared → Prop} {Q : Value × List Value → Shared → Prop} (I : Inv X pins σ H s) (c : Stat X.K C m f) (h : ∀ s', Inv X pins σ H s' → Q (.ref f, []) s') : wpAny (model X.prog X.w) A (getMethod (.ref C) m pl) Q Er s := by
  obtain ⟨mc, p, rest, h1, h2, h3⟩ := c.rc
  refine PySem.W.method_cls I.kIn c.ga (PySem.W.cls_bind I.kIn h1 h2 ?_)
  exact wpAny_call (PySem.W.sm_get (s := { s with toks := s.toks + 1 }) I.kIn h3 (PySem.W.handed_on rfl (h _ (I.tok _))))
def tStat (C : Addr) (sp : Sp) (E : XK) (ta : TE) (t : TA) : TE := fun σ H Q => ta σ H fun x H1 => x = .ref C ∧ t σ H1 fun vs H2 => sp vs H2 Q E
theorem pe_st {pl : Sem Bool} (M : StatAt X.prog X.w X.K X.mg X.base CX k C m ps sp) (hr : Room k X.A) (hx : Passes CX X E) (he : PE X o ta) (ha : PA X (e :: es) t)
    (hst : starEach (e :: es) X.env = (false, eval e X.env) :: starEach es X.env := by rfl) (hpl : (backTo pos (starEach es X.env)).any (·.1) = false := by rfl)
    (ht : eval (.Call (.Attribute o m apos) (e :: es) [] pos) X.env = (do
      let ov ← eval o X.env
      standAt apos.atName
      let (f, first) ← holding [ov] (getMethod ov m pl)
      callWith pos f first (backTo pos (starEach (e :: es) X.env)) (backToKw pos (keywordEach [] X.env))) := by rfl) :
    PE X (.Call (.Attribute o m apos) (e :: es) [] pos) (tStat C sp E ta t) := by
  obtain ⟨f, fd, c, F, b⟩ := M.ex
  refine ⟨fun pins s σ H Q I h => ?_⟩
  refine PySem.W.methodCall_KW (pl := pl) (thn (he.run pins s σ H _ I h) fun u s1 ⟨x, H1, I1, rx, ex, q⟩ => ?_) ht
  subst ex
  obtain rfl : u = Value.ref C := rx
  refine getstat_ok I1 c fun s1 I1 => ?_
  refine PySem.W.callWith_K (first := []) (h₀ := X.base) I.ok.mod.kin c.kp (thn (ha.run pos pins s1 σ H1 _ I1 q) fun us s2 ⟨vs, H2, I2, r, q2⟩ => ⟨I2.kIn, ?_⟩) hst hpl
  exact run_fn (us := us) (vs := vs) F hr b .nil hx I2 r (by rw [List.append_nil]; exact q2)
def tStatK (C : Addr) (j : Nat) (sp : Sp) (gV : List V → List V → List V) (E : XK) (ta : TE) (tk : TA) : TE := fun σ H Q => ta σ H fun x H1 => x = .ref C ∧ tk σ H1 fun zs H2 => zs.length = j ∧ sp (gV [] zs) H2 Q E
theorem pe_stK {pl : Sem Bool} (M : StatK X.prog X.w X.K X.mg X.base CX k C m ps ks sp gV) (hr : Room k X.A) (hx : Passes CX X E) (he : PE X o ta) (hkw : PK X kws tk)
    (hall : (backToKw pos (keywordEach kws X.env)).all (·.1.isSome) = true := by rfl) (hks : (backToKw pos (keywordEach kws X.env)).filterMap (·.1) = ks := by rfl)
    (hpl : ((backTo pos (starEach [] X.env)).any (·.1) || (backToKw pos (keywordEach kws X.env)).any (·.1.isNone)) = false := by rfl)
    (ht : eval (.Call (.Attribute o m apos) [] kws pos) X.env = (do
      let ov ← eval o X.env
      standAt apos.atName
      let (f, first) ← holding [ov] (getMethod ov m pl)
      callWith pos f first (backTo pos (starEach [] X.env)) (backToKw pos (keywordEach kws X.env))) := by rfl) :
    PE X (.Call (.Attribute o m apos) [] kws pos) (tStatK C ks.length sp gV E ta tk) := by
  obtain ⟨f, fd, g, c, F, b⟩ := M.ex
  refine ⟨fun pins s σ H Q I h => ?_⟩
  refine PySem.W.methodCall_KW (pl := pl) (thn (he.run pins s σ H _ I h) fun u s1 ⟨x, H1, I1, rx, ex, q⟩ => ?_) ht
  subst ex
  obtain rfl : u = Value.ref C := rx
  refine getstat_ok I1 c fun s1 I1 => ?_
  refine PySem.W.callWith_KW0 (first := []) (h₀ := X.base) I.ok.mod.kin c.kp hall (thn (hkw.run pos pins s1 σ H1 _ I1 q) fun ws s2 ⟨zs, H2, I2, rz, l2, q2⟩ => ⟨I2.kIn, ?_⟩) hpl
  rw [hks]
  exact run_fnN (us := []) (vs := []) F hr b hx I2 .nil rz rfl l2 q2
/-! ### // and % by any int but 0 -/
def CDivX (_ j : Int) : Prop := j ≠ 0 ∧ j.natAbs.log2 < 9000
theorem op_fdivX : OpR X (binaryOp .FloorDiv) (rI CDivX fun i j => .int (i.fdiv j)) := opI fun _ _ _ _ _ _ _ hc q => floordiv_int hc.1 q (.inl (PyProof.noPylong_of_log2 hc.2))
/-! ### lists of unlike lengths -/
def rEqL : R2 := fun x y H Q => ∃ l b xs ys, x = .ref l ∧ y = .ref b ∧ H l = some (.lst xs) ∧ H b = some (.lst ys) ∧ xs.length ≠ ys.length ∧ Q (.bl false) H
theorem op_eqL (hu : X.A.units < cLine) : OpR X (compareOp .Eq) rEqL := by
  intro pins s σ H x y v u Q I rx ry h
  obtain ⟨l, b, xs, ys, rfl, rfl, h1, h2, hn, q⟩ := h
  obtain rfl : v = Value.ref l := rx
  obtain rfl : u = Value.ref b := ry
  obtain ⟨z, its, n, r, hl, e⟩ := I.lstM h1
  obtain ⟨z2, its2, n2, r2, hl2, e2⟩ := I.lstM h2
  have hs : (its.toArray.size != its2.toArray.size) = true := by
    have a1 := r.length
    have a2 := r2.length
    simp only [List.size_toArray, bne_iff_ne, ne_eq]
    omega
  show wpAny (model X.prog X.w) X.A (richCompare .Eq (.ref l) (.ref b)) _ _ s
  refine wpAny_richCompare_same_room (op := .Eq) ⟨_, e, rfl⟩ ⟨_, e2, rfl⟩ PySem.F.slot_list_eq (call_meets PySem.F.slot_list_eq ⟨_, e, rfl⟩ PySem.F.entry_list_eq (PySem.F.args_list_eq_2 _ _) (AutoSeq1.list___eq___list_list_0 l its.toArray n b its2.toArray n2 hs) ⟨e, e2, ?_⟩) hu
  exact ⟨(fun x => nomatch x), .bl false, H, I, rfl, q⟩
end
end My
/-! The order of two pairs of ints; two promises of one def. -/
namespace My
open PySem PySem.Spec PySem.Calls PyProof.Rows L2
def ordP (r : Int → Int → Bool) (z : Bool) (a b c d : Int) : Bool := if a = c then (if b = d then z else r b d) else r a c
def rOrd (K : PySem.W.Frag) (r : Int → Int → Bool) (z : Bool) : R2 := fun x y H Q => ∃ (l m : Addr) (a b c d : Int), x = .ref l ∧ y = .ref m ∧ SqT K H l [.int a, .int b] ∧ SqT K H m [.int c, .int d] ∧ Q (.bl (ordP r z a b c d)) H
theorem int_here {s : Shared} {A : Around} (a c : Int) (t u : Tok) : SeqAt.EqAt A s (.int a t) (.int c u) (decide (a = c)) := by
  have e : (a == c) = decide (a = c) := by
    by_cases q : a = c
    · rw [decide_eq_true q]; exact beq_iff_eq.mpr q
    · rw [decide_eq_false q]; exact beq_eq_false_iff_ne.mpr q
  rw [← e]
  exact SeqAt.EqAt.int_int _ _ _ _
theorem op_ordV {X : Cx} {op : CmpOp} {r : Int → Int → Bool} {z : Bool} (hco : ∀ v u, compareOp op v u = richCompare op v u)
    (tup : ∀ {A : Around} {s : Shared} {l b : Addr} {is js : Array Value} {e r : Nat → Bool}, s.heap.IsTuple l is → s.heap.IsTuple b js → A.units < cLine → is.size = 2 → js.size = 2 → (∀ j (h1 : j < is.size) (h2 : j < js.size), SeqAt.EqAt A.in1 s is[j] js[j] (e j)) →
      (∀ j (h1 : j < is.size) (h2 : j < js.size), e j = false → Ob.RcOp op A.in1 s is[j] js[j] (r j)) → Ob.RcOp op A s (.ref l) (.ref b) (Ob.lexAt e r z 0 2))
    (int : ∀ {A : Around} {s : Shared} (a b : Int) (t u : Tok), Ob.RcOp op A s (.int a t) (.int b u) (r a b)) (hu : X.A.units < cLine) : OpR X (compareOp op) (rOrd X.K r z) := by
  intro pins s σ H x y v u Q I rx ry h
  obtain ⟨l, m, a, b, c, d, rfl, rfl, hl, hm, q⟩ := h
  obtain rfl : v = Value.ref l := rx
  obtain rfl : u = Value.ref m := ry
  obtain ⟨is, r1, p1, _⟩ := I.tuple hl
  obtain ⟨js, r2, p2, _⟩ := I.tuple hm
  cases r1 with
  | cons ra r1 =>
    cases r1 with
    | cons rb r1 =>
      cases r1
      cases r2 with
      | cons rc r2 =>
        cases r2 with
        | cons rd r2 =>
          cases r2
          obtain ⟨ta, rfl⟩ := ra
          obtain ⟨tb, rfl⟩ := rb
          obtain ⟨tc, rfl⟩ := rc
          obtain ⟨td, rfl⟩ := rd
          have R := tup (A := X.A) (s := s) (e := fun j => if j = 0 then decide (a = c) else decide (b = d)) (r := fun j => if j = 0 then r a c else r b d) p1 p2 hu rfl rfl (fun j h1 h2 => by
            match j, h1 with
            | 0, _ => exact int_here a c ta tc
            | 1, _ => exact int_here b d tb td) (fun j h1 h2 _ => by
            match j, h1 with
            | 0, _ => exact int a c ta tc
            | 1, _ => exact int b d tb td)
          rw [hco]
          refine R X.prog X.w X.xe (EP X pins σ Q) ⟨.bl _, H, I, rfl, ?_⟩
          have e : Ob.lexAt (fun j => if j = 0 then decide (a = c) else decide (b = d)) (fun j => if j = 0 then r a c else r b d) z 0 2 = ordP r z a b c d := by
            unfold ordP
            simp only [Ob.lexAt_succ, Ob.lexAt_zero]
            by_cases h1 : a = c
            · by_cases h2 : b = d
              · simp [h1, h2]
              · simp [h1, h2]
            · simp [h1]
          rw [e]
          exact q
section
variable {X : Cx}
theorem op_ltP (hu : X.A.units < cLine) : OpR X (compareOp .Lt) (rOrd X.K (fun i j => decide (i < j)) false) := op_ordV (fun _ _ => rfl) (fun {A s l b is js e r} h1 h2 h3 h4 h5 h6 h7 => by have z := Ob.RcOp.tuples_lt h1 h2 h3 h6 h7; rw [h4, h5] at z; exact z) (fun a b t u => Ob.RcOp.lt_int a b t u) hu
theorem op_leP (hu : X.A.units < cLine) : OpR X (compareOp .LtE) (rOrd X.K (fun i j => decide (i ≤ j)) true) := op_ordV (fun _ _ => rfl) (fun {A s l b is js e r} h1 h2 h3 h4 h5 h6 h7 => by have z := Ob.RcOp.tuples_le h1 h2 h3 h6 h7; rw [h4, h5] at z; exact z) (fun a b t u => Ob.RcOp.le_int a b t u) hu
theorem op_gtP (hu : X.A.units < cLine) : OpR X (compareOp .Gt) (rOrd X.K (fun i j => decide (j < i)) false) := op_ordV (fun _ _ => rfl) (fun {A s l b is js e r} h1 h2 h3 h4 h5 h6 h7 => by have z := Ob.RcOp.tuples_gt h1 h2 h3 h6 h7; rw [h4, h5] at z; exact z) (fun a b t u => Ob.RcOp.gt_int a b t u) hu
theorem op_geP (hu : X.A.units < cLine) : OpR X (compareOp .GtE) (rOrd X.K (fun i j => decide (j ≤ i)) true) := op_ordV (fun _ _ => rfl) (fun {A s l b is js e r} h1 h2 h3 h4 h5 h6 h7 => by have z := Ob.RcOp.tuples_ge h1 h2 h3 h6 h7; rw [h4, h5] at z; exact z) (fun a b t u => Ob.RcOp.ge_int a b t u) hu
end
/-! ### within a comprehension -/
theorem op_cmpB {X : Cx} {K : PySem.W.Frag} {CX : CXT} {k : Nat} {C : Addr} {m : Str} {ps : List Str} {sp : Sp} {E : XK} {op : CmpOp} (hK : X.K = K) (M : CmpAt X.prog X.w X.K X.mg X.base CX k C m ps sp) (hr : Room k X.A) (hx : Passes CX X E) (hop : (cmpInfo op).2.1 = m := by rfl)
    (hco : ∀ v u, compareOp op v u = richCompare op v u := by intro _ _; rfl) : OpR X (compareOp op) (rCmpO K C sp E) := by
  subst hK
  exact op_cmpO M hr hx hop hco
/-! ### a def that keeps two promises -/
def spOr (s1 s2 : Sp) : Sp := fun vs H Q E => s1 vs H Q E ∨ s2 vs H Q E
section
variable {P : Program} {w : World} {K : PySem.W.Frag} {mg : Str → Option Value} {base : Heap} {CX : CXT} {k : Nat} {f : Addr} {fd : FuncData} {ps : List Str} {s1 s2 : Sp}
theorem ok_or (h1 : FnOk P w K mg base CX k f fd ps s1) (h2 : FnOk P w K mg base CX k f fd ps s2) : FnOk P w K mg base CX k f fd ps (spOr s1 s2) :=
  ⟨fun vs H Q E h => h.elim (h1.len vs H Q E) (h2.len vs H Q E), fun A outer s H args us vs Q E hr e0 hb r h => h.elim (h1.run A outer s H args us vs Q E hr e0 hb r) (h2.run A outer s H args us vs Q E hr e0 hb r)⟩
theorem okG_or (h1 : FnG P w K mg base CX k f fd ps s1) (h2 : FnG P w K mg base CX k f fd ps s2) : FnG P w K mg base CX k f fd ps (spOr s1 s2) :=
  ⟨fun vs H Q E h => h.elim (h1.len vs H Q E) (h2.len vs H Q E), fun A outer s H args us vs Q E hg hr e0 hb r h => h.elim (h1.run A outer s H args us vs Q E hg hr e0 hb r) (h2.run A outer s H args us vs Q E hg hr e0 hb r)⟩
end
end My
/-! Signs in place; an instance called by keywords; what a comprehension may hold. -/
namespace My
open PySem PySem.Spec PySem.Calls PyProof.Rows L2
section
open PySem.W
variable {prog : Program} {w : World} {M : Model} {A : Around} {E : Value → Shared → Prop} {s : Shared} {K : Frag} {x C L f : Addr} {h₀ : Heap} {m : Str → Option Value} {ox : Obj} {od : Option Obj} {nm : String}
/-- beside one of its own class -/
theorem bin1_S {b : Value} {Q : Value → Shared → Prop} (X : K.In s.heap) (I : InstAt s.heap x ox C od) (hb : Looks (model prog w) s.heap (typeOf b) (.ref C)) (hc : selfFirst K C = true) (hs : findIn K (.ref C) (PySem.dunder nm) = some (some (.ref f))) (hf : isFn K (.ref f) = true)
    (h : wpAny (model prog w) A (call (.ref f) [.ref x, b]) (PySem.W.CmpBack Q) E s) : wpAny (model prog w) A (binaryOp1 nm (.ref x) b) (fun r s' => ∃ v, r = some v ∧ Q v s') E s := by
  obtain ⟨cd, rest, hcd, hm⟩ := ksp_first hc
  have one := ksp_try X I hs hf h
  obtain ⟨hh, g, d, tt, os⟩ := s
  have L1 : Looks (model prog w) hh (typeOf (.ref x)) (.ref C) := I.type
  have L2 : Looks (model prog w) hh (typeOf b) (.ref C) := hb
  have L3 : Looks (model prog w) hh (fillsNumberSlot (.ref C) nm) true := fills_K X hcd hm hs
  unfold binaryOp1
  refine wpAny_bind (L1.at (wpAny_bind (L2.at (wpAny_bind (L3.at ?_)))))
  simp only [beq_self_eq_true, if_true]
  ksp_lk
  refine wpAny_mono one (fun r s' hr' => ?_) fun _ _ e => e
  obtain ⟨v, rfl, hq⟩ := hr'
  ksp_lk
  exact ⟨v, rfl, hq⟩
/-- beside a value of a built-in type -/
theorem bin1_T {T : String} {b : Value} {fo ro rc : Option Value} {Q : Value → Shared → Prop} (X : K.In s.heap) (I : InstAt s.heap x ox C od) (hb : typeOf b = pure (.type T)) (hc : selfFirst K C = true)
    (hs : findIn K (.ref C) (PySem.dunder nm) = some (some (.ref f))) (hf : isFn K (.ref f) = true) (hr : findIn K (.ref C) (dunderR nm) = some rc) (hp : rc = none ∨ ∃ g : Addr, rc = some (.ref g))
    (h1 : findIn K (.type T) (PySem.dunder nm) = some fo) (h2 : findIn K (.type T) (dunderR nm) = some ro) (hsub : subIn K (.type T) (.ref C) = some false)
    (h : wpAny (model prog w) A (call (.ref f) [.ref x, b]) (PySem.W.CmpBack Q) E s) : wpAny (model prog w) A (binaryOp1 nm (.ref x) b) (fun r s' => ∃ v, r = some v ∧ Q v s') E s := by
  obtain ⟨cd, rest, hcd, hm⟩ := ksp_first hc
  have one := ksp_try X I hs hf h
  obtain ⟨hh, g, d, tt, os⟩ := s
  have L1 : Looks (model prog w) hh (typeOf (.ref x)) (.ref C) := I.type
  have L2 : Looks (model prog w) hh (typeOf b) (.type T) := Looks.of_pure hb
  have L3 : Looks (model prog w) hh (fillsNumberSlot (.ref C) nm) true := fills_K X hcd hm hs
  have L4 : Looks (model prog w) hh (fillsNumberSlot (.type T) nm) ((fo.isSome && !isSeqSlot fo) || (ro.isSome && !isSeqSlot ro)) := ksp_fillsT X h1 h2
  have L5 : Looks (model prog w) hh (isSubtype (.type T) (.ref C)) false := looks_subIn X hsub
  have L6 : Looks (model prog w) hh (numberSlotInPython (.ref C) nm) true := ksp_inPy X hs hr hp
  have L7 : Looks (model prog w) hh (numberSlotInPython (.type T) nm) false := Looks.of_pure rfl
  have L8 : Looks (model prog w) hh (typeLookup (.type T) (dunderR nm)) ro := looks_findIn X h2
  generalize ((fo.isSome && !isSeqSlot fo) || (ro.isSome && !isSeqSlot ro)) = right at L4
  have hne : (Value.ref C == Value.type T) = false := Bool.eq_false_iff.mpr fun q => by cases beq_iff_eq.mp q
  unfold binaryOp1
  refine wpAny_bind (L1.at (wpAny_bind (L2.at (wpAny_bind (L3.at ?_)))))
  simp only [hne, Bool.false_eq_true, if_false]
  cases right with
  | false =>
    ksp_lk
    refine wpAny_mono one (fun r s' hr' => ?_) fun _ _ e => e
    obtain ⟨v, rfl, hq⟩ := hr'
    ksp_lk
    exact ⟨v, rfl, hq⟩
  | true =>
    ksp_lk
    refine wpAny_mono one (fun r s' hr' => ?_) fun _ _ e => e
    obtain ⟨v, rfl, hq⟩ := hr'
    ksp_lk
    exact ⟨v, rfl, hq⟩
/-- the class has no slot in place -/
theorem noInplace {h : Heap} {cd : ClassData} {add : Bool} (X : K.In h) (hc : clsIn K C = some cd) (hm : cd.mro = [.ref C, .type "object"]) (h1 : findIn K (.ref C) (dunderI nm) = some none) (h2 : findIn K (.type "object") (dunderI nm) = some none) : Looks M h (fillsInplaceSlot (.ref C) nm add) false := by
  intro A Q E s k q
  have Lm : Looks M h (mroOf (.ref C)) cd.mro := (looks_clsIn X hc).andThen (f := fun cd => pure cd.mro) .now
  have Lm' := Lm.keeps k
  obtain ⟨hh, g, d, tt, os⟩ := s
  have X' : K.In hh := X.keeps k
  have L1 : Looks M hh (typeLookup (.ref C) (dunderI nm)) none := looks_findIn X' h1
  have L2 : Looks M hh (typeLookup (.type "object") (dunderI nm)) none := looks_findIn X' h2
  unfold fillsInplaceSlot
  refine wpAny_bind (Lm'.at ?_)
  rw [hm, List.anyM_cons]
  refine wpAny_bind ?_
  repeat lk
  exact q
theorem inpl_K {op : Operator} {b : Value} {Q : Value → Shared → Prop} {cd : ClassData} (X : K.In s.heap) (I : InstAt s.heap x ox C od) (hc : clsIn K C = some cd) (hm : cd.mro = [.ref C, .type "object"]) (h1 : findIn K (.ref C) (dunderI op.info.2) = some none) (h2 : findIn K (.type "object") (dunderI op.info.2) = some none)
    (h : wpAny (model prog w) A (binaryOp1 op.info.2 (.ref x) b) (fun r s' => ∃ v, r = some v ∧ Q v s') E s) : wpAny (model prog w) A (inplaceOp op (.ref x) b) Q E s := by
  have L2 : Looks (model prog w) s.heap (fillsInplaceSlot (.ref C) op.info.2 (op == .Add)) false := noInplace X hc hm h1 h2
  unfold inplaceOp
  refine wpAny_holding ?_
  dsimp only
  refine wpAny_bind (I.type.here (wpAny_bind (L2.here ?_)))
  simp only [Bool.false_eq_true, if_false]
  refine wpAny_bind (wpAny_mono h (fun r s' z => ?_) fun _ _ e => e)
  obtain ⟨v, rfl, hq⟩ := z
  exact wpAny_pure hq
end
/-- the class has no slot in place -/
structure InpF (K : PySem.W.Frag) (C : Addr) (nm : String) : Prop where
  mro : ∃ cd, PySem.W.clsIn K C = some cd ∧ cd.mro = [.ref C, .type "object"]
  no1 : PySem.W.findIn K (.ref C) (dunderI nm) = some none
  no2 : PySem.W.findIn K (.type "object") (dunderI nm) = some none
section
variable {X : Cx} {CX : CXT} {k : Nat} {ps ks : List Str} {sp : Sp} {E : XK} {C : Addr} {m : Str}
theorem iop_O {op : Operator} (M : CmpAt X.prog X.w X.K X.mg X.base CX k C m ps sp) (B : BinF X.K C op.info.2) (N : InpF X.K C op.info.2) (hr : Room k X.A) (hx : Passes CX X E) (hm : PySem.dunder op.info.2 = m := by rfl) : OpR X (inplaceOp op) (rBinO C sp E) := by
  intro pins s σ H x y v u Q I rx ry h
  obtain ⟨f, fd, hs, hf, F, hb⟩ := M.ex
  obtain ⟨a, dx, fs, rfl, ha, oi, hsp⟩ := h
  obtain rfl : v = Value.ref a := rx
  obtain ⟨ox, od, J, _⟩ := ins_plain I ha
  obtain ⟨cd, c1, c2⟩ := N.mro
  subst hm
  have go : wpAny (model X.prog X.w) X.A (call (.ref f) [.ref a, u]) (PySem.W.CmpBack (EP X pins σ Q)) X.xe s := wpAny_mono (run_at (vs := [.ref a, y]) F hb hx (Und.here hr) I (.cons rfl (.cons ry .nil)) hsp) (fun _ _ z => ep_back z) fun _ _ z => z
  refine inpl_K I.kIn J c1 c2 N.no1 N.no2 ?_
  rcases oi with ⟨b, dy, gs, rfl, hb'⟩ | ⟨j, rfl⟩
  · obtain rfl : u = Value.ref b := ry
    obtain ⟨oy, od', J', _⟩ := ins_plain I hb'
    exact bin1_S I.kIn J J'.type B.sf hs hf go
  · obtain ⟨t, rfl⟩ := ry
    obtain ⟨rc, r1, r2⟩ := B.rc
    obtain ⟨fo, i1⟩ := B.i1
    obtain ⟨ro, i2⟩ := B.i2
    exact bin1_T I.kIn J rfl B.sf hs hf r1 r2 i1 i2 B.su go
/-! ### an instance called -/
/-- f(e, ..), told without the context -/
def tCallI (C : Addr) (sp : Sp) (E : XK) (tf : TE) (t : TA) : TE := fun σ H Q => tf σ H fun y H1 => ∃ a, y = V.ref a ∧ t σ H1 fun vs H2 => (∃ dx fs, H2 a = some (.ins C dx fs)) ∧ sp (V.ref a :: vs) H2 Q E
theorem pe_clI {fe e : Expr} {es : List Expr} {tf : TE} {t : TA} {pos : Pos} (M : CallAt X.prog X.w X.K X.mg X.base CX k C ps sp) (hr : Room k X.A) (hx : Passes CX X E) (hf : PE X fe tf) (ha : PA X (e :: es) t)
    (ht : eval (.Call fe (e :: es) [] pos) X.env = (do callWith pos (← eval fe X.env) [] (backTo pos (starEach (e :: es) X.env)) (backToKw pos (keywordEach [] X.env))) := by rfl)
    (hs : starEach (e :: es) X.env = (false, eval e X.env) :: starEach es X.env := by rfl) (hpl : (backTo pos (starEach es X.env)).any (·.1) = false := by rfl) : PE X (.Call fe (e :: es) [] pos) (tCallI C sp E tf t) := by
  obtain ⟨f, fd, c, F, b⟩ := M.ex
  refine ⟨fun pins s σ H Q I h => ?_⟩
  refine Call_ (thn (hf.run pins s σ H _ I h) fun u s1 ⟨y, H1, I1, ry, a, ey, q⟩ => ?_) ht
  subst ey
  obtain rfl : u = Value.ref a := ry
  refine StX.callO_with (thn (ha.run pos pins s1 σ H1 _ I1 q) fun us s2 ⟨vs, H2, I2, r, ⟨dx, fs, hi⟩, q2⟩ => ?_) hs hpl
  obtain ⟨ox, od, J, hd⟩ := StX.insC_at (X := X) I2 (.inr ⟨dx, fs, hi⟩)
  refine ⟨⟨C, ox, od, J, hd⟩, ?_⟩
  have hl : (Value.ref a :: us ++ []).length = ps.length := by
    rw [List.append_nil, List.length_cons, ← r.length]
    exact F.len _ _ _ _ q2
  have bd := b s2 (.ref a :: us) I2.kIn hl
  rw [List.append_nil] at bd
  refine wpAny_call (PySem.W.kco_code I2.kIn J hd c.at_ c.fn c.fi (codeAny_mono (F.run X.A X.stack s2 H2 ⟨.ref a :: us, []⟩ (.ref a :: us) (.ref a :: vs) _ E hr I2.env0 bd (.cons rfl r) q2) fun r s' hq => ?_))
  match r, hq with
  | .error e, hq => exact hx pins σ H2 s2 e s' I2 hq
  | .ok (.ret z), hq => exact I2.after hq
  | .ok .next, hq => exact False.elim hq
  | .ok .brk, hq => exact False.elim hq
  | .ok .cont, hq => exact False.elim hq
structure CallK (P : Program) (w : World) (K : PySem.W.Frag) (mg : Str → Option Value) (base : Heap) (CX : CXT) (k : Nat) (C : Addr) (ps ks : List Str) (sp : Sp) (gV : List V → List V → List V) : Prop where
  ex : ∃ f fd g, StX.CallO K C f ∧ FnOk P w K mg base CX k f fd ps sp ∧ KBn K fd ps 1 ks g gV
def tCallK (C : Addr) (j : Nat) (sp : Sp) (gV : List V → List V → List V) (E : XK) (tf : TE) (tk : TA) : TE := fun σ H Q => tf σ H fun y H1 => ∃ a, y = V.ref a ∧ tk σ H1 fun zs H2 => zs.length = j ∧ (∃ dx fs, H2 a = some (.ins C dx fs)) ∧ sp (gV [.ref a] zs) H2 Q E
/-- the call's node where the callee is an instance, keywords alone -/
theorem callO_kw {M : Model} {A : Around} {Er : Value → Shared → Prop} {s : Shared} {a : Addr} {pos : Pos} {Q : Value → Shared → Prop} {args : List (Bool × Sem Value)} {kw : List (Option Str × Sem Value)} (hplain : (args.any (·.1) || kw.any (·.1.isNone)) = false)
    (h : wpAny M A (evalArgs (.ref a) true args kw) (fun z s₁ => (∃ C ox od, PySem.W.InstAt s₁.heap a ox C od ∧ ox.data = .plain) ∧ wpAny M A (call (.ref a) ([] ++ z.pos) z.kw) Q Er s₁) Er s) : wpAny M A (callWith pos (.ref a) [] args kw) Q Er s := by
  unfold callWith
  refine wpAny_bind (wpAny_holding (wpAny_mono h (fun z s₁ h₁ => wpAny_bind (wpAny_standAt ?_)) fun _ _ y => y))
  obtain ⟨⟨C, ox, od, J, hd⟩, h₁⟩ := h₁
  simp only [hplain]
  refine wpAny_bind ((PySem.W.kco_keeper (M := M) J hd).here ?_)
  refine wpAny_bind (wpAny_mono (wpAny_operateT h₁) (fun r s₂ hr => wpAny_bind (wpAny_holding (wpAny_point (wpAny_pure hr)))) fun _ _ y => y)
theorem pe_clK {fe : Expr} {kws : List Keyword} {tf : TE} {tk : TA} {pos : Pos} {gV : List V → List V → List V} (M : CallK X.prog X.w X.K X.mg X.base CX k C ps ks sp gV) (hr : Room k X.A) (hx : Passes CX X E) (hf : PE X fe tf) (hkw : PK X kws tk)
    (ht : eval (.Call fe [] kws pos) X.env = (do callWith pos (← eval fe X.env) [] (backTo pos (starEach [] X.env)) (backToKw pos (keywordEach kws X.env))) := by rfl)
    (hall : (backToKw pos (keywordEach kws X.env)).all (·.1.isSome) = true := by rfl) (hks : (backToKw pos (keywordEach kws X.env)).filterMap (·.1) = ks := by rfl)
    (hpl : ((backTo pos (starEach [] X.env)).any (·.1) || (backToKw pos (keywordEach kws X.env)).any (·.1.isNone)) = false := by rfl) : PE X (.Call fe [] kws pos) (tCallK C ks.length sp gV E tf tk) := by
  obtain ⟨f, fd, g, c, F, b⟩ := M.ex
  refine ⟨fun pins s σ H Q I h => ?_⟩
  rw [ht]
  refine wpAny_bind (thn (hf.run pins s σ H _ I h) fun u s1 ⟨y, H1, I1, ry, a, ey, q⟩ => ?_)
  subst ey
  obtain rfl : u = Value.ref a := ry
  refine callO_kw hpl (evalArgs_kw2_nil hall (thn (hkw.run pos pins s1 σ H1 _ I1 q) fun ws s2 ⟨zs, H2, I2, rz, l2, ⟨dx, fs, hi⟩, q2⟩ => ?_))
  obtain ⟨ox, od, J, hd⟩ := StX.insC_at (X := X) I2 (.inr ⟨dx, fs, hi⟩)
  refine ⟨⟨C, ox, od, J, hd⟩, ?_⟩
  rw [hks]
  have r2 := b.rel (vs := [V.ref a]) (us := [Value.ref a]) (.cons rfl .nil) rz
  refine wpAny_call (PySem.W.kco_code I2.kIn J hd c.at_ c.fn c.fi (codeAny_mono (F.run X.A X.stack s2 H2 ⟨[.ref a], ks.zip ws⟩ (g [.ref a] ws) (gV [.ref a] zs) _ E hr I2.env0 (b.to s2 [.ref a] ws I2.kIn rfl (rz.length.symm.trans l2)) r2 q2) fun r s' hq => ?_))
  match r, hq with
  | .error e, hq => exact hx pins σ H2 s2 e s' I2 hq
  | .ok (.ret z), hq => exact I2.after hq
  | .ok .next, hq => exact False.elim hq
  | .ok .brk, hq => exact False.elim hq
  | .ok .cont, hq => exact False.elim hq
/-- a class of the module made by keywords alone -/
structure MakeK (P : Program) (w : World) (K : PySem.W.Frag) (mg : Str → Option Value) (base : Heap) (CX : CXT) (k : Nat) (x : Str) (C : Addr) (ps ks : List Str) (sp : Sp) (gV : List V → List V → List V) : Prop where
  ex : ∃ f fd g, Mk K C f ∧ FnOk P w K mg base CX k f fd ps sp ∧ mg x = some (.ref C) ∧ KBn K fd ps 1 ks g gV
theorem pe_mkK {x : Str} {p pos : Pos} {kws : List Keyword} {tk : TA} {gV : List V → List V → List V} (M : MakeK X.prog X.w X.K X.mg X.base CX k x C ps ks sp gV) (hr : Room (k + 1) X.A) (hg : Gl X x) (hx : Passes CX X E) (hkw : PK X kws tk)
    (hall : (backToKw pos (keywordEach kws X.env)).all (·.1.isSome) = true := by rfl) (hks : (backToKw pos (keywordEach kws X.env)).filterMap (·.1) = ks := by rfl) (hdb : (x == ("__debug__" : Str)) = false := by decide)
    (hpl : ((backTo pos (starEach [] X.env)).any (·.1) || (backToKw pos (keywordEach kws X.env)).any (·.1.isNone)) = false := by rfl) : PE X (.Call (.Name x p) [] kws pos) (tMakeK C 0 ks.length sp gV E tNil tk) := by
  obtain ⟨f, fd, g, mk, F, hm, b⟩ := M.ex
  exact pe_makeK0 mk F hr hg hm b hx hkw hall hks hdb hpl
end
end My
/-! For the end: static methods, makers with defaults, calls by keywords. -/
namespace My
open PySem PySem.Spec PyProof.Rows L2
def gApp (vs zs : List V) : List V := vs ++ zs
def gSw (vs zs : List V) : List V := vs ++ zs.reverse
theorem nm_part : Sup.Nm "part" := ⟨by decide, by decide, by decide, by decide, fun _ _ _ _ _ _ _ _ _ _ _ _ => rfl⟩
theorem app_rel {vs : List V} {us : List Value} {zs : List V} {ws : List Value} (h1 : Vals vs us) (h2 : Vals zs ws) : Vals (gApp vs zs) (us ++ ws) := h1.append h2
/-- the class has the static method -/
structure HasS (K : PySem.W.Frag) (C : Addr) (m qual : Str) (st : Stmt) : Prop where
  ex : ∃ f fd, Stat K C m f ∧ Fun K m qual st f fd
section
variable {P : Program} {w : World} {K : PySem.W.Frag} {mg : Str → Option Value} {base : Heap} {CX : CXT} {k : Nat} {m qual : Str} {st : Stmt} {ps ks : List Str} {sp : Sp} {C : Addr}
theorem stat_at (A : HasS K C m qual st) (ok : ∀ f fd, Fun K m qual st f fd → FnOk P w K mg base CX k f fd ps sp) (b : BindW m qual st ps) : StatAt P w K mg base CX k C m ps sp := by
  obtain ⟨f, fd, h1, F⟩ := A.ex
  exact ⟨f, fd, h1, ok f fd F, F.binds b⟩
theorem statK_at {gV : List V → List V → List V} {g : List Value → List Value → List Value} (A : HasS K C m qual st) (ok : ∀ f fd, Fun K m qual st f fd → FnOk P w K mg base CX k f fd ps sp)
    (b : ∀ (kV doc pm : Value) (an : Option Addr) (cdv ct : Value) (us ws : List Value), us.length = 0 → ws.length = ks.length → bindArgs (PySem.W.fnOf m qual (defArgs st) (defBody st) (defScope st) .none kV doc pm an cdv ct) ⟨us, ks.zip ws⟩ = pure (ps.zip (g us ws)))
    (r : ∀ {vs : List V} {us : List Value} {zs : List V} {ws : List Value}, Vals vs us → Vals zs ws → Vals (gV vs zs) (g us ws)) : StatK P w K mg base CX k C m ps ks sp gV := by
  obtain ⟨f, fd, h1, F⟩ := A.ex
  obtain ⟨oc, od, kV, doc, pm, an, cdv, ct, osl, rfl, _⟩ := id F.ex
  exact ⟨f, _, g, h1, ok f _ F, ⟨fun s us ws _ l1 l2 => .of_eq (b kV doc pm an cdv ct us ws l1 l2), r⟩⟩
end
theorem sw_rel {vs : List V} {us : List Value} {zs : List V} {ws : List Value} (h1 : Vals vs us) (h2 : Vals zs ws) : Vals (gSw vs zs) (us ++ ws.reverse) := h1.append h2.reverse
theorem kinds7 {K : PySem.W.Frag} {C : Addr} (a0 : PySem.W.kitOne K (.type "int") (.ref C) = some false) (b0 : PySem.W.notFirst K C (.type "int") = true) (a1 : PySem.W.kitOne K (.type "tuple") (.ref C) = some false) (b1 : PySem.W.notFirst K C (.type "tuple") = true) (a2 : PySem.W.kitOne K (.type "NoneType") (.ref C) = some false) (b2 : PySem.W.notFirst K C (.type "NoneType") = true) (a3 : PySem.W.kitOne K (.type "str") (.ref C) = some false) (b3 : PySem.W.notFirst K C (.type "str") = true) (a4 : PySem.W.kitOne K (.type "list") (.ref C) = some false) (b4 : PySem.W.notFirst K C (.type "list") = true) (a5 : PySem.W.kitOne K (.type "bool") (.ref C) = some false) (b5 : PySem.W.notFirst K C (.type "bool") = true) (a6 : PySem.W.kitOne K (.type "dict") (.ref C) = some false) (b6 : PySem.W.notFirst K C (.type "dict") = true) : ∀ t ∈ ["int", "tuple", "NoneType", "str", "list", "bool", "dict"], PySem.W.kitOne K (.type t) (.ref C) = some false ∧ PySem.W.notFirst K C (.type t) = true := fun t ht => by
  simp only [List.mem_cons, List.mem_nil_iff, or_false] at ht
  rcases ht with rfl | rfl | rfl | rfl | rfl | rfl | rfl
  · exact ⟨a0, b0⟩
  · exact ⟨a1, b1⟩
  · exact ⟨a2, b2⟩
  · exact ⟨a3, b3⟩
  · exact ⟨a4, b4⟩
  · exact ⟨a5, b5⟩
  · exact ⟨a6, b6⟩
section
variable {P : Program} {w : World} {K : PySem.W.Frag} {mg : Str → Option Value} {base : Heap} {CX : CXT} {k : Nat} {x qual : Str} {st : Stmt} {ps ks : List Str} {sp : Sp} {C : Addr} {dvs : List V}
/-- the class is made with its defaults left out -/
theorem make_dfl {n : Nat} (A : HasD K C "__init__" qual st dvs []) (hx : mg x = some (.ref C)) (mk : PySem.W.makesIn K C = true) (kp : PySem.W.keepIn K (.ref C) = true) (ok : ∀ f fd, FunD K "__init__" qual (defArgs st) (defBody st) (defScope st) dvs [] f fd → FnOk P w K mg base CX k f fd ps sp) (hd : dvs ≠ []) (hn : n + (dvs.length - 0) = ps.length)
    (b : ∀ (T : Addr) (kV doc pm : Value) (an : Option Addr) (cdv ct : Value) (us its : List Value), us.length = n → its.length = dvs.length →
      ∃ k, bindArgs (PySem.W.fnOf "__init__" qual (defArgs st) (defBody st) (defScope st) (.ref T) kV doc pm an cdv ct) ⟨us, []⟩ = seqItems? (.ref T) >>= k ∧ k (some its.toArray) = pure (ps.zip (us ++ its.drop 0))) : MakeAt P w K mg base CX k x C ps sp dvs := by
  obtain ⟨f, fd, h1, h2, F⟩ := A.ex
  obtain ⟨ds, r, bs⟩ := F.binds1 n 0 hd hn b
  rw [List.drop_zero] at r
  exact ⟨f, fd, ds, ⟨mk, h1, h2, kp⟩, ok f fd F, hx, bs, r⟩
theorem make_sw (A : HasD K C "__init__" qual st dvs []) (hx : mg x = some (.ref C)) (mk : PySem.W.makesIn K C = true) (kp : PySem.W.keepIn K (.ref C) = true) (ok : ∀ f fd, FunD K "__init__" qual (defArgs st) (defBody st) (defScope st) dvs [] f fd → FnOk P w K mg base CX k f fd ps sp) (hd : dvs ≠ [])
    (b : ∀ (T : Addr) (kV doc pm : Value) (an : Option Addr) (cdv ct : Value) (us its ws : List Value), us.length = 1 → its.length = dvs.length → ws.length = ks.length →
      ∃ k, bindArgs (PySem.W.fnOf "__init__" qual (defArgs st) (defBody st) (defScope st) (.ref T) kV doc pm an cdv ct) ⟨us, ks.zip ws⟩ = seqItems? (.ref T) >>= k ∧ k (some its.toArray) = pure (ps.zip (us ++ ws.reverse))) : MakeK P w K mg base CX k x C ps ks sp gSw := by
  obtain ⟨f, fd, h1, h2, F⟩ := A.ex
  obtain ⟨its, kb⟩ := F.kbindsD (ps := ps) 1 ks (fun us _ ws => us ++ ws.reverse) hd (fun h1 _ h3 => h1.append h3.reverse) b
  exact ⟨f, fd, _, ⟨mk, h1, h2, kp⟩, ok f fd F, hx, kb⟩
theorem callK_at {g : List Value → List Value → List Value} (A : HasM K C "__call__" qual st) (ok : ∀ f fd, Fun K "__call__" qual st f fd → FnOk P w K mg base CX k f fd ps sp)
    (b : ∀ (kV doc pm : Value) (an : Option Addr) (cdv ct : Value) (us ws : List Value), us.length = 1 → ws.length = ks.length → bindArgs (PySem.W.fnOf "__call__" qual (defArgs st) (defBody st) (defScope st) .none kV doc pm an cdv ct) ⟨us, ks.zip ws⟩ = pure (ps.zip (us ++ ws))) : CallK P w K mg base CX k C ps ks sp gApp := by
  obtain ⟨f, fd, h1, h2, F⟩ := A.ex
  obtain ⟨oc, od, kV, doc, pm, an, cdv, ct, osl, rfl, lk, _⟩ := id F.ex
  refine ⟨f, _, _, ⟨h1, h2, ?_⟩, ok f _ F, ⟨fun s us ws _ l1 l2 => .of_eq (b kV doc pm an cdv ct us ws l1 l2), app_rel⟩⟩
  unfold PySem.W.fnIn
  rw [lk]
end
end My
/-! int == an instance; bool(x), abs(x) of an instance; // and % of an int by an instance. -/
namespace My
open PySem PySem.Spec PySem.Calls PyProof.Rows L2
theorem is_fdv {K : PySem.W.Frag} : IntSlot K (Operator.info .FloorDiv).2 "int.__floordiv__" Builtin.«int.__floordiv__» := ⟨PySem.F.slot_int_floordiv, PySem.F.entry_int_floordiv, PySem.F.args_int_floordiv_2, dec_floordiv⟩
theorem is_mod {K : PySem.W.Frag} : IntSlot K (Operator.info .Mod).2 "int.__mod__" Builtin.«int.__mod__» := ⟨PySem.F.slot_int_mod, PySem.F.entry_int_mod, PySem.F.args_int_mod_2, dec_mod⟩
section
open PySem.W
variable {prog : Program} {w : World} {A : Around} {E : Value → Shared → Prop} {s : Shared} {K : Frag} {x C L f : Addr} {h₀ : Heap} {m : Str → Option Value} {ox : Obj} {od : Option Obj}
theorem bool_call {Q : Value → Shared → Prop} (F : Fr h₀ L s.heap m) (X₀ : K.In h₀) (I : InstAt s.heap x ox C od) (hs : findIn K (.ref C) "__bool__" = some (some (.ref f))) (hf : isFn K (.ref f) = true)
    (h : wpAny (model prog w) A.in1.in1 (call (.ref f) [.ref x]) (PySem.W.BoolBack fun b s' => Q (.bool b) s') E s) : wpAny (model prog w) A (call (.type "bool") [.ref x]) Q E s := by
  refine callType_codes (T := "bool") (Bi := Builtin.«object.__init__») (Q₁ := fun r s' => ∃ b, r = .bool b ∧ Q r s') PySem.F.called_bool (PySem.F.typeCall_bool_1 _) PySem.F.entry_object_init ?_ ?_
  · refine codeAny_of_tree ?_
    show wpAny _ A.in1.in1 (do checkBuiltinCall "bool.__new__" ⟨[.type "bool", .ref x], []⟩; again (.builtin "bool.__new__" ⟨[.type "bool", .ref x], []⟩)) _ _ s
    refine wpAny_bind (wpAny_of_eq (PySem.F.newCall_bool_1 _) (wpAny_pure ⟨plainId_quiet (by decide +kernel) _, codeAny_builtin PySem.F.entry_bool_new ?_⟩))
    rw [Around.under_plainId (by decide +kernel) _]
    unfold Builtin.«bool.__new__»
    have f1 := PySem.F.conv_sub_bool
    have go : wpAny (model prog w) A.in1.in1 (truthy (.ref x)) (fun b s' => Q (.bool b) s') E s := truthy_K F X₀ I hs hf h
    refine wpAny_bind (m := isType (.type "bool")) (wpAny_pure ?_)
    refine wpAny_bind (m := isSubtype (.type "bool") (.type "bool")) (wpAny_of_eq f1 ?_)
    refine wpAny_bind (wpAny_pure ?_)
    refine wpAny_bind (m := truthy (.ref x)) (wpAny_mono go (fun b s' hq => ?_) fun _ _ y => y)
    exact wpAny_pure ⟨b, rfl, hq⟩
  · rintro obj s' ⟨b, rfl, hq⟩
    exact ⟨PySem.typeIs_bool _ _, PySem.F.args_object_init_2 _ _, object_init_meets PySem.F.called_bool.init.lookup PySem.F.called_bool.made (by decide) prog w A.in1 _ s' ⟨PySem.typeIs_bool _ _, rfl, hq⟩⟩
theorem abs_call {Q : Value → Shared → Prop} (X : K.In s.heap) (I : InstAt s.heap x ox C od) (hs : findIn K (.ref C) "__abs__" = some (some (.ref f))) (hf : isFn K (.ref f) = true)
    (h : wpAny (model prog w) A.in1 (call (.ref f) [.ref x]) Q E s) : wpAny (model prog w) A (call (.builtin "abs") [.ref x]) Q E s := by
  refine call_function_entry kind_abs plain_abs entry_abs (args_abs _) ?_
  unfold Builtin.«abs»
  refine wpAny_bind (m := oneArg "abs" _) (wpAny_pure ?_)
  refine wpAny_bind (m := callSpecial? (.ref x) (Str.ofString "__abs__")) (special_fn X I hs (beq_iff_eq.mp hf) (wpAny_mono h (fun r s' hr => ?_) fun _ _ y => y))
  exact wpAny_pure ⟨_, rfl, hr⟩
end
section
variable {X : Cx} {CX : CXT} {k : Nat} {C : Addr} {ps : List Str} {sp : Sp} {E : XK}
theorem op_eqR (M : CmpAt X.prog X.w X.K X.mg X.base CX k C "__eq__" ps sp) (su : PySem.W.subIn X.K (.ref C) (.type "int") = some false) (hr : Room k X.A) (hx : Passes CX X E) : OpR X (compareOp .Eq) (rCmpR C sp E) := op_cmpRv M su hr hx rfl (fun _ _ => rfl) (fun _ _ _ => rfl) PySem.F.slot_int_eq PySem.F.entry_int_eq PySem.F.args_int_eq_2 dec_eq
/-- bool(x) of an instance with its own __bool__ -/
def rBoolO (C : Addr) (sp : Sp) (E : XK) : List V → Hp → VK → Prop := fun xs H Q => ∃ a dx fs, xs = [.ref a] ∧ H a = some (.ins C dx fs) ∧ sp [.ref a] H (fun v H' => ∃ b, v = .bl b ∧ Q v H') E
theorem call_boolO (M : CmpAt X.prog X.w X.K X.mg X.base CX k C "__bool__" ps sp) (hr : Room (k + 2) X.A) (hx : Passes CX X E) : CallR X (.type "bool") (rBoolO C sp E) := by
  intro pins s σ H xs us Q I r h
  obtain ⟨f, fd, hs, hf, F, hb⟩ := M.ex
  obtain ⟨a, dx, fs, rfl, ha, hsp⟩ := h
  obtain ⟨u, rfl, r1⟩ := vals1 r
  obtain rfl : u = Value.ref a := r1
  obtain ⟨ox, od, J, _⟩ := ins_plain I ha
  obtain ⟨m', hF⟩ := I.fr
  have U : Und X k X.A.in1.in1 := (Und.here hr).in1.in1
  refine bool_call hF I.ok.mod.kin J hs hf (wpAny_mono (run_at (vs := [.ref a]) F hb hx U I (.cons rfl .nil) hsp) (fun v s' z => ?_) fun _ _ z => z)
  obtain ⟨z, H', I', rz, b, rfl, q⟩ := z
  cases (show v = Value.bool b from rz)
  exact ⟨.bl b, H', I', rfl, q⟩
/-- abs(x) of an instance with its own __abs__ -/
def rAbsO (C : Addr) (sp : Sp) (E : XK) : List V → Hp → VK → Prop := fun xs H Q => ∃ a dx fs, xs = [.ref a] ∧ H a = some (.ins C dx fs) ∧ sp [.ref a] H Q E
theorem call_absO (M : CmpAt X.prog X.w X.K X.mg X.base CX k C "__abs__" ps sp) (hr : Room (k + 1) X.A) (hx : Passes CX X E) : CallR X (.builtin "abs") (rAbsO C sp E) := by
  intro pins s σ H xs us Q I r h
  obtain ⟨f, fd, hs, hf, F, hb⟩ := M.ex
  obtain ⟨a, dx, fs, rfl, ha, hsp⟩ := h
  obtain ⟨u, rfl, r1⟩ := vals1 r
  obtain rfl : u = Value.ref a := r1
  obtain ⟨ox, od, J, _⟩ := ins_plain I ha
  have U : Und X k X.A.in1 := (Und.here hr).in1
  exact abs_call I.kIn J hs hf (run_at (vs := [.ref a]) F hb hx U I (.cons rfl .nil) hsp)
end
end My
/-! enumerate of a tuple; a class made by a star; a tuple turned about. -/
namespace My
open PySem PySem.Spec PySem.Calls PyProof.Rows L2
/-! ### enumerate(tuple) -/
theorem enum1_meets {v : Value} {o : Obj} {H : Heap → Prop} (B : Begins v o H) :
    Meets (Builtin.«enumerate.__new__» ⟨[.type "enumerate", v], []⟩) (fun _ R s => H s.heap ∧
      R (.ok (.ret (.ref (s.heap.push o).objs.size))) { s with heap := (s.heap.push o).push { cls := .type "enumerate", data := .fields #[.none, .bool false, .ref s.heap.objs.size, rawInt 0, .none, .none] } }) :=
  .of_wp fun prog w A R s h => by
    obtain ⟨hp, g, d, tk, os⟩ := s
    obtain ⟨h1, h⟩ := h
    have hsub := sub_enumerate
    have q1 : ∀ {A' : Around} {E : Value → Shared → Prop} {Q : Value → Shared → Prop}, Q (.ref hp.objs.size) ⟨hp.push o, g, d, tk, os⟩ → wpAny (model prog w) A' (pyIter v) Q E ⟨hp, g, d, tk, os⟩ :=
      fun q => B.iter prog w _ _ ⟨hp, g, d, tk, os⟩ _ h1 q
    wp_walk using q1
    refine wpAny_stack_any fun st => wpAny_pure ?_
    split
    · rename_i c _ _ _ _ _
      cases (c == Value.type "enumerate")
      · wp_walk using q1
        exact ⟨_, rfl, h⟩
      · wp_walk using q1
        exact ⟨_, rfl, h⟩
    · wp_walk using q1
      exact ⟨_, rfl, h⟩
section
variable {prog : Program} {w : World} {A : Around} {E : Value → Shared → Prop} {s : Shared}
theorem enum1_begins {v : Value} {o : Obj} {H : Heap → Prop} {Q : Value → Shared → Prop} (B : Begins v o H) (h1 : H s.heap)
    (h : ∀ h', IsEnum h' (s.heap.objs.size + 1) s.heap.objs.size 0 .none → h'.get? s.heap.objs.size = some o → h'.objs.size = s.heap.objs.size + 2 →
      (∀ b o, s.heap.get? b = some o → h'.get? b = some o) → Q (.ref (s.heap.objs.size + 1)) { s with heap := h' }) :
    wpAny (model prog w) A (call (.type "enumerate") [v]) Q E s := by
  refine callType_new F.called_enumerate (by decide) (F.typeCall_enumerate_1 _) (F.newCall_enumerate_1 _) (fun obj => F.args_object_init_2 obj _) F.entry_enumerate_new (enum1_meets B) ⟨h1, ?_⟩
  have hz : (s.heap.push o).objs.size = s.heap.objs.size + 1 := Heap.size_push ..
  show _ ∧ _
  rw [hz]
  have he : IsEnum ((s.heap.push o).push { cls := .type "enumerate", data := .fields #[.none, .bool false, .ref s.heap.objs.size, rawInt 0, .none, .none] }) (s.heap.objs.size + 1) s.heap.objs.size 0 .none := by
    have z := Heap.get?_push_size (s.heap.push o) (o := { cls := .type "enumerate", data := .fields #[.none, .bool false, .ref s.heap.objs.size, rawInt 0, .none, .none] }) rfl
    rw [hz] at z
    exact z
  exact ⟨⟨_, he, rfl⟩, h _ he (Heap.get?_push_of_some _ (Heap.get?_push_size _ B.free)) (by rw [Heap.size_push, hz]) fun b o x => Heap.get?_push_of_some _ (Heap.get?_push_of_some _ x)⟩
end
/-- the tuple at a, each item in a new pair -/
def IteT (K : PySem.W.Frag) (a : Addr) : It :=
  ⟨fun i H => ∃ (xs : List V) (x : V), SqT K H a xs ∧ xs[i]? = some x, fun i H v H' => ∃ T x, v = .ref T ∧ H T = none ∧ H' = upd H T (.tup [.int (i : Nat), x]) ∧ ∀ xs, SqT K H a xs → xs[i]? = some x, fun i H => ∃ xs : List V, SqT K H a xs ∧ xs.length = i⟩
theorem turn_enumT {P : Program} {w : World} {K : PySem.W.Frag} {elts : List Expr} {kk : Nat} {tpos : Pos} (a e it : Addr) :
    Turn P w K (.Tuple elts kk tpos) (IteT K a) [e, it] e (fun i h => (∃ old, IsEnum h e it ((i : Nat) : Int) old) ∧ h.IsTupleIter it a i ∧ e ≠ it) where
  mem := by simp
  obj := fun i h st b hb => by
    obtain ⟨⟨old, he⟩, ⟨o, ho, hc, hd⟩, _⟩ := st
    rcases (show b = e ∨ b = it by simpa using hb) with rfl | rfl
    · exact ⟨_, he, fun v q => nomatch q⟩
    · exact ⟨o, ho, fun v q => by rw [hd] at q; cases q⟩
  keep := fun i h h' st k => let ⟨⟨old, he⟩, hi, hne⟩ := st; ⟨⟨old, k e (by simp) _ he⟩, hi.at fun o q => k it (by simp) o q, hne⟩
  item := by
    intro X hP hw hK hc i pins s σ H E I hf st hg
    subst hP hw hK
    obtain ⟨⟨old, he⟩, hit, hne⟩ := st
    obtain ⟨xs, x, hq, hx⟩ := hg
    obtain ⟨its, rv, p, hz⟩ := I.tuple hq
    obtain ⟨u, hu, ru⟩ := rv.get hx
    have hel : e < s.heap.objs.size := Heap.lt_size he
    have hil : it < s.heap.objs.size := by obtain ⟨_, q, _⟩ := hit; exact Heap.lt_size q
    have hat : a ≠ it := fun z => by
      obtain ⟨o1, e1, c1, _⟩ := p
      obtain ⟨o2, e2, c2, _⟩ := hit
      rw [z, e2] at e1
      cases e1
      rw [c2] at c1
      exact absurd c1 (by decide)
    have hae : a ≠ e := fun z => by
      obtain ⟨o1, e1, c1, _⟩ := p
      rw [z, show s.heap.get? e = _ from he] at e1
      cases e1
      exact absurd (show Value.type "enumerate" = Value.type "tuple" from c1) (by decide)
    have D := Draws.tuple (prog := X.prog) (w := X.w) (A := X.A.in1) (I.ok.hd hc) it a hat its.toArray
    have hlt : i < its.toArray.size := by
      have := (List.getElem?_eq_some_iff.mp hu).1
      simpa using this
    refine wpAny_pyNext_enum_itemC (n := its.toArray.size) D he ⟨hit, p⟩ hlt hne (by simp; exact ⟨hne, Ne.symm hae⟩) fun x' h' tk hPx ho hst' hT hsz hk => ?_
    have ex : x' = u := by
      have h1 : its.toArray[i]? = some x' := hPx
      rw [List.getElem?_toArray, hu] at h1
      exact (Option.some.inj h1).symm
    subst ex
    refine ⟨_, rfl, wpAny_letOwnedTupleGo_enum (s := { s with heap := h', toks := tk + 1 }) ho fun h'' he' sb => ?_⟩
    have hT2 : h''.get? s.heap.objs.size = some { cls := .type "tuple", data := .seq #[.int i tk, x'] } := (sb.2 _ (Nat.ne_of_gt hel)).trans hT
    have new : ObjOk X.prog X.w (upd H s.heap.objs.size (.tup [.int (i : Nat), x])) h'' s.heap.objs.size (.tup [.int (i : Nat), x]) :=
      ⟨by show 2 ≤ sizeLine; decide, [.int i tk, x'], .cons ⟨_, rfl⟩ (.cons ru .nil), ⟨_, hT2, rfl, _, rfl⟩⟩
    have I1 : Inv X pins σ (upd H s.heap.objs.size (.tup [.int (i : Nat), x])) { s with heap := h'', toks := tk + 1 } :=
      I.turnedNew (ch := [e, it]) (fun b ob hb q => (sb.2 b (fun z => hb (by simp [z]))).trans (hk b ob (fun z => hb (by simp [z])) (fun z => hb (by simp [z])) q)) hf (Nat.le_refl _) new
    refine ⟨.ref s.heap.objs.size, _, I1, rfl, ⟨_, x, rfl, I.hok.fresh (Nat.le_refl _), rfl, fun ys hy => by rw [I.tuple_inj hy hq]; exact hx⟩, ⟨⟨x', ?_⟩, hst'.1.at fun o q => (sb.2 it (Ne.symm hne)).trans q, hne⟩, fun b hb => ?_⟩
    · have e1 : ((i + 1 : Nat) : Int) = (i : Int) + 1 := by omega
      rw [e1]
      exact he'
    · have hb' : b < s.heap.objs.size := by
        rcases (show b = e ∨ b = it by simpa using hb) with rfl | rfl
        · exact hel
        · exact hil
      rw [upd_ne (Nat.ne_of_lt hb')]
      exact (hf b hb).1
  done := by
    intro X hP hw hK hc i pins s σ H E I hf st hg
    subst hP hw hK
    obtain ⟨⟨old, he⟩, hit, hne⟩ := st
    obtain ⟨xs, hq, hx⟩ := hg
    obtain ⟨its, rv, p, hz⟩ := I.tuple hq
    obtain ⟨f0, f1, f2, f3, f4, f5⟩ := hf it (by simp)
    have hl := rv.length
    have hat : a ≠ it := fun z => by
      obtain ⟨o1, e1, c1, _⟩ := p
      obtain ⟨o2, e2, c2, _⟩ := hit
      rw [z, e2] at e1
      cases e1
      rw [c2] at c1
      exact absurd c1 (by decide)
    have D := Draws.tuple (prog := X.prog) (w := X.w) (A := X.A.in1) (I.ok.hd hc) it a hat its.toArray
    have ei : i = its.toArray.size := by
      rw [List.size_toArray]
      omega
    subst ei
    exact wpAny_pyNext_enum_endD D he ⟨hit, p⟩ fun h' eb => ⟨rfl, I.turned (t' := s.toks) (fun b o hb q => eb b o hb q) f0 f1 f3 f4 f5⟩
  self := fun A i s Q E st h => let ⟨⟨_, he⟩, _⟩ := st; wpAny_pyIter_enum he h
def iEnumT (K : PySem.W.Frag) (ta : TA) : TI := fun σ H R => ta σ H fun vs H1 => ∃ a xs, vs = [.ref a] ∧ SqT K H1 a xs ∧ R (IteT K a) H1
theorem pi_enumT {X : Cx} {e : Expr} {ta : TA} {p pos tpos : Pos} {elts : List Expr} {kk : Nat} (hg : Gl X "enumerate") (hm : X.mg "enumerate" = none) (ha : PA X [e] ta) (hs : starEach [e] X.env = [(false, eval e X.env)] := by rfl) :
    PI X (.Tuple elts kk tpos) (.Call (.Name "enumerate" p) [e] [] pos) (iEnumT X.K ta) := by
  refine ⟨fun pins s σ H R I h => ?_⟩
  refine Call_ (ld_blt I hg hm boot_enumerate (PyProof.Rows.callWith_type1 (thn (ha.run pos pins s σ H _ I h) fun us s1 ⟨vs, H1, I1, r1, q1⟩ => ?_) hs rfl))
  obtain ⟨a, xs, ex, hq, q⟩ := q1
  subst ex
  cases r1 with
  | cons r rr =>
    cases rr
    cases r
    obtain ⟨its, rv, p', hz⟩ := I1.tuple hq
    refine enum1_begins (begins_tuple a its.toArray) p' fun h' he hit hsz hk => wpAny_pyIter_enum he ?_
    have I2 : Inv X pins σ H1 { s1 with heap := h' } := I1.kept (t' := s1.toks) hk
    refine ⟨s1.heap.objs.size + 1, [s1.heap.objs.size + 1, s1.heap.objs.size], _, _, H1, rfl, I2, turn_enumT a (s1.heap.objs.size + 1) s1.heap.objs.size, ⟨⟨.none, he⟩, ⟨_, hit, rfl, rfl⟩, Nat.succ_ne_self _⟩, fun b hb => ?_, q⟩
    have hle : s1.heap.objs.size ≤ b := by
      rcases (show b = s1.heap.objs.size + 1 ∨ b = s1.heap.objs.size by simpa using hb) with rfl | rfl
      · exact Nat.le_add_right _ _
      · exact Nat.le_refl _
    exact I1.fpOk hle (I1.hok.fresh hle)
/-! ### t[::-1] of a tuple -/
section
variable {prog : Program} {w : World} {A : Around} {E : Value → Shared → Prop} {s : Shared}
theorem places_rev (n : Nat) : Builtin.Slice.slicePlaces ((n : Int) - 1) (-1) (-1) = n := by
  unfold Builtin.Slice.slicePlaces
  rw [if_neg (by decide)]
  split
  · have e : ((n : Int) - 1 - -1 - 1) / (- -1) + 1 = n := by
      rw [show (- -1 : Int) = 1 by decide, Int.ediv_one]
      omega
    rw [e]
    omega
  · omega
theorem pick_rev (xs : Array Value) : ((List.range xs.size).filterMap fun (k : Nat) => xs[((xs.size : Int) - 1 + (k : Int) * (-1)).toNat]?).toArray = xs.toList.reverse.toArray := by
  have h := PySem.W.krv_pick xs
  rw [← h]
  unfold slicePick
  rw [PySem.W.krv_bounds]
  show _ = ((sliceRange ((xs.size : Int) - 1) (-1) (-1)).filterMap (xs[·]?)).toArray
  rw [PySem.W.krv_sliceRange, List.filterMap_map]
  congr 1
  have go : ∀ l : List Nat, (∀ k ∈ l, k < xs.size) → l.filterMap (fun (k : Nat) => xs[((xs.size : Int) - 1 + (k : Int) * (-1)).toNat]?) = l.filterMap ((fun x => xs[x]?) ∘ fun k => xs.size - 1 - k) := by
    intro l
    induction l with
    | nil => intro _; rfl
    | cons k l ih =>
      intro h
      have hk := h k List.mem_cons_self
      have e : ((xs.size : Int) - 1 + (k : Int) * (-1)).toNat = xs.size - 1 - k := by omega
      rw [List.filterMap_cons, List.filterMap_cons, e, ih fun x hx => h x (List.mem_cons_of_mem _ hx)]
      rfl
  exact go _ fun k hk => List.mem_range.mp hk
theorem getItem_rev {t sl : Addr} {items : Array Value} {vl vu vs : Value} {Q : Value → Shared → Prop} (ht : IsTup s.heap t items) (hs : s.heap.IsSliceOf sl vl vu vs) (pl : IsPart vl none) (pu : IsPart vu none) (ps : IsPart vs (some (-1)))
    (h : Q (.ref s.heap.objs.size) { s with heap := s.heap.push { cls := .type "tuple", data := .seq items.toList.reverse.toArray } }) (hsz : items.size ≤ sizeLine) : wpAny (model prog w) A (getItem (.ref t) (.ref sl)) Q E s := by
  have hok : sizeOk (.seq items.toList.reverse.toArray) := by
    show items.toList.reverse.toArray.size ≤ sizeLine
    rw [List.size_toArray, List.length_reverse, Array.length_toList]
    exact hsz
  obtain ⟨os, hos, hcs, hds⟩ := id hs
  have hTs : s.TypeIs (.ref sl) "slice" := ⟨os, hos, hcs⟩
  unfold getItem
  try with_reducible refine wpAny_holding ?_
  first | refine wpAny_bind (wpAny_pure ?_) | skip
  refine wpAny_bind (wpAny_sequenceKey ht.typeIs (by decide) ?_)
  refine wpAny_bind (wpAny_callSpecial?_slot (name := Str.ofString "__getitem__") ht.typeIs PyProof.Rows.slot_tuple_getitem
    (wpAny_call_entry PyProof.Rows.slot_tuple_getitem ht.typeIs entry_tuple_getitem ?_ (args_tuple_getitem _ _)))
  show wpAny _ _ (Builtin.Tuple.tupleItemsOf (.ref t) >>= _) _ _ s
  refine wpAny_bind (tupleItemsOf_ ht ?_)
  refine wpAny_bind (wpAny_typeOf hTs ?_)
  rw [if_pos (by decide)]
  have app : ∀ {Q : Int × Int × Nat → Shared → Prop}, Q ((items.size : Int) - 1, -1, items.size) s → wpAny (model prog w) A.in1 (Builtin.Slice.sliceApplied (.ref sl) (pure (items.size : Int))) Q E s := fun {Q} q => by
    unfold Builtin.Slice.sliceApplied Builtin.Slice.sliceFields
    refine wpAny_bind (wpAny_bind (wpAny_field hos hds (x := vl) rfl (wpAny_bind (wpAny_field hos hds (x := vu) rfl (wpAny_bind (wpAny_field hos hds (x := vs) rfl (wpAny_pure ?_)))))))
    refine wpAny_bind (HT.slicePart_ ps ?_)
    show wpAny _ _ (if ((-1 : Int) == 0) = true then _ else _) _ _ s
    rw [if_neg (by decide)]
    refine wpAny_bind (HT.slicePart_ pl (wpAny_bind (HT.slicePart_ pu (wpAny_bind (wpAny_pure ?_)))))
    have e : Builtin.Slice.slicePlaces ((items.size : Int) - 1) (-1) (-1) = items.size := places_rev _
    show wpAny _ _ (pure (((items.size : Int) - 1), (-1 : Int), Builtin.Slice.slicePlaces ((items.size : Int) - 1) (-1) (-1))) _ _ s
    rw [e]
    exact wpAny_pure q
  refine wpAny_bind (app ?_)
  have hno : ¬ ((((items.size : Int) - 1) == 0 && (-1 : Int) == 1 && items.size == items.size) = true) := by
    intro q
    rw [Bool.and_eq_true, Bool.and_eq_true] at q
    exact absurd q.1.2 (by decide)
  show wpAny _ _ (if (((items.size : Int) - 1) == 0 && (-1 : Int) == 1 && items.size == items.size) = true then _ else _) _ _ s
  rw [if_neg hno, pick_rev]
  first
    | exact wpAny_bind (m := Builtin.Tuple.tupleExact _) (wpAny_newObj_type (wpAny_pure ⟨_, rfl, wpAny_pure h⟩) hok)
    | exact wpAny_bind (m := Builtin.Tuple.tupleExact _) (wpAny_newObj_type (wpAny_bind (wpAny_pure (wpAny_pure ⟨_, rfl, wpAny_pure h⟩))) hok)
    | exact wpAny_bind (wpAny_bind (m := Builtin.Tuple.tupleExact _) (wpAny_newObj_type (wpAny_pure (wpAny_pure ⟨_, rfl, wpAny_pure h⟩)) hok))
    | exact wpAny_bind (wpAny_bind (m := Builtin.Tuple.tupleExact _) (wpAny_newObj_type (wpAny_pure ⟨_, rfl, wpAny_pure h⟩) hok))
end
end My
/-! A class made by a star, classmethods, x[k] by an own __getitem__, bool of a tuple, a tuple turned about, enumerate in a for. -/
namespace My
open PySem PySem.Spec PySem.Calls PyProof.Rows L2
/-! ### t[::-1] -/
def tRevT (K : PySem.W.Frag) (te : TE) : TE := fun σ H Q => te σ H fun x H1 => ∃ a xs, x = .ref a ∧ SqT K H1 a xs ∧ ∀ p, H1 p = none → Q (.ref p) (upd H1 p (.tup xs.reverse))
theorem pe_revT {X : Cx} {e : Expr} {te : TE} {k : Nat} {p1 p2 p3 pos : Pos} (he : PE X e te) : PE X (.Subscript e (.Slice none none (some (.UnaryOp .USub (.Constant (.int 1) k p1) p2)) p3) pos) (tRevT X.K te) := by
  refine ⟨fun pins s σ H Q I h => ?_⟩
  refine Subscript_ (thn (he.run pins s σ H _ I h) fun v t1 ⟨x, H1, I1, r1, a, xs, ex, hx, q⟩ => ?_)
  subst ex
  cases r1
  have step : PO X (some (.UnaryOp .USub (.Constant (.int 1) k p1) p2)) (tPart (tUn (rU fun i => .int (-i)) (tC (.int 1)))) := po_some (pe_un un_neg pe_int)
  refine wpAny_Slice (thn (po_none.run pins t1 σ H1 (fun o H2 => o = none ∧ H2 = H1) I1 ⟨rfl, rfl⟩) fun vl t2 ⟨l, H2, I2, pl, el, e2⟩ => ?_)
  subst el e2
  refine thn (po_none.run pins t2 σ H2 (fun o H3 => o = none ∧ H3 = H2) I2 ⟨rfl, rfl⟩) fun vu t3 ⟨u, H3, I3, pu, eu, e3⟩ => ?_
  subst eu e3
  refine thn (step.run pins t3 σ H3 (fun o H4 => o = some (-1) ∧ H4 = H3) I3 ⟨1, rfl, -1, rfl, rfl, rfl⟩) fun vs t4 ⟨o, H4, I4, ps, eo, e4⟩ => ?_
  subst eo e4
  have I5 : Inv X pins σ H4 { t4 with heap := t4.heap.push { cls := .type "slice", data := .fields #[vl, vu, vs] } } := I4.kept (t' := t4.toks) fun b ob q => Heap.get?_push_of_some _ q
  obtain ⟨its, r, ht, hz⟩ := I5.tuple hx
  have hlen := r.length
  show wpAny (model X.prog X.w) X.A (subscriptTail e (.Slice none none (some (.UnaryOp .USub (.Constant (.int 1) k p1) p2)) p3) (.ref a) (.ref t4.heap.objs.size)) (EP X pins σ Q) X.xe { t4 with heap := t4.heap.push { cls := .type "slice", data := .fields #[vl, vu, vs] } }
  refine tail_any (ops := [.ref a, .ref t4.heap.objs.size]) ht.typeIs (PyProof.Rows.slot_tuple_getitem.lookup) ?_ (by with_unfolding_all rfl)
  refine getItem_rev ht (Heap.IsSliceOf.new _ vl vu vs) pl pu ps ?_ (by rw [List.size_toArray]; omega)
  refine ⟨.ref _, _, I5.laid (t' := t4.toks) (o := .tup xs.reverse) (fun b ob q => Heap.get?_push_of_some _ q) (Nat.le_refl _) ?_, rfl, q _ (I5.hok.fresh (Nat.le_refl _))⟩
  exact ⟨by rw [List.length_reverse]; exact hz, _, r.reverse, ⟨_, Heap.get?_push_size _ rfl, rfl, _, rfl⟩⟩
/-! ### bool(t) -/
section
variable {prog : Program} {w : World} {A : Around} {E : Value → Shared → Prop} {s : Shared}
theorem bool_tup {t : Addr} {items : Array Value} {Q : Value → Shared → Prop} (hfit : (items.size : Int) < 2 ^ 63) (ht : IsTup s.heap t items) (h : ∀ tk, Q (.bool (!items.isEmpty)) { s with toks := tk }) : wpAny (model prog w) A (call (.type "bool") [.ref t]) Q E s := by
  refine callType_codes (T := "bool") (Bi := Builtin.«object.__init__») (Q₁ := fun r s' => ∃ b, r = .bool b ∧ Q r s') PySem.F.called_bool (PySem.F.typeCall_bool_1 _) PySem.F.entry_object_init ?_ ?_
  · refine codeAny_of_tree ?_
    show wpAny _ A.in1.in1 (do checkBuiltinCall "bool.__new__" ⟨[.type "bool", .ref t], []⟩; again (.builtin "bool.__new__" ⟨[.type "bool", .ref t], []⟩)) _ _ s
    refine wpAny_bind (wpAny_of_eq (PySem.F.newCall_bool_1 _) (wpAny_pure ⟨plainId_quiet (by decide +kernel) _, codeAny_builtin PySem.F.entry_bool_new ?_⟩))
    rw [Around.under_plainId (by decide +kernel) _]
    unfold Builtin.«bool.__new__»
    have f1 := PySem.F.conv_sub_bool
    have go : wpAny (model prog w) A.in1.in1 (truthy (.ref t)) (fun b s' => Q (.bool b) s') E s := truthy_tuple ht hfit (h _)
    refine wpAny_bind (m := isType (.type "bool")) (wpAny_pure ?_)
    refine wpAny_bind (m := isSubtype (.type "bool") (.type "bool")) (wpAny_of_eq f1 ?_)
    refine wpAny_bind (wpAny_pure ?_)
    refine wpAny_bind (m := truthy (.ref t)) (wpAny_mono go (fun b s' hq => ?_) fun _ _ y => y)
    exact wpAny_pure ⟨b, rfl, hq⟩
  · rintro obj s' ⟨b, rfl, hq⟩
    exact ⟨PySem.typeIs_bool _ _, PySem.F.args_object_init_2 _ _, object_init_meets PySem.F.called_bool.init.lookup PySem.F.called_bool.made (by decide) prog w A.in1 _ s' ⟨PySem.typeIs_bool _ _, rfl, hq⟩⟩
end
theorem call_boolT {X : Cx} : CallR X (.type "bool") (fun xs H Q => ∃ (a : Addr) (zs : List V), xs = [.ref a] ∧ SqT X.K H a zs ∧ Q (.bl (!zs.isEmpty)) H) := by
  intro pins s σ H xs us Q I r h
  obtain ⟨a, zs, rfl, hq, q⟩ := h
  obtain rfl := Vals.ref1 r
  obtain ⟨its, rv, pl, hz⟩ := I.tuple hq
  have hl := line63
  have hlen := rv.length
  refine bool_tup (by simp only [List.size_toArray]; omega) pl fun tk => ?_
  exact ⟨.bl (!zs.isEmpty), H, I.tok _, by rw [isEmpty_of rv]; rfl, q⟩
/-! ### a class whose __init__ takes a star -/
structure MakeR (P : Program) (w : World) (K : PySem.W.Frag) (mg : Str → Option Value) (base : Heap) (CX : CXT) (k : Nat) (x : Str) (C : Addr) (sp : Sp) : Prop where
  ex : ∃ f, Mk K C f ∧ FnR P w K mg base CX k f sp ∧ mg x = some (.ref C)
section
variable {X : Cx} {CX : CXT} {k : Nat} {C : Addr} {sp : Sp} {E : XK} {x : Str} {e : Expr} {es : List Expr} {te : TE} {t : TA} {p sp_ pos : Pos}
theorem pe_mkR (M : MakeR X.prog X.w X.K X.mg X.base CX k x C sp) (hr : Room (k + 1) X.A) (hg : Gl X x) (hx : Passes CX X E) (ha : PA X (e :: es) t) (hdb : (x == ("__debug__" : Str)) = false := by decide)
    (he : starEach (e :: es) X.env = (false, eval e X.env) :: starEach es X.env := by rfl) (hpl : (backTo pos (starEach es X.env)).any (·.1) = false := by rfl) : PE X (.Call (.Name x p) (e :: es) [] pos) (StX.tMakeR C sp E t) := by
  obtain ⟨f, mk, F, hm⟩ := M.ex
  exact StX.pe_makeR mk F hr hg hm hx ha hdb he hpl
/-- C() -/
theorem pe_mkR0 (M : MakeR X.prog X.w X.K X.mg X.base CX k x C sp) (hr : Room (k + 1) X.A) (hg : Gl X x) (hx : Passes CX X E) (hdb : (x == ("__debug__" : Str)) = false := by decide) : PE X (.Call (.Name x p) [] [] pos) (StX.tMakeR C sp E tNil) := by
  obtain ⟨f, mk, F, hm⟩ := M.ex
  refine ⟨fun pins s σ H Q I h => ?_⟩
  refine wpAny_Call_Name_kw (ld_glob I hg hm ?_ hdb)
  refine PySem.W.callWith_K0 (first := []) I.kIn mk.kp ?_
  exact StX.run_makeR mk F hr hx I .nil h
/-- C(*e) -/
def tMakeS (K : PySem.W.Frag) (C : Addr) (sp : Sp) (E : XK) (te : TE) : TE := fun σ H Q => te σ H fun y H1 => ∃ a xs, y = V.ref a ∧ (SqT K H1 a xs ∨ SqL K H1 a xs) ∧ ∀ x dx, H1 x = none → H1 dx = none → dx ≠ x →
  sp (V.ref x :: xs) (upd (upd H1 dx (.own x)) x (.ins C dx [])) (fun v H2 => v = .non ∧ Q (.ref x) H2) E
theorem pe_mkS (M : MakeR X.prog X.w X.K X.mg X.base CX k x C sp) (hr : Room (k + 1) X.A) (hg : Gl X x) (hx : Passes CX X E) (he : PE X e te) (hdb : (x == ("__debug__" : Str)) = false := by decide)
    (hst : starEach [.Starred e sp_] X.env = [(true, eval e X.env)] := by rfl) : PE X (.Call (.Name x p) [.Starred e sp_] [] pos) (tMakeS X.K C sp E te) := by
  obtain ⟨f, mk, F, hm⟩ := M.ex
  refine ⟨fun pins s σ H Q I h => ?_⟩
  refine wpAny_Call_Name_kw (ld_glob I hg hm ?_ hdb)
  refine PySem.W.callWith_S (h₀ := X.base) I.ok.mod.kin mk.kp (thn (he.run pins s σ H _ I h) fun v t1 ⟨y, H1, I1, ry, a, xs, ey, hxs, q⟩ => ?_) hst
  subst ey
  obtain rfl : v = Value.ref a := ry
  exact StX.star_any I1 hxs fun us t2 I2 rv => ⟨I2.kIn, StX.run_makeR mk F hr hx I2 rv q⟩
end
/-! ### classmethods -/
theorem fnR_of {P : Program} {w : World} {K : PySem.W.Frag} {mg : Str → Option Value} {base : Heap} {CX : CXT} {k : Nat} {f : Addr} {fd : FuncData} {ps : List Str} {sp : Sp} (F : FnOk P w K mg base CX k f fd ps sp) (b : L2.Binds K fd ps []) : FnR P w K mg base CX k f sp := by
  intro A outer s H us vs Q E hr e0 r hsp
  have hl : (us ++ []).length = ps.length := by
    rw [List.append_nil, ← r.length]
    exact F.len _ _ _ _ hsp
  have hb := b s us (e0.mod.kin.keeps fun b o e => (e0.bs b o e).1) hl
  rw [List.append_nil] at hb
  exact F.run A outer s H ⟨us, []⟩ us vs Q E hr e0 hb r hsp
structure ClsAt (P : Program) (w : World) (K : PySem.W.Frag) (mg : Str → Option Value) (base : Heap) (CX : CXT) (k : Nat) (C : Addr) (m : Str) (sp : Sp) : Prop where
  ex : ∃ mc p g, ClX.CRead K C mc ∧ ClX.CMet K C mc m p g ∧ FnR P w K mg base CX k g sp
theorem pe_cm {X : Cx} {CX : CXT} {k : Nat} {C : Addr} {sp : Sp} {E : XK} {o e : Expr} {es : List Expr} {m : Str} {pos apos : Pos} {ta : TE} {t : TA} {pl : Sem Bool} (M : ClsAt X.prog X.w X.K X.mg X.base CX k C m sp) (hr : Room k X.A) (hx : Passes CX X E) (he : PE X o ta) (ha : PA X (e :: es) t)
    (hst : starEach (e :: es) X.env = (false, eval e X.env) :: starEach es X.env := by rfl) (hpl : (backTo pos (starEach es X.env)).any (·.1) = false := by rfl)
    (ht : eval (.Call (.Attribute o m apos) (e :: es) [] pos) X.env = (do
      let ov ← eval o X.env
      standAt apos.atName
      let (f, first) ← holding [ov] (getMethod ov m pl)
      callWith pos f first (backTo pos (starEach (e :: es) X.env)) (backToKw pos (keywordEach [] X.env))) := by rfl) :
    PE X (.Call (.Attribute o m apos) (e :: es) [] pos) (ClX.tCMeth C sp E ta t) := by
  obtain ⟨mc, p, g, r, c, F⟩ := M.ex
  exact ClX.pe_cmeth he r c F hr hx ha hst hpl ht
/-! ### x[k] by an own __getitem__ -/
structure GetAt (P : Program) (w : World) (K : PySem.W.Frag) (mg : Str → Option Value) (base : Heap) (CX : CXT) (k : Nat) (C : Addr) (ps : List Str) (sp : Sp) : Prop where
  ex : ∃ f fd, PySem.W.findIn K (.ref C) "__getitem__" = some (some (.ref f)) ∧ PySem.W.isFn K (.ref f) = true ∧ PySem.W.fnIn K f = true ∧ FnOk P w K mg base CX k f fd ps sp ∧ L2.Binds K fd ps []
def tGet (C : Addr) (sp : Sp) (E : XK) (ta tb : TE) : TE := fun σ H Q => ta σ H fun x H1 => tb σ H1 fun y H2 => ∃ a dx fs, x = .ref a ∧ H2 a = some (.ins C dx fs) ∧ sp [x, y] H2 Q E
theorem pe_get {X : Cx} {CX : CXT} {k : Nat} {C : Addr} {ps : List Str} {sp : Sp} {E : XK} {a b : Expr} {ta tb : TE} {pos : Pos} (M : GetAt X.prog X.w X.K X.mg X.base CX k C ps sp) (hr : Room (k + 1) X.A) (hx : Passes CX X E) (ha : PE X a ta) (hb : PE X b tb)
    (hsl : ∀ (x : Addr) (i : Value), subscripted b true (.ref x) i = runValue (.builtin "lifetime.subscript" ⟨[.ref x, i], []⟩) := by intro _ _; with_unfolding_all rfl) : PE X (.Subscript a b pos) (tGet C sp E ta tb) := by
  obtain ⟨f, fd, hs, hf, hfn, F, hbd⟩ := M.ex
  refine ⟨fun pins s σ H Q I h => ?_⟩
  refine Subscript_ (binT ha hb I h fun v u s2 x y H2 I2 rx ry q => ?_)
  obtain ⟨p, dx, fs, rfl, hp, hsp⟩ := q
  obtain rfl : v = Value.ref p := rx
  obtain ⟨ox, od, J, _⟩ := ins_plain I2 hp
  obtain ⟨m', hF⟩ := I2.fr
  have U : Und X k X.A.in1 := (Und.here hr).in1
  exact PySem.W.sub_K hF I2.ok.mod.kin J hs hfn hf (run_at (vs := [.ref p, y]) F hbd hx U I2 (.cons rfl (.cons ry .nil)) hsp) (hsl _ _)
end My
/-! A class made by a star, a classmethod, an own __getitem__, from what the top finds. -/
namespace My
open PySem PySem.Spec PyProof.Rows L2
theorem nm_at : Sup.Nm "at" := ⟨by decide, by decide, by decide, by decide, fun _ _ _ _ _ _ _ _ _ _ _ _ => rfl⟩
theorem nm_value : Sup.Nm "value" := ⟨by decide, by decide, by decide, by decide, fun _ _ _ _ _ _ _ _ _ _ _ _ => rfl⟩
structure HasCM (K : PySem.W.Frag) (C : Addr) (m qual : Str) (st : Stmt) : Prop where
  ex : ∃ mc p g fd, ClX.CRead K C mc ∧ ClX.CMet K C mc m p g ∧ Fun K m qual st g fd
section
variable {P : Program} {w : World} {K : PySem.W.Frag} {mg : Str → Option Value} {base : Heap} {CX : CXT} {k : Nat} {x m qual : Str} {st : Stmt} {ps ks : List Str} {sp : Sp} {C : Addr}
theorem makeR_at (A : HasM K C "__init__" qual st) (hx : mg x = some (.ref C)) (mk : PySem.W.makesIn K C = true) (kp : PySem.W.keepIn K (.ref C) = true)
    (ok : ∀ (f : Addr) (oc : Value) (od : Option Addr) (kV doc pm : Value) (an : Option Addr) (cdv ct : Value) (osl : Array (Option Value)), K.lookup f = some ⟨oc, od, .func (PySem.W.fnOf "__init__" qual (defArgs st) (defBody st) (defScope st) .none kV doc pm an cdv ct), osl⟩ → PySem.W.codeIn K cdv qual = true → FnR P w K mg base CX k f sp) : MakeR P w K mg base CX k x C sp := by
  obtain ⟨f, fd, h1, h2, F⟩ := A.ex
  obtain ⟨oc, od, kV, doc, pm, an, cdv, ct, osl, rfl, lk, hcd⟩ := F.ex
  exact ⟨f, ⟨mk, h1, h2, kp⟩, ok f _ _ _ _ _ _ _ _ _ lk hcd, hx⟩
theorem cls_at (A : HasCM K C m qual st) (ok : ∀ f fd, Fun K m qual st f fd → FnOk P w K mg base CX k f fd ps sp) (b : BindW m qual st ps) : ClsAt P w K mg base CX k C m sp := by
  obtain ⟨mc, p, g, fd, h1, h2, F⟩ := A.ex
  exact ⟨mc, p, g, h1, h2, fnR_of (ok g fd F) (F.binds b)⟩
theorem get_at (A : HasM K C "__getitem__" qual st) (ok : ∀ f fd, Fun K "__getitem__" qual st f fd → FnOk P w K mg base CX k f fd ps sp) (b : BindW "__getitem__" qual st ps) : GetAt P w K mg base CX k C ps sp := by
  obtain ⟨f, fd, h1, h2, F⟩ := A.ex
  have F' := F
  obtain ⟨oc, od, kV, doc, pm, an, cdv, ct, osl, rfl, lk, _⟩ := id F.ex
  refine ⟨f, _, h1, h2, ?_, ok f _ F', F'.binds b⟩
  unfold PySem.W.fnIn
  rw [lk]
end
end My
/-! The head by one kernel run: what is looked at behind the top, and the end that goes with it. -/
namespace My
open PySem PySem.Spec PyProof.Rows L2 He
/-! ### what is looked at -/
/-- what is read off the heap, by names -/
inductive Sel where
  | fn (x : Str)
  | cls (x : Str)
  | meth (x m : Str)
  | rcd (x m : Str)
def nsG (g : Addr → Option Obj) (d : Addr) (x : Str) : Addr := match g d with
  | some ⟨_, _, .dict es _, _⟩ => (match es.toList.find? (·.key.isStr x) with
    | some e => (match e.val with
      | .ref a => a
      | _ => 0)
    | none => 0)
  | _ => 0
def clsNs (g : Addr → Option Obj) (C : Addr) : Addr := match g C with
  | some ⟨_, _, .cls cd, _⟩ => cd.ns
  | _ => 0
def mroG (g : Addr → Option Obj) (C : Addr) : List Addr := match g C with
  | some ⟨_, _, .cls cd, _⟩ => cd.mro.flatMap fun v => match v with
    | .ref D => [D, clsNs g D]
    | _ => []
  | _ => []
def fnRefs (g : Addr → Option Obj) (f : Addr) : List Addr := match g f with
  | some ⟨_, _, .func fd, _⟩ => f :: (refV fd.code ++ (refV fd.defaults ++ fd.closure.map (·.2)))
  | _ => []
def recRefs (g : Addr → Option Obj) (p : Addr) : List Addr := match g p with
  | some ⟨_, _, .fields vs, _⟩ => p :: (match vs.toList with
    | .ref f :: _ => fnRefs g f
    | _ => [])
  | _ => []
def Sel.adr (g : Addr → Option Obj) : Sel → List Addr
  | .fn x => fnRefs g (nsG g mainGlobals x)
  | .cls x => mroG g (nsG g mainGlobals x)
  | .meth x m => fnRefs g (nsG g (clsNs g (nsG g mainGlobals x)) m)
  | .rcd x m => recRefs g (nsG g (clsNs g (nsG g mainGlobals x)) m)
def asM (g : Addr → Option Obj) (sl : List Sel) : List Addr := mainGlobals :: cStatics :: sysModules :: sl.flatMap fun x => x.adr g
/-- one def: where it stands, its names, its statement, its defaults -/
structure FD where
  at_ : PySem.W.Frag → Addr
  nm : Str
  qual : Str
  st : Stmt
  dfl : List Dv := []
abbrev FV : Type := Option (Str × Str × Arguments × FuncBody × Scope)
def fv (K : PySem.W.Frag) (a : Addr) : FV := match K.lookup a with
  | some ⟨_, _, .func fd, _⟩ => some (fd.name, fd.qualname, fd.params, fd.body, fd.scope)
  | _ => none
def FD.val (d : FD) : FV := some (d.nm, d.qual, defArgs d.st, .stmts (defBody d.st), defScope d.st)
/-- a plain def -/
def fdB (K : PySem.W.Frag) (a : Addr) (qual : Str) (dvs : List V) : Bool := match K.lookup a with
  | some ⟨_, _, .func fd, _⟩ => decide (fd.globals = mainGlobals) && (decide (fd.builtins = builtinsNs) && (fd.closure.isEmpty && (PySem.W.codeIn K fd.code qual && (dflB K fd.defaults dvs && (decide (fd.kwdefaults = .none) && PySem.W.keepIn K (.ref a))))))
  | _ => false
/-- a def with its class in its closure -/
def fdC (K : PySem.W.Frag) (a : Addr) (qual : Str) (C : Addr) : Bool := match K.lookup a with
  | some ⟨_, _, .func fd, _⟩ => decide (fd.globals = mainGlobals) && (decide (fd.builtins = builtinsNs) && (PySem.W.codeIn K fd.code qual && (decide (fd.defaults = .none) && (decide (fd.kwdefaults = .none) && (match fd.closure with
    | [(x, cc)] => decide (x = ("__class__" : Str)) && (match K.lookup cc with
      | some ⟨_, _, .cell (some (.ref C')), _⟩ => decide (C' = C)
      | _ => false)
    | _ => false)))))
  | _ => false
theorem fdB_ok {K : PySem.W.Frag} {a : Addr} {nm qual : Str} {st : Stmt} {dvs : List V} (e : fv K a = some (nm, qual, defArgs st, .stmts (defBody st), defScope st)) (h : fdB K a qual dvs = true) : ∃ oc od dV doc pm an cdv ct osl,
    K.lookup a = some ⟨oc, od, .func (PySem.W.fnOf nm qual (defArgs st) (defBody st) (defScope st) dV .none doc pm an cdv ct), osl⟩ ∧ PySem.W.codeIn K cdv qual = true ∧ DflV K dV dvs ∧ PySem.W.keepIn K (.ref a) = true := by
  unfold fv at e
  unfold fdB at h
  cases q : K.lookup a with
  | none => rw [q] at h; cases h
  | some o =>
    obtain ⟨oc, od, dt, osl⟩ := o
    rw [q] at h e
    cases dt with
    | func fd =>
      obtain ⟨n1, n2, n3, n4, n5, n6, n7, n8, n9, n10, n11, n12, n13, n14, n15⟩ := fd
      have e2 : (some (n1, n2, n3, n4, n5) : FV) = some (nm, qual, defArgs st, .stmts (defBody st), defScope st) := e
      simp only [Option.some.injEq, Prod.mk.injEq] at e2
      obtain ⟨h1, h2, h3, h4, h5⟩ := e2
      subst h1 h2 h3 h4 h5
      obtain ⟨k1, h⟩ := ba h
      obtain ⟨k2, h⟩ := ba h
      obtain ⟨k3, h⟩ := ba h
      obtain ⟨k4, h⟩ := ba h
      obtain ⟨k5, h⟩ := ba h
      obtain ⟨k6, k7⟩ := ba h
      have l1 : n6 = mainGlobals := of_decide_eq_true k1
      have l2 : n15 = builtinsNs := of_decide_eq_true k2
      have l3 : n7 = [] := List.isEmpty_iff.mp k3
      have l6 : n9 = Value.none := of_decide_eq_true k6
      subst l1 l2 l3 l6
      exact ⟨oc, od, n8, n10, n11, n12, n13, n14, osl, rfl, k4, dflB_ok k5, k7⟩
    | _ => cases h
theorem fdC_ok {K : PySem.W.Frag} {a C : Addr} {nm qual : Str} {st : Stmt} (e : fv K a = some (nm, qual, defArgs st, .stmts (defBody st), defScope st)) (h : fdC K a qual C = true) : ∃ oc od doc pm an cda ct cc osl,
    K.lookup a = some ⟨oc, od, .func (PySem.W.ksFn nm qual (defArgs st) (defBody st) (defScope st) .none .none doc pm an (.ref cda) ct cc), osl⟩ ∧ PySem.W.codeIn K (.ref cda) qual = true ∧ ∃ cl cld csl, K.lookup cc = some ⟨cl, cld, .cell (some (.ref C)), csl⟩ := by
  unfold fv at e
  unfold fdC at h
  cases q : K.lookup a with
  | none => rw [q] at h; cases h
  | some o =>
    obtain ⟨oc, od, dt, osl⟩ := o
    rw [q] at h e
    cases dt with
    | func fd =>
      obtain ⟨n1, n2, n3, n4, n5, n6, n7, n8, n9, n10, n11, n12, n13, n14, n15⟩ := fd
      have e2 : (some (n1, n2, n3, n4, n5) : FV) = some (nm, qual, defArgs st, .stmts (defBody st), defScope st) := e
      simp only [Option.some.injEq, Prod.mk.injEq] at e2
      obtain ⟨h1, h2, h3, h4, h5⟩ := e2
      subst h1 h2 h3 h4 h5
      obtain ⟨k1, h⟩ := ba h
      obtain ⟨k2, h⟩ := ba h
      obtain ⟨k4, h⟩ := ba h
      obtain ⟨k5, h⟩ := ba h
      obtain ⟨k6, k7⟩ := ba h
      have l1 : n6 = mainGlobals := of_decide_eq_true k1
      have l2 : n15 = builtinsNs := of_decide_eq_true k2
      have l5 : n8 = Value.none := of_decide_eq_true k5
      have l6 : n9 = Value.none := of_decide_eq_true k6
      subst l1 l2 l5 l6
      obtain ⟨cda, l4⟩ := codeIn_ref k4
      have l4 : n13 = Value.ref cda := l4
      subst l4
      match n7, k7 with
      | [(x, cc)], k7 =>
        obtain ⟨m1, m2⟩ := ba k7
        have m1 : x = ("__class__" : Str) := of_decide_eq_true m1
        subst m1
        refine ⟨oc, od, n10, n11, n12, cda, n14, cc, osl, rfl, k4, ?_⟩
        cases q2 : K.lookup cc with
        | none => rw [q2] at m2; cases m2
        | some o2 =>
          obtain ⟨cl, cld, cdt, csl⟩ := o2
          rw [q2] at m2
          cases cdt with
          | cell v =>
            match v, m2 with
            | some (.ref C'), m2 =>
              have m3 : C' = C := of_decide_eq_true m2
              subst m3
              exact ⟨cl, cld, csl, rfl⟩
          | _ => cases m2
    | _ => cases h
/-! ### where things stand -/
def refB : Option (List Value) → Bool
  | some (.ref _ :: _) => true
  | _ => false
def refA : Option (List Value) → Addr
  | some (.ref f :: _) => f
  | _ => 0
theorem refB_ok : ∀ {l : Option (List Value)}, refB l = true → ∃ rest, l = some (.ref (refA l) :: rest)
  | none, h => by cases h
  | some [], h => by cases h
  | some (v :: r), h => by
    cases v with
    | ref f => exact ⟨r, rfl⟩
    | _ => cases h
def strQ : Option Value → Str → Bool
  | some (.str file _), f => f == file
  | _, _ => false
theorem strQ_ok : ∀ {o : Option Value} {f : Str}, strQ o f = true → ∃ file tf, o = some (.str file tf) ∧ (f == file) = true
  | none, _, h => by cases h
  | some v, f, h => by
    cases v with
    | str file tf => exact ⟨file, tf, rfl, h⟩
    | _ => cases h
def sAt (t : String) (K : PySem.W.Frag) (C : Addr) (m : Str) : Addr := match PySem.W.findCls K (.ref C) (.type "type") m with
  | some (.get _ (.ref p) _ _) => refA (PySem.W.recIn K p t)
  | _ => 0
def pAt (K : PySem.W.Frag) (C : Addr) (m : Str) : Addr := match PySem.W.findIn K (.ref C) m with
  | some (some (.ref p)) => refA (PySem.W.recIn K p "property")
  | _ => 0
def cAt (K : PySem.W.Frag) (f : Addr) : Addr := match K.lookup f with
  | some ⟨_, _, .func fd, _⟩ => (match fd.code with
    | .ref c => c
    | _ => 0)
  | _ => 0
theorem cAt_eq {K : PySem.W.Frag} {f : Addr} {oc : Value} {od : Option Addr} {osl : Array (Option Value)} {fd : FuncData} {c : Addr} (lk : K.lookup f = some ⟨oc, od, .func fd, osl⟩) (e : fd.code = .ref c) : cAt K f = c := by
  unfold cAt
  rw [lk]
  show (match fd.code with | .ref c => c | _ => 0) = c
  rw [e]
/-! ### the hook -/
abbrev AM : Type := Bool × List FV
def tabM (g : Addr → Option Obj) (tf : List (PySem.W.Frag → Addr)) (K : PySem.W.Frag) : Bool := tf.all fun f => PySem.W.codeHdIn K (cAt K (f K)) (tabOf K (cAt K (f K))) && (match g (tabOf K (cAt K (f K))) with
  | some o => emptyTab o
  | none => false)
def obsK (g : Addr → Option Obj) (fs : List (PySem.W.Frag → Bool)) (fn : List FD) (tf : List (PySem.W.Frag → Addr)) (K : PySem.W.Frag) : AM := ((fs.all fun f => f K) && tabM g tf K, fn.map fun d => fv K (d.at_ K))
def obsM (n : List Sel) (fs : List (PySem.W.Frag → Bool)) (fn : List FD) (tf : List (PySem.W.Frag → Addr)) (g : Addr → Option Obj) : AM := obsK g fs fn tf (frT g (asM g n))
def valM (fn : List FD) : AM := (true, fn.map FD.val)
structure SaysM (fs : List (PySem.W.Frag → Bool)) (fn : List FD) (tf : List (PySem.W.Frag → Addr)) (h : Heap) (K : PySem.W.Frag) : Prop where
  facts : ∀ (i : Nat) (f : PySem.W.Frag → Bool), fs[i]? = some f → f K = true
  defs : ∀ (i : Nat) (d : FD), fn[i]? = some d → fv K (d.at_ K) = d.val
  hd : ∀ (i : Nat) (f : PySem.W.Frag → Addr), tf[i]? = some f → PySem.W.codeHdIn K (cAt K (f K)) (tabOf K (cAt K (f K))) = true
  out : ∀ (i : Nat) (f : PySem.W.Frag → Addr), tf[i]? = some f → K.lookup (tabOf K (cAt K (f K))) = none
  empty : ∀ (i : Nat) (f : PySem.W.Frag → Addr), tf[i]? = some f → h.get? (tabOf K (cAt K (f K))) = some { cls := .none, data := .fields #[] }
theorem saysM_of {n : List Sel} {fs : List (PySem.W.Frag → Bool)} {fn : List FD} {tf : List (PySem.W.Frag → Addr)} {h : Heap} (e : obsM n fs fn tf h.get? = valM fn) : SaysM fs fn tf h (frT h.get? (asM h.get? n)) := by
  have e1 : ((fs.all fun f => f (frT h.get? (asM h.get? n))) && tabM h.get? tf (frT h.get? (asM h.get? n))) = true := congrArg (fun z : AM => z.1) e
  have e2 : (fn.map fun d => fv (frT h.get? (asM h.get? n)) (d.at_ (frT h.get? (asM h.get? n)))) = fn.map FD.val := congrArg (fun z : AM => z.2) e
  obtain ⟨h1, h2⟩ := ba e1
  have key : ∀ (i : Nat) (f : PySem.W.Frag → Addr), tf[i]? = some f → PySem.W.codeHdIn (frT h.get? (asM h.get? n)) (cAt (frT h.get? (asM h.get? n)) (f (frT h.get? (asM h.get? n)))) (tabOf (frT h.get? (asM h.get? n)) (cAt (frT h.get? (asM h.get? n)) (f (frT h.get? (asM h.get? n))))) = true ∧
      ∃ o, h.get? (tabOf (frT h.get? (asM h.get? n)) (cAt (frT h.get? (asM h.get? n)) (f (frT h.get? (asM h.get? n))))) = some o ∧ emptyTab o = true := fun i f hi => by
    obtain ⟨h3, h4⟩ := ba (List.all_eq_true.mp h2 f (List.mem_of_getElem? hi))
    refine ⟨h3, ?_⟩
    cases q : h.get? (tabOf (frT h.get? (asM h.get? n)) (cAt (frT h.get? (asM h.get? n)) (f (frT h.get? (asM h.get? n))))) with
    | none =>
      rw [q] at h4
      cases h4
    | some o =>
      rw [q] at h4
      exact ⟨o, rfl, h4⟩
  refine ⟨fun i f hi => List.all_eq_true.mp h1 f (List.mem_of_getElem? hi), fun i d hi => ?_, fun i f hi => (key i f hi).1, fun i f hi => ?_, fun i f hi => ?_⟩
  · have e3 : (fn.map fun d => fv (frT h.get? (asM h.get? n)) (d.at_ (frT h.get? (asM h.get? n))))[i]? = (fn.map FD.val)[i]? := by rw [e2]
    rw [List.getElem?_map, List.getElem?_map, hi] at e3
    exact Option.some.inj e3
  · obtain ⟨_, o, q, z⟩ := key i f hi
    exact frT_none q z
  · obtain ⟨_, o, q, z⟩ := key i f hi
    rw [q, emptyTab_eq z]
def hookM (n : List Sel) (fs : List (PySem.W.Frag → Bool)) (fn : List FD) (tf : List (PySem.W.Frag → Addr)) : PySem.W.Hook where
  α := AM
  obs := fun s => obsM n fs fn tf s.heap.get?
  val := fun _ => valM fn
  says := fun _ h => ∃ K : PySem.W.Frag, K.In h ∧ SaysM fs fn tf h K
  of := fun _ _ e => ⟨_, frT_in, saysM_of e⟩
  keeps := fun _ _ _ ⟨K, hK, c⟩ k => ⟨K, PySem.W.Frag.In.keeps hK k, ⟨c.facts, c.defs, c.hd, c.out, fun i f hi => k _ _ (c.empty i f hi)⟩⟩
theorem obsM_eq {n : List Sel} {fs : List (PySem.W.Frag → Bool)} {fn : List FD} {tf : List (PySem.W.Frag → Addr)} {g : Addr → Option Obj} {s : Shared} (h : ∀ a, g a = s.heap.get? a) : obsM n fs fn tf g = (hookM n fs fn tf).obs s := by
  have e : g = s.heap.get? := funext h
  rw [e] <;> rfl
/-! ### the end -/
theorem walk_GE {l : PySem.W.OpenLaw} {n k : Nat} {q : Program} {loose : List Str} {XP : (Str → Option Value) → Heap → Prop} {YP : World → Heap → Prop} {d : DefRec} {x : Str}
    (hn : l.most = some n) (hn2 : n ≤ sizeLine) (hdf : d.params.defaults = []) (hr : Room k callerA)
    (F : ∀ (w : World) (mg : Str → Option Value) (fa : Addr) (h : Heap), YP w h → h.Ns mainGlobals mg → mg d.name = some (.ref fa) → ∃ K : PySem.W.Frag, K.In h ∧ LawG l w K k n x mg fa h) :
    PySem.W.WalkO q loose XP YP l.row.toRowW d [] (fun f vs => PySem.call f vs) := by
  refine Att.attach_callB hn hdf fun w s₀ s₁ mg mb fa o pm cd doc a vs ns G Y ho hd hcd hmg hobj hints hlen hbits hg => ?_
  obtain ⟨K, KX, fd, cs, sp, ts, hb, hsp, hF⟩ := F w mg fa _ Y G.T.g hmg
  obtain ⟨H, B⟩ := begins (P := l.prog) (w := w) KX ts hobj hints (Nat.le_trans hlen hn2)
  exact from_begin B KX G.T.g G.T.b G.T.builtins G.T.nolimit hg ts G.T.bmain hobj hr hF hb (hsp H a ns hlen hbits B.tbl B.seq)
/-! ### facts -/
section
variable {K : PySem.W.Frag} {h : Heap} {mg : Str → Option Value} {fs : List (PySem.W.Frag → Bool)} {fn : List FD} {tf : List (PySem.W.Frag → Addr)}
theorem gloM (X : K.In h) (G : h.Ns mainGlobals mg) {x : Str} (c : (Fa.glo x).ok K = true) : mg x = some (.ref (ga K x)) := glo_ok X G c
theorem freeM (X : K.In h) (G : h.Ns mainGlobals mg) {x : Str} (c : (Fa.free x).ok K = true) : mg x = none := free_ok X G c
/-- an attribute of a class that is an object -/
def attB (K : PySem.W.Frag) (C : Addr) (m : Str) : Bool := eqO (PySem.W.findIn K (.ref C) m) (some (some (.ref (ma K C m))))
def fnB (K : PySem.W.Frag) (C : Addr) (m : Str) : Bool := attB K C m && PySem.W.isFn K (.ref (ma K C m))
def statB (K : PySem.W.Frag) (C : Addr) (m : Str) : Bool := eqO (PySem.W.specialIn K (.ref C) "__getattribute__") (some (some (.builtin "type.__getattribute__"))) && (PySem.W.readsIn K C (.type "type") && (PySem.W.keepIn K (.ref (sAt "staticmethod" K C m)) && (match PySem.W.findCls K (.ref C) (.type "type") m with
  | some (.get g (.ref p) o t) => decide (g = .builtin "staticmethod.__get__") && (decide (o = .none) && (decide (t = .ref C) && refB (PySem.W.recIn K p "staticmethod")))
  | _ => false)))
theorem statB_ok {C : Addr} {m : Str} (h : statB K C m = true) : Stat K C m (sAt "staticmethod" K C m) := by
  unfold statB at h
  obtain ⟨h1, h⟩ := ba h
  obtain ⟨h2, h⟩ := ba h
  obtain ⟨h3, h⟩ := ba h
  refine ⟨eqO_ok h1, ⟨.type "type", ?_⟩, h3⟩
  unfold sAt at h3 ⊢
  cases q : PySem.W.findCls K (.ref C) (.type "type") m with
  | none => rw [q] at h; cases h
  | some r =>
    rw [q] at h
    cases r with
    | val v => cases h
    | get g a o t =>
      cases a with
      | ref p =>
        obtain ⟨k1, h5⟩ := ba h
        obtain ⟨k2, h6⟩ := ba h5
        obtain ⟨k3, h7⟩ := ba h6
        have k1 := of_decide_eq_true k1
        have k2 := of_decide_eq_true k2
        have k3 := of_decide_eq_true k3
        subst k1 k2 k3
        obtain ⟨rest, e⟩ := refB_ok h7
        exact ⟨p, rest, h2, rfl, e⟩
      | _ => cases h
def cmetB (K : PySem.W.Frag) (C : Addr) (m : Str) : Bool := PySem.W.fnIn K (sAt "classmethod" K C m) && (match PySem.W.findCls K (.ref C) (.type "type") m with
  | some (.get g (.ref p) o t) => decide (g = .builtin "classmethod.__get__") && (decide (o = .none) && (decide (t = .ref C) && refB (PySem.W.recIn K p "classmethod")))
  | _ => false)
theorem cmetB_ok {C : Addr} {m : Str} (h : cmetB K C m = true) : ∃ p, ClX.CMet K C (.type "type") m p (sAt "classmethod" K C m) := by
  unfold cmetB at h
  obtain ⟨h3, h⟩ := ba h
  unfold sAt at h3 ⊢
  cases q : PySem.W.findCls K (.ref C) (.type "type") m with
  | none => rw [q] at h; cases h
  | some r =>
    rw [q] at h h3
    cases r with
    | val v => cases h
    | get g a o t =>
      cases a with
      | ref p =>
        obtain ⟨k1, h5⟩ := ba h
        obtain ⟨k2, h6⟩ := ba h5
        obtain ⟨k3, h7⟩ := ba h6
        have k1 := of_decide_eq_true k1
        have k2 := of_decide_eq_true k2
        have k3 := of_decide_eq_true k3
        subst k1 k2 k3
        exact ⟨p, q, refB_ok h7, h3⟩
      | _ => cases h
def creadB (K : PySem.W.Frag) (C : Addr) : Bool := PySem.W.readsIn K C (.type "type") && eqO (PySem.W.specialIn K (.ref C) "__getattribute__") (some (some (.builtin "type.__getattribute__")))
theorem creadB_ok {C : Addr} (h : creadB K C = true) : ClX.CRead K C (.type "type") := by
  obtain ⟨h1, h2⟩ := ba h
  exact ⟨h1, eqO_ok h2⟩
def cvalB (K : PySem.W.Frag) (C : Addr) (f : Str) (v : Dv) : Bool := match PySem.W.findCls K (.ref C) (.type "type") f with
  | some (.val u) => relB (v.v K) u
  | _ => false
theorem cvalB_ok {C : Addr} {f : Str} {v : Dv} (h : cvalB K C f v = true) : ∃ u, ClX.CVal K C (.type "type") f (v.v K) u := by
  unfold cvalB at h
  cases q : PySem.W.findCls K (.ref C) (.type "type") f with
  | none => rw [q] at h; cases h
  | some r =>
    rw [q] at h
    cases r with
    | val u => exact ⟨u, q, relB_ok h⟩
    | get _ _ _ _ => cases h
def propB (K : PySem.W.Frag) (C : Addr) (f : Str) : Bool := attB K C f && (eqO (PySem.W.specialIn K (.ref (ma K C f)) "__get__") (some (some (.builtin "property.__get__"))) && (decide (PySem.W.takesIn K (.ref (ma K C f)) = some true) && refB (PySem.W.recIn K (ma K C f) "property")))
theorem propB_ok {C : Addr} {f : Str} (h : propB K C f = true) : PropOf K C f (ma K C f) (pAt K C f) := by
  obtain ⟨h1, h⟩ := ba h
  obtain ⟨h2, h⟩ := ba h
  obtain ⟨h3, h⟩ := ba h
  have h1 := eqO_ok h1
  refine ⟨h1, eqO_ok h2, of_decide_eq_true h3, ?_⟩
  unfold pAt
  rw [h1]
  exact refB_ok h
def excO (K : PySem.W.Frag) (C : Addr) : Bool := (match K.lookup C with
  | some ⟨.type "type", _, .cls cd, sl⟩ => (match cd.mro, sl.toList with
    | .ref C' :: bm, [_, _, _, _, some (.builtin n), _] => C' == C && (n == "ValueError.__new__" && (!cd.hasDel && (cd.hasDict && PySem.HandSPX.refsVE bm)))
    | _, _ => false)
  | _ => false) && (eqO (PySem.W.findIn K (.ref C) "__setattr__") (some (some (.builtin "object.__setattr__"))) && (decide (PySem.W.subIn K (.ref C) (.type "BaseException") = some true) && (decide (PySem.W.typeIn K (.ref C) = some (.type "type")) && PySem.W.keepIn K (.ref C))))
theorem excO_ok {C : Addr} (h : excO K C = true) : L2.OexC K C := by
  obtain ⟨h0, h⟩ := ba h
  obtain ⟨h1, h⟩ := ba h
  obtain ⟨h2, h⟩ := ba h
  obtain ⟨h3, h4⟩ := ba h
  refine ⟨?_, eqO_ok h1, of_decide_eq_true h2, of_decide_eq_true h3, h4⟩
  split at h0
  · rename_i dd cd sl ho
    split at h0
    · rename_i C' bm k0 k1 k2 k3 n k5 hm hs
      simp only [Bool.and_eq_true, beq_iff_eq, Bool.not_eq_true'] at h0
      obtain ⟨rfl, rfl, hdel, hdic, ht⟩ := h0
      obtain ⟨nm, bs, mro, ns, qn, hd, sn, sub, ab, col, del⟩ := cd
      dsimp only at hm hdel hdic
      subst hm hdel hdic
      have hsl : sl = #[k0, k1, k2, k3, some (.builtin "ValueError.__new__"), k5] := by
        obtain ⟨l⟩ := sl
        simp only at hs
        rw [hs]
      subst hsl
      exact ⟨nm, qn, ns, bs, bm, sn, sub, ab, col, dd, k0, k1, k2, k3, k5, ho, ht⟩
    · cases h0
  · cases h0
def fileB (P : Program) (K : PySem.W.Frag) (f : Addr) : Bool := match K.lookup (cAt K f) with
  | some ⟨_, _, .fields vs, _⟩ => strQ (vs[2]? : Option Value) P.main.file
  | _ => false
theorem fileB_ok {P : Program} {f : Addr} (h : fileB P K f = true) : ∃ ccl cdd vs ccs file tf, K.lookup (cAt K f) = some ⟨ccl, cdd, .fields vs, ccs⟩ ∧ vs[2]? = some (.str file tf) ∧ ((P.main.file : Str) == file) = true := by
  unfold fileB at h
  cases q : K.lookup (cAt K f) with
  | none => rw [q] at h; cases h
  | some o =>
    obtain ⟨ccl, cdd, dt, ccs⟩ := o
    rw [q] at h
    cases dt with
    | fields vs =>
      obtain ⟨file, tf, e1, e2⟩ := strQ_ok h
      exact ⟨ccl, cdd, vs, ccs, file, tf, rfl, e1, e2⟩
    | _ => cases h
/-- an error of one field -/
def err1B (P : Program) (K : PySem.W.Frag) (x f qual : Str) : Bool := (Fa.glo x).ok K && (excO K (ga K x) && (xfB K (ga K x) && (eqO (PySem.W.findIn K (.ref (ga K x)) f) (some none) && (attB K (ga K x) "__init__" && (decide (PySem.W.typeIn K (.ref (ma K (ga K x) "__init__")) = some (.type "function")) &&
  (fdC K (ma K (ga K x) "__init__") qual (ga K x) && (fileB P K (ma K (ga K x) "__init__") && (eqO (PySem.W.ks_superIn K (ga K x) (ga K x) "__init__") (some (some (.builtin "ValueError.__init__"))) && (decide (PySem.W.subIn K (.ref (ga K x)) (.type "ValueError") = some true) && (decide (PySem.W.mroIn K (ga K x) (.ref (ga K x)) = some true) &&
  ((Fa.free "super").ok K && eqO (PySem.W.nsIn K cStatics "thirdparty.any") (some none))))))))))))
theorem err1_ok {P : Program} (X : K.In h) (G : h.Ns mainGlobals mg) {x f qual : Str} {st : Stmt} (nm : Sup.Nm f) (c : err1B P K x f qual = true) (e : fv K (ma K (ga K x) "__init__") = (some (("__init__" : Str), qual, defArgs st, FuncBody.stmts (defBody st), defScope st) : FV))
    (ha : ∃ p1 p2, defArgs st = Sup.a1 f p1 p2) (hb : ∃ q1 q2 q3 q4 q5 q6 r1 r2 r3 r4, defBody st = Sup.b1 f q1 q2 q3 q4 q5 q6 r1 r2 r3 r4 ∧ (q3.endLine == q5.line) = true) (hs : defScope st = Sup.s1 f) (top : (P.main.scope.names.lookup ("super" : Str)).isSome = false) :
    Sup.Err1 P K mg x f (ga K x) (ma K (ga K x) "__init__") := by
  obtain ⟨c1, c⟩ := ba c
  obtain ⟨c2, c⟩ := ba c
  obtain ⟨c3, c⟩ := ba c
  obtain ⟨c4, c⟩ := ba c
  obtain ⟨c5, c⟩ := ba c
  obtain ⟨c6, c⟩ := ba c
  obtain ⟨c7, c⟩ := ba c
  obtain ⟨c8, c⟩ := ba c
  obtain ⟨c9, c⟩ := ba c
  obtain ⟨c10, c⟩ := ba c
  obtain ⟨c11, c⟩ := ba c
  obtain ⟨c12, c13⟩ := ba c
  obtain ⟨oc, od, doc, pm, an, cda, ct, cc, osl, lk, hcd, hcell⟩ := fdC_ok e c7
  obtain ⟨p1, p2, ha⟩ := ha
  obtain ⟨q1, q2, q3, q4, q5, q6, r1, r2, r3, r4, hb, hq⟩ := hb
  have hf := fileB_ok c8
  rw [cAt_eq lk rfl] at hf
  rw [ha, hb, hs] at lk
  obtain ⟨ccl, cdd, vs, ccs, file, tf, f1, f2, f3⟩ := hf
  exact ⟨glo_ok X G c1, excO_ok c2, xfB_ok c3, eqO_ok c4, nm, eqO_ok c5, of_decide_eq_true c6, ⟨qual, oc, od, doc, pm, an, cda, ct, cc, osl, p1, p2, q1, q2, q3, q4, q5, q6, r1, r2, r3, r4, lk, hcd, hcell, ccl, cdd, vs, ccs, file, tf, f1, f2, f3, hq⟩, eqO_ok c9, of_decide_eq_true c10, of_decide_eq_true c11, free_ok X G c12, eqO_ok c13, top⟩
def excKB (K : PySem.W.Frag) (C : Addr) : Bool := (PySem.W.clsIn K C).isSome && (eqO (PySem.W.findIn K (.ref C) "__getattribute__") (some (some (.builtin "BaseException.__getattribute__"))) && (eqO (PySem.W.findIn K (.ref C) "__getattr__") (some none) && (decide (PySem.W.subIn K (.ref C) (.type "BaseException") = some true) &&
  (eqO (PySem.W.findIn K (.ref C) "__class__") (some (some (.builtin "object.__class__"))) && (eqO (PySem.W.specialIn K (.builtin "object.__class__") "__get__") (some (some (.builtin "getset_descriptor.__get__"))) && (decide (PySem.W.takesIn K (.builtin "object.__class__") = some true) && decide (PySem.W.mroIn K C (.type "object") = some true)))))))
theorem excKB_ok {C : Addr} (c : excKB K C = true) : ExcK K C := by
  obtain ⟨c1, c⟩ := ba c
  obtain ⟨c2, c⟩ := ba c
  obtain ⟨c3, c⟩ := ba c
  obtain ⟨c4, c⟩ := ba c
  obtain ⟨c5, c⟩ := ba c
  obtain ⟨c6, c⟩ := ba c
  obtain ⟨c7, c8⟩ := ba c
  exact ⟨c1, eqO_ok c2, eqO_ok c3, of_decide_eq_true c4, eqO_ok c5, eqO_ok c6, of_decide_eq_true c7, of_decide_eq_true c8⟩
def clsB (K : PySem.W.Frag) (C : Addr) : Bool := PySem.W.plainGet K C Str.empty && (PySem.W.hasDictIn K C && (PySem.W.plainOver K C && eqO (PySem.W.findIn K (.ref C) "__setattr__") (some (some (.builtin "object.__setattr__")))))
theorem clsB_ok {C : Addr} (c : clsB K C = true) : Cls K C := by
  obtain ⟨c1, c⟩ := ba c
  obtain ⟨c2, c⟩ := ba c
  obtain ⟨c3, c4⟩ := ba c
  exact ⟨c1, c2, c3, eqO_ok c4⟩
def kitB (K : PySem.W.Frag) (v C : Value) (b : Bool) : Bool := decide (PySem.W.kitOne K v C = some b)
def kindsB (K : PySem.W.Frag) (C : Addr) : Bool := ["int", "tuple", "NoneType", "str", "list", "bool", "dict"].all fun t => kitB K (.type t) (.ref C) false && PySem.W.notFirst K C (.type t)
theorem kindsB_ok {C : Addr} (c : kindsB K C = true) : ∀ t ∈ ["int", "tuple", "NoneType", "str", "list", "bool", "dict"], PySem.W.kitOne K (.type t) (.ref C) = some false ∧ PySem.W.notFirst K C (.type t) = true := fun t ht => by
  obtain ⟨c1, c2⟩ := ba (List.all_eq_true.mp c t ht)
  exact ⟨of_decide_eq_true c1, c2⟩
def binB (K : PySem.W.Frag) (C : Addr) (nm : String) : Bool := PySem.W.selfFirst K C && ((match PySem.W.findIn K (.ref C) (dunderR nm) with
  | some none => true
  | some (some (.ref _)) => true
  | _ => false) && ((PySem.W.findIn K (.type "int") (PySem.dunder nm)).isSome && ((PySem.W.findIn K (.type "int") (dunderR nm)).isSome && decide (PySem.W.subIn K (.type "int") (.ref C) = some false))))
theorem binB_ok {C : Addr} {nm : String} (c : binB K C nm = true) : BinF K C nm := by
  obtain ⟨c1, c⟩ := ba c
  obtain ⟨c2, c⟩ := ba c
  obtain ⟨c3, c⟩ := ba c
  obtain ⟨c4, c5⟩ := ba c
  refine ⟨c1, ?_, Option.isSome_iff_exists.mp c3, Option.isSome_iff_exists.mp c4, of_decide_eq_true c5⟩
  match q : PySem.W.findIn K (.ref C) (dunderR nm), c2 with
  | some none, _ => exact ⟨_, rfl, .inl rfl⟩
  | some (some (.ref g)), _ => exact ⟨_, rfl, .inr ⟨g, rfl⟩⟩
/-! ### what the top has written -/
theorem funM {a : Addr} {nm qual : Str} {st : Stmt} (e : fv K a = some (nm, qual, defArgs st, .stmts (defBody st), defScope st)) (c : fdB K a qual [] = true) : ∃ fd, L2.Fun K nm qual st a fd := by
  obtain ⟨oc, od, dV, doc, pm, an, cdv, ct, osl, lk, hcd, hd, kp⟩ := fdB_ok e c
  rcases hd with ⟨_, hd⟩ | ⟨hd, _⟩
  · rw [hd] at lk
    exact ⟨_, L2.fun_mk lk hcd kp⟩
  · exact absurd rfl hd
theorem funDM {a : Addr} {nm qual : Str} {st : Stmt} {dvs : List V} (e : fv K a = some (nm, qual, defArgs st, .stmts (defBody st), defScope st)) (c : fdB K a qual dvs = true) : ∃ fd, FunD K nm qual (defArgs st) (defBody st) (defScope st) dvs [] a fd := by
  obtain ⟨oc, od, dV, doc, pm, an, cdv, ct, osl, lk, hcd, hd, kp⟩ := fdB_ok e c
  exact ⟨_, ⟨oc, od, dV, .none, doc, pm, an, cdv, ct, osl, rfl, lk, hcd, hd, .inl rfl⟩, kp⟩
theorem hasM0 (X : K.In h) (G : h.Ns mainGlobals mg) {x : Str} {st : Stmt} (e : fv K (ga K x) = some (x, x, defArgs st, .stmts (defBody st), defScope st)) (c : ((Fa.glo x).ok K && fdB K (ga K x) x []) = true) : Has K mg x st := by
  obtain ⟨c1, c2⟩ := ba c
  obtain ⟨fd, F⟩ := funM e c2
  exact ⟨_, fd, glo_ok X G c1, F⟩
theorem hasCM (X : K.In h) (G : h.Ns mainGlobals mg) {x : Str} {st : Stmt} (e : fv K (ga K x) = some (x, x, defArgs st, .stmts (defBody st), defScope st)) (c : ((Fa.glo x).ok K && fdB K (ga K x) x []) = true) : HasC K mg x st (cAt K (ga K x)) := by
  obtain ⟨c1, c2⟩ := ba c
  obtain ⟨oc, od, dV, doc, pm, an, cdv, ct, osl, lk, hcd, hd, kp⟩ := fdB_ok e c2
  obtain ⟨cda, l4⟩ := codeIn_ref hcd
  subst l4
  rcases hd with ⟨_, hd⟩ | ⟨hd, _⟩
  · rw [hd] at lk
    rw [cAt_eq lk rfl]
    exact ⟨_, oc, od, _, doc, pm, an, ct, osl, glo_ok X G c1, lk, hcd, kp⟩
  · exact absurd rfl hd
theorem hasMM {C : Addr} {m qual : Str} {st : Stmt} (e : fv K (ma K C m) = some (m, qual, defArgs st, .stmts (defBody st), defScope st)) (c : (fnB K C m && fdB K (ma K C m) qual []) = true) : HasM K C m qual st := by
  obtain ⟨c1, c2⟩ := ba c
  obtain ⟨c3, c4⟩ := ba c1
  obtain ⟨fd, F⟩ := funM e c2
  exact ⟨_, fd, eqO_ok c3, c4, F⟩
theorem hasDM {C : Addr} {m qual : Str} {st : Stmt} {dvs : List V} (e : fv K (ma K C m) = some (m, qual, defArgs st, .stmts (defBody st), defScope st)) (c : (fnB K C m && fdB K (ma K C m) qual dvs) = true) : HasD K C m qual st dvs [] := by
  obtain ⟨c1, c2⟩ := ba c
  obtain ⟨c3, c4⟩ := ba c1
  obtain ⟨fd, F⟩ := funDM e c2
  exact ⟨_, fd, eqO_ok c3, c4, F⟩
theorem hasSM {C : Addr} {m qual : Str} {st : Stmt} (e : fv K (sAt "staticmethod" K C m) = some (m, qual, defArgs st, .stmts (defBody st), defScope st)) (c : (statB K C m && fdB K (sAt "staticmethod" K C m) qual []) = true) : HasS K C m qual st := by
  obtain ⟨c1, c2⟩ := ba c
  obtain ⟨fd, F⟩ := funM e c2
  exact ⟨_, fd, statB_ok c1, F⟩
theorem hasCMM {C : Addr} {m qual : Str} {st : Stmt} (e : fv K (sAt "classmethod" K C m) = some (m, qual, defArgs st, .stmts (defBody st), defScope st)) (c : ((creadB K C && cmetB K C m) && fdB K (sAt "classmethod" K C m) qual []) = true) : HasCM K C m qual st := by
  obtain ⟨c1, c2⟩ := ba c
  obtain ⟨c3, c4⟩ := ba c1
  obtain ⟨fd, F⟩ := funM e c2
  obtain ⟨p, hp⟩ := cmetB_ok c4
  exact ⟨_, p, _, fd, creadB_ok c3, hp, F⟩
theorem tabFM {f : PySem.W.Frag → Addr} (X : K.In h) (c : SaysM fs fn tf h K) (i : Nat) (hi : tf[i]? = some f) : TabF K h (cAt K (f K), tabOf K (cAt K (f K))) := ⟨c.empty i f hi, c.out i f hi, PySem.W.codeHd_of_K X (c.hd i f hi)⟩
end
end My
/-! What runs does not touch a generator that sleeps: run it where the sleepers cannot be woken, and put them back. -/
namespace My
open PySem PySem.Spec PyProof.Rows L2 GenW
open Sem (wp)
/-- the same sleeper, but it cannot be woken -/
def killed : GenState → GenState
  | .suspended _ l c p fs cl => .suspended (fun _ => .unsupported "") l c p fs cl
  | x => x
/-- the frames hold no generator's -/
def NoG (fs : List Frame) : Prop := ∀ f ∈ fs, ∀ g k l c p, f ≠ .gen g k l c p
theorem NoG.nil : NoG [] := fun f h => by cases h
theorem NoG.app {a b : List Frame} (h : NoG a) (k : NoG b) : NoG (a ++ b) := fun f hf => by
  rcases List.mem_append.mp hf with z | z
  · exact h f z
  · exact k f z
theorem NoG.ret {k : Result → Sem PySem.Fin} {h g l c p kp} {fs : List Frame} (n : NoG fs) : NoG (.ret k h g l c p kp :: fs) := fun f hf => by
  rcases List.mem_cons.mp hf with z | z
  · rw [z]; intro _ _ _ _ _ w; cases w
  · exact n f z
theorem NoG.tail {f : Frame} {fs : List Frame} (n : NoG (f :: fs)) : NoG fs := fun x hx => n x (List.mem_cons_of_mem _ hx)
theorem NoG.split : ∀ {fs : List Frame}, NoG fs → splitAtGen fs = none
  | [], _ => rfl
  | .ret k h g l c p kp :: fs, n => by
    show (splitAtGen fs).map _ = none
    rw [NoG.split n.tail]; rfl
  | .gen g k l c p :: fs, n => absurd rfl (n _ List.mem_cons_self g k l c p)
theorem no_unsup0 {M : Model} {Γ : PySem.Ctx} {p : Pos} {w : String} {s s' : Shared} {e : End} (h : Runs M Γ p (.unsupported w) [] s e s') : False := by cases h
theorem no_unsup {M : Model} {Γ : PySem.Ctx} {p : Pos} {w : String} {fs : List Frame} {s s' : Shared} {e : End} (h : Runs M Γ p (.unsupported w) fs s e s') : False := by
  cases h with
  | segRet h1 _ => exact no_unsup0 h1
  | segGen h1 _ => exact no_unsup0 h1
  | segSuspOut _ h1 => exact no_unsup0 h1
  | segSuspGen _ h1 _ _ => exact no_unsup0 h1
/-- the sleepers of a table -/
def isSusp : GenState → Bool
  | .suspended .. => true
  | _ => false
/-- a mask: which places are kept, and what sleeps there -/
abbrev Mask := Nat → Option GenState
def putBack (m : Mask) (s : Shared) : Shared := { s with gens := s.gens.mapIdx fun i x => (m i).getD x }
structure Masked (m : Mask) (s : Shared) : Prop where
  at_ : ∀ i S, m i = some S → s.gens[i]? = some (killed S) ∧ isSusp S = true
  fr : ∀ (i : Nat) k l c p fs cl, m i = none → s.gens[i]? = some (.suspended k l c p fs cl) → NoG fs
theorem pb_get (m : Mask) (s : Shared) (i : Nat) : (putBack m s).gens[i]? = (s.gens[i]?).map fun x => (m i).getD x := by
  show (s.gens.mapIdx _)[i]? = _
  rw [Array.getElem?_mapIdx]
theorem pb_none {m : Mask} {s : Shared} {i : Nat} {x : GenState} (h : m i = none) (e : s.gens[i]? = some x) : (putBack m s).gens[i]? = some x := by
  rw [pb_get, e, h]; rfl
theorem pb_some {m : Mask} {s : Shared} {i : Nat} {S x : GenState} (h : m i = some S) (e : s.gens[i]? = some x) : (putBack m s).gens[i]? = some S := by
  rw [pb_get, e, h]; rfl
theorem pb_size (m : Mask) (s : Shared) : (putBack m s).gens.size = s.gens.size := by show (s.gens.mapIdx _).size = _; rw [Array.size_mapIdx]
theorem sh_ext {s t : Shared} (h1 : s.heap = t.heap) (h2 : s.drawn = t.drawn) (h3 : s.toks = t.toks) (h4 : s.os = t.os) (h5 : ∀ i : Nat, s.gens[i]? = t.gens[i]?) : s = t := by
  have e : s.gens = t.gens := Array.ext_getElem? h5
  cases s; cases t; simp_all
theorem pb_setGen {m : Mask} {s : Shared} {g : Nat} {x : GenState} (h : m g = none) : putBack m (s.setGen g x) = (putBack m s).setGen g x := by
  refine sh_ext rfl rfl rfl rfl fun i => ?_
  rw [pb_get]
  show ((s.gens.setIfInBounds g x)[i]?).map _ = ((putBack m s).gens.setIfInBounds g x)[i]?
  rw [Array.getElem?_setIfInBounds, Array.getElem?_setIfInBounds, pb_size, pb_get]
  by_cases z : g = i
  · subst z
    rw [if_pos rfl, if_pos rfl]
    by_cases hl : g < s.gens.size
    · rw [if_pos hl]; simp [h]
    · rw [if_neg hl]; rfl
  · rw [if_neg z, if_neg z]
theorem pb_push {m : Mask} {s : Shared} {x : GenState} (h : m s.gens.size = none) : putBack m { s with gens := s.gens.push x } = { putBack m s with gens := (putBack m s).gens.push x } := by
  refine sh_ext rfl rfl rfl rfl fun i => ?_
  rw [pb_get]
  show ((s.gens.push x)[i]?).map _ = ((putBack m s).gens.push x)[i]?
  rw [Array.getElem?_push, Array.getElem?_push, pb_size, pb_get]
  by_cases z : i = s.gens.size
  · subst z
    rw [if_pos rfl, if_pos rfl]; simp [h]
  · rw [if_neg z, if_neg z]
theorem Masked.size {m : Mask} {s : Shared} (j : Masked m s) : m s.gens.size = none := by
  cases e : m s.gens.size with
  | none => rfl
  | some S =>
    have := (j.at_ _ S e).1
    rw [Array.getElem?_eq_none (Nat.le_refl _)] at this
    cases this
theorem Masked.push {m : Mask} {s : Shared} {c : Code} (j : Masked m s) : Masked m { s with gens := s.gens.push (.fresh c) } := by
  refine ⟨fun i S e => ?_, fun i k l c' p fs cl e q => ?_⟩
  · obtain ⟨h1, h2⟩ := j.at_ i S e
    refine ⟨?_, h2⟩
    have hl : i < s.gens.size := by
      obtain ⟨z, _⟩ := Array.getElem?_eq_some_iff.mp h1; exact z
    show (s.gens.push _)[i]? = _
    rw [Array.getElem?_push, if_neg (Nat.ne_of_lt hl)]; exact h1
  · have q : (s.gens.push (.fresh c))[i]? = _ := q
    rw [Array.getElem?_push] at q
    split at q
    · cases q
    · exact j.fr i k l c' p fs cl e q
theorem Masked.set {m : Mask} {s : Shared} {g : Nat} {x : GenState} (j : Masked m s) (hg : m g = none) (hx : ∀ k l c p fs cl, x = .suspended k l c p fs cl → NoG fs) : Masked m (s.setGen g x) := by
  refine ⟨fun i S e => ?_, fun i k l c p fs cl e q => ?_⟩
  · obtain ⟨h1, h2⟩ := j.at_ i S e
    refine ⟨?_, h2⟩
    have ne : g ≠ i := fun z => by rw [← z, hg] at e; cases e
    show (s.gens.setIfInBounds g x)[i]? = _
    rw [Array.getElem?_setIfInBounds_ne ne]; exact h1
  · have q : (s.gens.setIfInBounds g x)[i]? = _ := q
    rw [Array.getElem?_setIfInBounds] at q
    split at q
    · split at q
      · cases q; exact hx _ _ _ _ _ _ rfl
      · cases q
    · exact j.fr i k l c p fs cl e q
theorem Masked.same {m : Mask} {s t : Shared} (j : Masked m s) (e : t.gens = s.gens) : Masked m t := ⟨fun i S h => by rw [e]; exact j.at_ i S h, fun i k l c p fs cl h q => by rw [e] at q; exact j.fr i k l c p fs cl h q⟩
theorem Masked.free {m : Mask} {s : Shared} {g : Nat} {x : GenState} (j : Masked m s) (e : s.gens[g]? = some x) (n : isSusp x = false) : m g = none := by
  cases h : m g with
  | none => rfl
  | some S =>
    obtain ⟨h1, h2⟩ := j.at_ g S h
    rw [e] at h1
    cases S <;> first | (cases h2; done) | (cases h1; cases n)
theorem killed_seen {S : GenState} : (killed S).seen = S.seen := by cases S <;> rfl
theorem pb_seen {m : Mask} {s : Shared} {g : Nat} {x : GenState} (j : Masked m s) (e : s.gens[g]? = some x) : ∃ y, (putBack m s).gens[g]? = some y ∧ y.seen = x.seen := by
  cases h : m g with
  | none => exact ⟨x, pb_none h e, rfl⟩
  | some S =>
    refine ⟨S, pb_some h e, ?_⟩
    have := (j.at_ g S h).1
    rw [e] at this; cases this
    exact killed_seen.symm
/-- the frames that an end leaves asleep hold no generator's -/
def EndNoG : End → Prop
  | .ret _ => True
  | .susp _ _ _ _ _ _ fs => NoG fs
theorem EndNoG.state {e : End} (h : EndNoG e) : ∀ k l c p fs cl, e.genState = .suspended k l c p fs cl → NoG fs := by
  intro k l c p fs cl q
  cases e with
  | ret r => cases q
  | susp v g l' k' c' p' fs' => cases q; exact h
theorem runs_masked {M : Model} {m : Mask} {Γ : PySem.Ctx} {p : Pos} {t : Sem PySem.Fin} {fs : List Frame} {s s' : Shared} {e : End} (h : Runs M Γ p t fs s e s') :
    NoG fs → Masked m s → Masked m s' ∧ EndNoG e ∧ Runs M Γ p t fs (putBack m s) e (putBack m s') := by
  induction h with
  | done => intro _ j; exact ⟨j, trivial, .done⟩
  | raise => intro _ j; exact ⟨j, trivial, .raise⟩
  | again hq _ ih => intro _ j; obtain ⟨a, b, c⟩ := ih .nil j; exact ⟨a, b, .again hq c⟩
  | rule _ ih => intro _ j; obtain ⟨a, b, c⟩ := ih .nil j; exact ⟨a, b, .rule c⟩
  | «at» _ ih => intro _ j; obtain ⟨a, b, c⟩ := ih .nil j; exact ⟨a, b, .at c⟩
  | load ho _ ih => intro _ j; obtain ⟨a, b, c⟩ := ih .nil j; exact ⟨a, b, .load ho c⟩
  | update ha _ ih => intro _ j; obtain ⟨a, b, c⟩ := ih .nil (j.same rfl); exact ⟨a, b, .update ha c⟩
  | loadIfAlive _ ih => intro _ j; obtain ⟨a, b, c⟩ := ih .nil j; exact ⟨a, b, .loadIfAlive c⟩
  | point _ ih => intro _ j; obtain ⟨a, b, c⟩ := ih .nil j; exact ⟨a, b, .point c⟩
  | alloc _ ih => intro _ j; obtain ⟨a, b, c⟩ := ih .nil (j.same rfl); exact ⟨a, b, .alloc c⟩
  | fresh _ ih => intro _ j; obtain ⟨a, b, c⟩ := ih .nil (j.same rfl); exact ⟨a, b, .fresh c⟩
  | ask _ ih => intro _ j; obtain ⟨a, b, c⟩ := ih .nil j; exact ⟨a, b, .ask c⟩
  | choose hn _ ih => intro _ j; obtain ⟨a, b, c⟩ := ih .nil (j.same rfl); exact ⟨a, b, .choose hn c⟩
  | os _ ih => intro _ j; obtain ⟨a, b, c⟩ := ih .nil (j.same rfl); exact ⟨a, b, .os c⟩
  | handled _ ih => intro _ j; obtain ⟨a, b, c⟩ := ih .nil j; exact ⟨a, b, .handled c⟩
  | genState hg _ ih =>
    intro _ j
    obtain ⟨a, b, c⟩ := ih .nil j
    obtain ⟨y, hy, hs⟩ := pb_seen j hg
    exact ⟨a, b, .genState hy (by rw [hs]; exact c)⟩
  | stack _ ih => intro _ j; obtain ⟨a, b, c⟩ := ih .nil j; exact ⟨a, b, .stack c⟩
  | thread _ ih => intro _ j; obtain ⟨a, b, c⟩ := ih .nil j; exact ⟨a, b, .thread c⟩
  | newGen _ ih =>
    intro _ j
    obtain ⟨a, b, c⟩ := ih .nil j.push
    rw [pb_push j.size] at c
    exact ⟨a, b, .newGen (by rw [pb_size]; exact c)⟩
  | call _ _ ih1 ih2 =>
    intro _ j
    obtain ⟨a1, _, c1⟩ := ih1 .nil j
    obtain ⟨a2, b2, c2⟩ := ih2 .nil a1
    exact ⟨a2, b2, .call c1 c2⟩
  | callSusp _ ih =>
    intro _ j
    obtain ⟨a, b, c⟩ := ih .nil j
    exact ⟨a, NoG.app b (NoG.ret .nil), .callSusp c⟩
  | «yield» => intro _ j; exact ⟨j, .nil, .yield⟩
  | resumeFresh hg _ hq _ ih1 ih2 =>
    intro _ j
    have hm := j.free hg rfl
    obtain ⟨a1, b1, c1⟩ := ih1 .nil (j.set hm fun _ _ _ _ _ _ (z : GenState.running = _) => GenState.noConfusion z)
    rw [pb_setGen hm] at c1
    obtain ⟨a2, b2, c2⟩ := ih2 .nil (a1.set hm b1.state)
    rw [pb_setGen hm] at c2
    exact ⟨a2, b2, .resumeFresh (pb_none hm hg) c1 hq c2⟩
  | @resumeSuspended _ _ g _ _ _ _ _ _ _ _ _ _ _ _ _ _ hg hr hq _ ih1 ih2 =>
    intro _ j
    cases hm : m g with
    | some S =>
      obtain ⟨h1, h2⟩ := j.at_ g S hm
      rw [hg] at h1
      cases S with
      | suspended k l c p fs cl =>
        have h1 := Option.some.inj h1
        unfold killed at h1
        cases h1
        exact (no_unsup hr).elim
      | _ => cases h2
    | none =>
      have nf := j.fr g _ _ _ _ _ _ hm hg
      obtain ⟨a1, b1, c1⟩ := ih1 nf (j.set hm fun _ _ _ _ _ _ (z : GenState.running = _) => GenState.noConfusion z)
      rw [pb_setGen hm] at c1
      obtain ⟨a2, b2, c2⟩ := ih2 .nil (a1.set hm b1.state)
      rw [pb_setGen hm] at c2
      exact ⟨a2, b2, .resumeSuspended (pb_none hm hg) c1 hq c2⟩
  | resumeJustStarted hg hv _ ih =>
    intro _ j
    obtain ⟨a, b, c⟩ := ih .nil j
    exact ⟨a, b, .resumeJustStarted (pb_none (j.free hg rfl) hg) hv c⟩
  | resumeThrowFresh hg _ ih =>
    intro _ j
    have hm := j.free hg rfl
    obtain ⟨a, b, c⟩ := ih .nil (j.set hm fun _ _ _ _ _ _ (z : GenState.finished = _) => GenState.noConfusion z)
    rw [pb_setGen hm] at c
    exact ⟨a, b, .resumeThrowFresh (pb_none hm hg) c⟩
  | resumeRunning hg _ ih =>
    intro _ j
    obtain ⟨a, b, c⟩ := ih .nil j
    exact ⟨a, b, .resumeRunning (pb_none (j.free hg rfl) hg) c⟩
  | resumeFinished hg _ ih =>
    intro _ j
    obtain ⟨a, b, c⟩ := ih .nil j
    exact ⟨a, b, .resumeFinished (pb_none (j.free hg rfl) hg) c⟩
  | segRet _ _ ih1 ih2 =>
    intro n j
    obtain ⟨a1, _, c1⟩ := ih1 .nil j
    obtain ⟨a2, b2, c2⟩ := ih2 n.tail a1
    exact ⟨a2, b2, .segRet c1 c2⟩
  | segGen _ _ _ _ => intro n _; exact absurd rfl (n _ List.mem_cons_self _ _ _ _ _)
  | segSuspOut hs _ ih =>
    intro n j
    obtain ⟨a, b, c⟩ := ih .nil j
    exact ⟨a, NoG.app b n, .segSuspOut hs c⟩
  | segSuspGen hs _ _ _ _ _ => intro n _; rw [n.split] at hs; cases hs
theorem wakes_masked {M : Model} {m : Mask} {Γ : PySem.Ctx} {p : Pos} {g : Nat} {r : Resume} {s s' : Shared} {res : GenResult} (h : Wakes M Γ p g r s res s') (j : Masked m s) : Masked m s' ∧ Wakes M Γ p g r (putBack m s) res (putBack m s') := by
  unfold Wakes at h
  cases hg : s.gens[g]? with
  | none => simp only [hg] at h
  | some gs =>
    simp only [hg] at h
    cases gs with
    | fresh c =>
      have hm := j.free hg rfl
      have e := pb_none hm hg
      cases r with
      | send v =>
        by_cases hv : v = .none
        · subst hv
          obtain ⟨e₁, s₁, h1, hq, hr, hs⟩ := h
          obtain ⟨a1, b1, c1⟩ := runs_masked h1 .nil (j.set hm fun _ _ _ _ _ _ (z : GenState.running = _) => GenState.noConfusion z)
          rw [pb_setGen hm] at c1
          subst hs
          refine ⟨a1.set hm b1.state, ?_⟩
          unfold Wakes
          rw [e]
          exact ⟨e₁, _, c1, hq, hr, pb_setGen hm⟩
        · have h : res = .justStarted ∧ s' = s := by cases v <;> first | exact absurd rfl hv | exact h
          obtain ⟨rfl, rfl⟩ := h
          exact ⟨j, Sem.wakes_justStarted M Γ e hv⟩
      | throw x =>
        obtain ⟨rfl, rfl⟩ := h
        refine ⟨j.set hm (fun _ _ _ _ _ _ (z : GenState.finished = _) => GenState.noConfusion z), ?_⟩
        unfold Wakes; rw [e]; exact ⟨rfl, pb_setGen hm⟩
    | suspended k₀ l₀ c₀ p₀ fs cl =>
      obtain ⟨e₁, s₁, h1, hq, hr, hs⟩ := h
      cases hm : m g with
      | some S =>
        obtain ⟨h1', h2⟩ := j.at_ g S hm
        rw [hg] at h1'
        cases S with
        | suspended k l c p fs cl =>
          have h1' := Option.some.inj h1'
          unfold killed at h1'
          cases h1'
          exact (no_unsup h1).elim
        | _ => cases h2
      | none =>
        obtain ⟨a1, b1, c1⟩ := runs_masked h1 (j.fr g _ _ _ _ _ _ hm hg) (j.set hm fun _ _ _ _ _ _ (z : GenState.running = _) => GenState.noConfusion z)
        rw [pb_setGen hm] at c1
        subst hs
        refine ⟨a1.set hm b1.state, ?_⟩
        unfold Wakes
        rw [pb_none hm hg]
        exact ⟨e₁, _, c1, hq, hr, pb_setGen hm⟩
    | running =>
      obtain ⟨rfl, rfl⟩ := h
      refine ⟨j, ?_⟩
      unfold Wakes; rw [pb_none (j.free hg rfl) hg]; exact ⟨rfl, rfl⟩
    | finished =>
      obtain ⟨rfl, rfl⟩ := h
      refine ⟨j, ?_⟩
      unfold Wakes; rw [pb_none (j.free hg rfl) hg]; exact ⟨rfl, rfl⟩
theorem wp_masked {α : Type} (M : Model) (m : Mask) (Γ : PySem.Ctx) (t : Sem α) : ∀ (Q : α → Pos → Shared → Prop) (E : Value → Pos → Shared → Prop) (p : Pos) (s : Shared), Masked m s → wp M Γ t Q E p s →
    wp M Γ t (fun a p' s' => ∃ s1, s' = putBack m s1 ∧ Masked m s1 ∧ Q a p' s1) (fun e p' s' => ∃ s1, s' = putBack m s1 ∧ Masked m s1 ∧ E e p' s1) p (putBack m s) := by
  induction t with
  | pure a => intro Q E p s j h; exact ⟨s, rfl, j, h⟩
  | raise e => intro Q E p s j h; exact ⟨s, rfl, j, h⟩
  | unsupported _ => intro Q E p s _ h; exact h
  | finish _ => intro Q E p s _ h; exact h
  | rule _ k ih => intro Q E p s j h; exact ih () Q E p s j h
  | «at» p' k ih => intro Q E p s j h; exact ih () Q E p' s j h
  | load a _ k ih => intro Q E p s j h; obtain ⟨o, ho, h⟩ := h; exact ⟨o, ho, ih o Q E p s j h⟩
  | update a _ f k ih => intro Q E p s j h; exact ⟨h.1, ih () Q E p { s with heap := s.heap.update a f } (j.same rfl) h.2⟩
  | loadIfAlive a k ih => intro Q E p s j h; exact ih _ Q E p s j h
  | point _ k ih => intro Q E p s j h; exact ih () Q E p s j h
  | register _ _ => intro Q E p s _ h; exact h
  | alloc o k ih => intro Q E p s j h; exact ih _ Q E p { s with heap := s.heap.push o } (j.same rfl) h
  | fresh k ih => intro Q E p s j h; exact ih _ Q E p { s with toks := s.toks + 1 } (j.same rfl) h
  | ask k ih => intro Q E p s j h; exact ih _ Q E p s j h
  | choose src n k ih => intro Q E p s j h; exact ⟨h.1, ih _ Q E p { s with drawn := s.drawn.bump src } (j.same rfl) h.2⟩
  | os q _ k ih => intro Q E p s j h; exact ih _ Q E p { s with os := (Os.step s.os q).1 } (j.same rfl) h
  | call c hd _ _ k ih =>
    intro Q E p s j h
    obtain ⟨r, s', hr, h⟩ := h
    obtain ⟨a, _, c⟩ := runs_masked hr .nil j
    exact ⟨r, putBack m s', c, ih r Q E p s' a h⟩
  | handled own k ih => intro Q E p s j h; exact ih _ Q E p s j h
  | genState g k ih =>
    intro Q E p s j h
    obtain ⟨st, hs, h⟩ := h
    obtain ⟨y, hy, e⟩ := pb_seen j hs
    refine ⟨y, hy, ?_⟩
    rw [e]
    exact ih _ Q E p s j h
  | newGen c k ih =>
    intro Q E p s j h
    have z := ih _ Q E p { s with gens := s.gens.push (.fresh c) } j.push h
    rw [pb_push j.size] at z
    show wp M Γ (k (putBack m s).gens.size) _ _ p _
    rw [pb_size]
    exact z
  | resume g r _ k ih =>
    intro Q E p s j h
    obtain ⟨res, s', hw, h⟩ := h
    obtain ⟨a, b⟩ := wakes_masked hw j
    exact ⟨res, putBack m s', b, ih res Q E p s' a h⟩
  | yield _ _ _ _ => intro Q E p s _ h; exact h
  | stack k ih => intro Q E p s j h; exact ih _ Q E p s j h
  | fork _ _ => intro Q E p s _ h; exact h
  | thread k ih => intro Q E p s j h; exact ih _ Q E p s j h
  | await _ _ _ _ _ => intro Q E p s _ h; exact h
/-- the sleepers of s, where they stand -/
def maskOf (s : Shared) : Mask := fun i => match s.gens[i]? with
  | some (.suspended k l c p fs cl) => some (.suspended k l c p fs cl)
  | _ => none
/-- s with its sleepers killed -/
def lulled (s : Shared) : Shared := { s with gens := s.gens.map killed }
theorem lulled_get (s : Shared) (i : Nat) : (lulled s).gens[i]? = (s.gens[i]?).map killed := by show (s.gens.map killed)[i]? = _; rw [Array.getElem?_map]
theorem lulled_masked (s : Shared) : Masked (maskOf s) (lulled s) := by
  refine ⟨fun i S e => ?_, fun i k l c p fs cl e q => ?_⟩
  · unfold maskOf at e
    rw [lulled_get]
    split at e
    · rename_i hq; rw [hq]; cases e; exact ⟨rfl, rfl⟩
    · cases e
  · rw [lulled_get] at q
    unfold maskOf at e
    split at e
    · cases e
    · rename_i hn
      cases hs : s.gens[i]? with
      | none => rw [hs] at q; cases q
      | some x =>
        rw [hs] at q
        cases x with
        | suspended k l c p fs cl => exact absurd hs (hn _ _ _ _ _ _)
        | _ => cases q
theorem putBack_lulled (s : Shared) : putBack (maskOf s) (lulled s) = s := by
  refine sh_ext rfl rfl rfl rfl fun i => ?_
  rw [pb_get, lulled_get]
  unfold maskOf
  cases hs : s.gens[i]? with
  | none => rfl
  | some x => cases x <;> rfl
theorem killed_bare (x : GenState) : (killed x).bare = x.bare := by cases x <;> rfl
theorem lulled_bare {s : Shared} (h : AllBare s.gens) : AllBare (lulled s).gens := fun y hy => by
  obtain ⟨x, hx, e⟩ := Array.mem_map.mp hy
  rw [← e, killed_bare]
  exact h x hx
/-- behind it: the sleepers stand as they stood -/
structure Kept (s s1 s' : Shared) : Prop where
  heap : s'.heap = s1.heap
  os : s'.os = s1.os
  bare : AllBare s.gens → AllBare s1.gens → AllBare s'.gens
  gens : ∀ (g : Nat) S, s.gens[g]? = some S → isSusp S = true → s'.gens[g]? = some S
theorem kept_of {s s1 : Shared} (j : Masked (maskOf s) s1) : Kept s s1 (putBack (maskOf s) s1) where
  heap := rfl
  os := rfl
  bare := fun h h1 y hy => by
    obtain ⟨i, hi, e⟩ := Array.mem_iff_getElem.mp hy
    have q : (putBack (maskOf s) s1).gens[i]? = some y := by rw [Array.getElem?_eq_getElem hi, e]
    rw [pb_get] at q
    cases hx : s1.gens[i]? with
    | none => rw [hx] at q; cases q
    | some x =>
      rw [hx] at q
      cases hm : maskOf s i with
      | none => rw [hm] at q; cases q; exact h1 _ (Array.mem_of_getElem? hx)
      | some S =>
        rw [hm] at q; cases q
        unfold maskOf at hm
        split at hm
        · rename_i hq; cases hm; exact h _ (Array.mem_of_getElem? hq)
        · cases hm
  gens := fun g S e hS => by
    have hm : maskOf s g = some S := by
      unfold maskOf; rw [e]
      cases S <;> first | rfl | cases hS
    exact pb_some hm (j.at_ g S hm).1
/-- THE RULE: run where the sleepers cannot be woken -/
theorem wpAny_asleep {α : Type} {M : Model} {A : Around} {s : Shared} {t : Sem α} {Q : α → Shared → Prop} {E : Value → Shared → Prop} (h : wpAny M A t Q E (lulled s)) :
    wpAny M A t (fun a s' => ∃ s1, Kept s s1 s' ∧ Q a s1) (fun e s' => ∃ s1, Kept s s1 s' ∧ E e s1) s := by
  intro Γ p hΓ
  have z := wp_masked M (maskOf s) Γ t (fun a _ s' => Q a s') (fun e _ s' => E e s') p (lulled s) (lulled_masked s) (h Γ p hΓ)
  rw [putBack_lulled] at z
  refine Sem.wp_mono M Γ t (fun a p' s' ⟨s1, e, j, q⟩ => ?_) (fun a p' s' ⟨s1, e, j, q⟩ => ?_) p s z
  · subst e; exact ⟨s1, kept_of j, q⟩
  · subst e; exact ⟨s1, kept_of j, q⟩
theorem Inv.lulled {X : Cx} {pins : List (Addr × Obj)} {σ : L2.St} {H : Hp} {s : Shared} (I : Inv X pins σ H s) : Inv X pins σ H (lulled s) :=
  ⟨I.ok, I.os, lulled_bare I.bare, I.base, I.loc, I.cell, I.free, I.freeC, I.pin, I.hok, I.len⟩
theorem Inv.awake {X : Cx} {pins : List (Addr × Obj)} {σ : L2.St} {H : Hp} {s s1 s' : Shared} (I : Inv X pins σ H s1) (k : Kept s s1 s') (hb : AllBare s.gens) : Inv X pins σ H s' := by
  obtain ⟨a, b, c, d, e, f, g, h, i, j, l⟩ := I
  exact ⟨a, k.os.trans b, k.bare hb c, k.heap ▸ d, k.heap ▸ e, k.heap ▸ f, g, h, fun p hp => k.heap ▸ i p hp, k.heap ▸ j, l⟩
end My
/-! One stretch of a generator's run, from a wake to its next sleep or its end. -/
namespace My
open PySem PySem.Spec PyProof.Rows L2 GenW
open Sem (wp)
/-- one stretch: it ends, and the end is as told -/
def Seg1 (M : Model) (A : Around) (F : End → Shared → Prop) (c : Code) (t : Sem PySem.Fin) (fs : List Frame) (s : Shared) : Prop :=
  ∀ Γ p, Γ.code = c → Γ.Woken A → ∃ e s', Runs M Γ p t fs s e s' ∧ F e s'
section
variable {M : Model} {A : Around} {F : End → Shared → Prop} {c : Code} {fs : List Frame} {s : Shared}
theorem seg1_wrap {α : Type} {m : Sem α} {K : α → Sem PySem.Fin} {H : Value → Sem PySem.Fin} {gd lv}
    (h : wpAny M (A.over c fs) m (fun a s' => Seg1 M A F c (K a) fs s') (fun x s' => Seg1 M A F c (H x) fs s') s) : Seg1 M A F c (m.wrap K H gd lv) fs s := by
  rintro Γ p rfl hΓ
  exact runs_wrap_of_wp K H gd lv m (h (Γ.over fs) p (hΓ.over fs)) (fun a p' s' h' => h' Γ p' rfl hΓ) (fun x p' s' h' => h' Γ p' rfl hΓ)
theorem seg1_bind {α : Type} {m : Sem α} {K : α → Sem PySem.Fin}
    (h : wpAny M (A.over c fs) m (fun a s' => Seg1 M A F c (K a) fs s') (fun x s' => Seg1 M A F c (.raise x) fs s') s) : Seg1 M A F c (m >>= K) fs s := by
  rw [Sem.bind_eq_wrap']; exact seg1_wrap h
theorem seg1_at {p' : Pos} {k : Unit → Sem PySem.Fin} (h : Seg1 M A F c (k ()) fs s) : Seg1 M A F c (.at p' k) fs s :=
  seg1_wrap (m := standAt p') (K := k) (H := .raise) (gd := id) (lv := id) (wpAny_standAt h)
theorem seg1_point {l : List Value} {k : Unit → Sem PySem.Fin} (h : Seg1 M A F c (k ()) fs s) : Seg1 M A F c (.point l k) fs s :=
  seg1_wrap (m := point) (K := k) (H := .raise) (gd := id) (lv := fun _ => l) (wpAny_point h)
theorem seg1_call {c' : Code} {h g l} {k : Result → Sem PySem.Fin} (hc : ∀ p, Seg1 M A F c' (M.den c') (.ret k h g l c p [] :: fs) s) : Seg1 M A F c (.call c' h g l k) fs s := by
  rintro Γ p rfl hΓ
  obtain ⟨e, s', hr, he⟩ := hc p (Γ.goto c') p rfl (hΓ.goto c')
  exact ⟨e, s', runs_call_seg hr, he⟩
theorem seg1_leaf {k h g l c₁ p₁ kp} (r : Result) (hk : Seg1 M A F c₁ (k r) fs s) : Seg1 M A F c (leafOf r) (.ret k h g l c₁ p₁ kp :: fs) s := by
  rintro Γ p rfl hΓ
  obtain ⟨e, s', hr, he⟩ := hk (Γ.goto c₁) p₁ rfl (hΓ.goto c₁)
  exact ⟨e, s', Runs.pop r hr, he⟩
theorem seg1_again {c' : Code} (hq : c'.quiet = true) (hc : Seg1 M A F c' (M.den c') fs s) : Seg1 M A F c (.pure (.again c')) fs s := by
  rintro Γ p rfl hΓ
  obtain ⟨e, s', hr, he⟩ := hc (Γ.goto c') p rfl (hΓ.goto c')
  exact ⟨e, s', Runs.head (c₁ := c') (fun _ _ x => .again hq x) hr, he⟩
theorem seg1_end (r : Result) (h : F (.ret r) s) : Seg1 M A F c (leafOf r) [] s := by
  rintro Γ p rfl _
  exact ⟨.ret r, s, Runs.leaf r, h⟩
theorem seg1_yield {v g l} {k : Resume → Sem PySem.Fin} (hfs : splitAtGen fs = none) (h : ∀ p, F (.susp v g l k c p fs) s) : Seg1 M A F c (.yield v g l k) fs s := by
  rintro Γ p rfl _
  exact ⟨_, s, Runs.yield' fs hfs, h p⟩
theorem seg1_execs_nil {env : Env} {K : Flow → Sem PySem.Fin} {H : Value → Sem PySem.Fin} {gd : Bool → Bool} {lv : List Value → List Value} (h : Seg1 M A F c (K .next) fs s) : Seg1 M A F c ((execs [] env).wrap K H gd lv) fs s := h
theorem seg1_execs_cons {env : Env} {K : Flow → Sem PySem.Fin} {H : Value → Sem PySem.Fin} {gd : Bool → Bool} {lv : List Value → List Value} {st : Stmt} {rest : List Stmt}
    (h : Seg1 M A F c ((exec st env).wrap (fun f => match f with | .next => (execs rest env).wrap K H gd lv | f => K f) H gd lv) fs s) : Seg1 M A F c ((execs (st :: rest) env).wrap K H gd lv) fs s := by rw [execs_cons_wrap]; exact h
theorem seg1_Expr_Yield {env : Env} {K : Flow → Sem PySem.Fin} {H : Value → Sem PySem.Fin} {gd : Bool → Bool} {lv : List Value → List Value} {e : Expr} {ypos pos : Pos} (hfs : splitAtGen fs = none)
    (h : wpAny M (A.over c fs) (eval e env) (fun v s' => ∀ l (k : Resume → Sem PySem.Fin), (∀ s'' F', Seg1 M A F' c (K .next) fs s'' → Seg1 M A F' c (k (.send .none)) fs s'') → ∀ p, F (.susp v (gd false) l k c p fs) s')
      (fun x s' => Seg1 M A F c (H x) fs s') s) (hco : env.scope.isCoroutine = false := by rfl) (hi : interactive env = false := by rfl) :
    Seg1 M A F c ((exec (.Expr (.Yield (some e) ypos) pos) env).wrap K H gd lv) fs s := by
  rw [exec_Expr env _ pos hi rfl]
  show Seg1 M A F c (.at pos fun _ => ((eval e env >>= fun v => (standAt ypos >>= fun _ => yieldOut env v)) >>= fun x => dropValue (.Yield (some e) ypos) pos x).wrap K H gd lv) fs s
  have hy : ∀ v, yieldOut env v = yieldValue v := fun v => by simp only [yieldOut, hco, Bool.false_eq_true, if_false]
  simp only [hy]
  refine seg1_at ?_
  rw [Sem.bind_eq_wrap', Sem.bind_eq_wrap', Sem.wrap_wrap, Sem.wrap_wrap]
  refine seg1_wrap (wpAny_mono h (fun v s' h' => ?_) fun _ _ x => x)
  refine seg1_at (seg1_yield hfs ?_)
  refine h' _ _ fun s'' F' hx => ?_
  exact hx
theorem seg1_For {tg iter : Expr} {body : List Stmt} {pos : Pos} {env : Env} {K : Flow → Sem PySem.Fin} {H : Value → Sem PySem.Fin} {gd : Bool → Bool} {lv : List Value → List Value} (hs : ∀ x, foldedSetIterable iter env x = pure x)
    (h : wpAny M (A.over c fs) (eval iter env) (fun x s1 => wpAny M (A.over c fs) (pyIter x) (fun it s2 => ∀ p, Seg1 M A F (.forLoop tg it body [] env) (M.den (.forLoop tg it body [] env))
      (.ret (fun r => ((match r with | .ok f => (.pure f : Sem Flow) | .error e => .raise e).onRaise (cameBack env)).wrap K H gd lv) none (gd false) (lv []) c p [] :: fs) s2) (fun x s' => Seg1 M A F c (H x) fs s') s1)
      (fun x s' => Seg1 M A F c (H x) fs s') s) : Seg1 M A F c ((exec (.For tg iter body [] pos) env).wrap K H gd lv) fs s := by
  have e0 : (exec (.For tg iter body [] pos) env).wrap K H gd lv = (standAt pos).wrap (fun _ => (eval iter env).wrap (fun v => (foldedSetIterable iter env v).wrap (fun x => (standAt iter.pos).wrap (fun _ => (holding [x] (pyIter x)).wrap (fun it => (runOwn (.forLoop tg it body [] env) env).wrap K H gd lv) H gd lv) H gd lv) H gd lv) H gd lv) H gd lv := by
    rw [exec_For]
    simp only [Sem.bind_eq_wrap', Sem.wrap_wrap, id]
    rfl
  rw [e0]
  refine seg1_wrap (wpAny_standAt (seg1_wrap (wpAny_mono h (fun x s1 h1 => ?_) fun _ _ z => z)))
  rw [hs x]
  show Seg1 M A F c ((standAt iter.pos).wrap _ H gd lv) fs s1
  refine seg1_wrap (wpAny_standAt (seg1_wrap (wpAny_holding (wpAny_mono h1 (fun it s2 h2 => ?_) fun _ _ z => z))))
  exact seg1_call h2
end
section
variable {prog : Program} {w : World} {A : Around} {F : End → Shared → Prop} {fs : List Frame} {s : Shared} {env : Env}
theorem seg1_forLoop {tg : Expr} {it : Value} {body : List Stmt}
    (h : wpAny (model prog w) (A.over (.forLoop tg it body [] env) fs) (pyNext it) (fun r s' => match r with
        | none => Seg1 (model prog w) A F (.block [] env) ((model prog w).den (.block [] env)) fs s'
        | some v => wpAny (model prog w) (A.over (.forLoop tg it body [] env) fs) (letOwnedTupleGo tg it v) (fun _ s1 => wpAny (model prog w) (A.over (.forLoop tg it body [] env) fs) (assign tg env v) (fun _ s2 =>
            Seg1 (model prog w) A F (.forLoop tg it body [] env) ((execs body env).wrap (fun f => match f with
              | .next | .cont => .pure (.again (.forLoop tg it body [] env))
              | .brk => .pure (.done .next)
              | .ret v => .pure (.done (.ret v))) (fun e => (do noteFrame e env; theTreesLotGoes e : Sem Unit).wrap (fun _ => .raise e) .raise id id) id id) fs s2)
              (fun x s' => Seg1 (model prog w) A F (.forLoop tg it body [] env) ((do noteFrame x env; theTreesLotGoes x : Sem Unit).wrap (fun _ => .raise x) .raise id id) fs s') s1)
            (fun x s' => Seg1 (model prog w) A F (.forLoop tg it body [] env) ((do noteFrame x env; theTreesLotGoes x : Sem Unit).wrap (fun _ => .raise x) .raise id id) fs s') s')
      (fun x s' => Seg1 (model prog w) A F (.forLoop tg it body [] env) ((do noteFrame x env; theTreesLotGoes x : Sem Unit).wrap (fun _ => .raise x) .raise id id) fs s') s) :
    Seg1 (model prog w) A F (.forLoop tg it body [] env) ((model prog w).den (.forLoop tg it body [] env)) fs s := by
  show Seg1 _ A F _ ((forTurn tg it body [] env).onRaise (fun x => do noteFrame x env; theTreesLotGoes x)) fs s
  unfold forTurn
  rw [Sem.onRaise_eq_wrap, Sem.bind_eq_wrap', Sem.wrap_wrap]
  refine seg1_wrap (wpAny_standAt ?_)
  rw [Sem.bind_eq_wrap', Sem.wrap_wrap]
  refine seg1_wrap (wpAny_onRaise (wpAny_mono h (fun r s' hr => ?_) fun x s' hx => wpAny_standAt ?_))
  · cases r with
    | none => exact seg1_again rfl hr
    | some v =>
      show Seg1 _ A F _ (Sem.wrap _ _ _ _ (letOwnedTupleGo tg it v >>= fun _ => assign tg env v >>= fun _ => execs body env >>= fun f => _)) fs s'
      rw [Sem.bind_eq_wrap', Sem.wrap_wrap]
      refine seg1_wrap (wpAny_mono hr (fun _ s1 h1 => ?_) fun x s1 hx => ?_)
      · rw [Sem.bind_eq_wrap', Sem.wrap_wrap]
        refine seg1_wrap (wpAny_mono h1 (fun _ s2 h2 => ?_) fun x s2 hx => ?_)
        · rw [Sem.bind_eq_wrap', Sem.wrap_wrap]
          rw [Sem.wrap_congr (execs body env) _ _ (K' := fun f => match f with
              | .next | .cont => .pure (.again (.forLoop tg it body [] env))
              | .brk => .pure (.done .next)
              | .ret v => .pure (.done (.ret v))) (H' := (fun e => (do noteFrame e env; theTreesLotGoes e : Sem Unit).wrap (fun _ => .raise e) .raise id id))
            (fun f => by cases f <;> rfl)
            (fun e => by first | exact Sem.bind_eq_wrap _ _ | (show (do noteFrame e env; theTreesLotGoes e : Sem Unit).bind (fun _ => .raise e) = _; rw [Sem.bind_eq_wrap]))]
          exact h2
        · show Seg1 _ A F _ ((do noteFrame x env; theTreesLotGoes x : Sem Unit).bind fun _ => .raise x) fs s2
          rw [Sem.bind_eq_wrap]; exact hx
      · show Seg1 _ A F _ ((do noteFrame x env; theTreesLotGoes x : Sem Unit).bind fun _ => .raise x) fs s1
        rw [Sem.bind_eq_wrap]; exact hx
  · show Seg1 _ A F _ ((do noteFrame x env; theTreesLotGoes x : Sem Unit).bind fun _ => .raise x) fs s'
    rw [Sem.bind_eq_wrap]; exact hx
theorem seg1_func {body : List Stmt}
    (h : Seg1 (model prog w) A F (.func body env) ((execs body env).wrap (fun f => .pure (.done (.ret (match f with | .ret v => v | _ => .none))))
      (fun e => (leaving env e).wrap (fun _ => .raise e) .raise id id) id id) fs s) :
    Seg1 (model prog w) A F (.func body env) ((model prog w).den (.func body env)) fs s := by
  show Seg1 _ A F _ (.point [] fun _ => ((execs body env).onRaise (leaving env)) >>= _) fs s
  refine seg1_point ?_
  rw [Sem.onRaise_eq_wrap, Sem.bind_eq_wrap', Sem.wrap_wrap]
  rw [Sem.wrap_congr (execs body env) _ _ (K' := fun f => .pure (.done (.ret (match f with | .ret v => v | _ => .none))))
    (H' := fun e => (leaving env e).wrap (fun _ => .raise e) .raise id id) (fun f => by cases f <;> rfl)
    (fun e => by rw [Sem.bind_eq_wrap, Sem.wrap_wrap]; rfl)]
  exact h
end
/-- what a state does when it is woken by next -/
def Wake1 (M : Model) (A : Around) (F : End → Shared → Prop) (gs : GenState) (s : Shared) : Prop :=
  match gs with
  | .fresh c => Seg1 M A F c (M.den c) [] s
  | .suspended k _ c _ fs _ => Seg1 M A F c (k (.send .none)) fs s
  | _ => False
theorem wpAny_resume1 {M : Model} {A : Around} {F : End → Shared → Prop} {E : Value → Shared → Prop} {s : Shared} {g : Nat} {gs : GenState} {l : List Value} {α : Type} {k : GenResult → Sem α} {Q : α → Shared → Prop} (hg : s.gens[g]? = some gs)
    (hgo : Wake1 M A F gs (s.setGen g .running)) (hF : ∀ e s₁, s.gens.size ≤ s₁.gens.size → F e s₁ → e.quiet = true ∧ wpAny M A (k e.result) Q E (s₁.setGen g e.genState)) :
    wpAny M A (.resume g (.send .none) l k) Q E s := by
  intro Γ p hΓ
  rw [Sem.wp_resume]
  have hB : ∀ c, (Γ.wake c p).Woken A := fun c => hΓ.wake c p
  cases gs with
  | fresh c =>
    obtain ⟨e₁, s₁, hr, he⟩ := hgo (Γ.wake c p) p rfl (hB c)
    have hz := runs_gsz hr
    rw [setGen_size] at hz
    obtain ⟨hq, h⟩ := hF e₁ s₁ hz he
    exact ⟨_, _, by unfold Wakes; rw [hg]; exact ⟨e₁, s₁, hr, hq, rfl, rfl⟩, h Γ p hΓ⟩
  | suspended k₀ l₀ c₀ p₀ fs₀ cl =>
    obtain ⟨e₁, s₁, hr, he⟩ := hgo (Γ.wake c₀ p) p₀ rfl (hB c₀)
    have hz := runs_gsz hr
    rw [setGen_size] at hz
    obtain ⟨hq, h⟩ := hF e₁ s₁ hz he
    exact ⟨_, _, by unfold Wakes; rw [hg]; exact ⟨e₁, s₁, hr, hq, rfl, rfl⟩, h Γ p hΓ⟩
  | running => exact hgo.elim
  | finished => exact hgo.elim
section
variable {P : Program} {w : World} {A : Around} {E : Value → Shared → Prop} {s : Shared}
/-- next(g): it hands out, it ends, or an exception leaves it -/
theorem next_gen1 {a : Addr} {g : Nat} {gs : GenState} {F : End → Shared → Prop} {Q : Option Value → Shared → Prop} (hh : A.handled = none) (hl : s.heap.NoLimit) (hroom : A.depth < recursionLimit) (hg : s.heap.IsGen a g) (hgs : s.gens[g]? = some gs)
    (hgo : Wake1 (model P w) A.in1 F gs (s.setGen g .running)) (hF : ∀ e s₁, s.gens.size ≤ s₁.gens.size → F e s₁ → e.quiet = true ∧ match e with
      | .susp v _ _ _ _ _ _ => Q (some v) (s₁.setGen g e.genState)
      | .ret (.ok f) => (f = .ret .none ∨ f = .next) ∧ ∀ h', (∀ b o, s₁.heap.get? b = some o → h'.get? b = some o) → Q none { s₁.setGen g .finished with heap := h' }
      | .ret (.error x) => s₁.heap.IsGen a g ∧ NotStop (model P w) x s₁.heap ∧ E x (s₁.setGen g .finished)) :
    wpAny (model P w) A (pyNext (.ref a)) Q E s := by
  unfold pyNext
  refine wpAny_bind (wpAny_attempt (wpAny_callSpecial?_slot (name := Str.ofString "__next__") hg.typeIs slot_gen_next
    (wpAny_call_entry slot_gen_next hg.typeIs entry_gen_next ?_ (args_gen_next _))))
  show wpAny _ A.in1 (Builtin.Generator.genWake (.ref a) (.send .none)) _ _ s
  unfold Builtin.Generator.genWake
  refine wpAny_bind (wpAny_holding (wpAny_genNumber hg (wpAny_bind (wpAny_genState hgs ?_))))
  cases gs with
  | running => exact hgo.elim
  | finished => exact hgo.elim
  | _ =>
    refine wpAny_bind (wpAny_roomToWake hl hroom ?_)
    show wpAny _ A.in1 (.resume g (.send .none) [] _) _ _ s
    refine wpAny_resume1 hgs hgo fun e s₁ hz he => ?_
    obtain ⟨hq, hm⟩ := hF e s₁ hz he
    refine ⟨hq, ?_⟩
    cases e with
    | susp v g' l' k' c' p' fs' => exact wpAny_pure ⟨v, rfl, wpAny_pure hm⟩
    | ret r =>
      cases r with
      | ok f =>
        obtain ⟨hr, hp⟩ := hm
        have hres : End.result (.ret (.ok f)) = .returned .none := by
          rcases hr with hr | hr <;> rw [hr] <;> rfl
        first | rw [hres] | simp only [hres]
        show wpAny _ A.in1 (newExc (.type "StopIteration") [] >>= _) _ _ _
        refine wpAny_bind ?_
        simp only [newExc, newTuple]
        refine wpAny_bind (wpAny_newObj_type ?_ (by size_fits))
        refine wpAny_bind (m := firstArgMember _ _) (wpAny_of_eq (a := Value.none) (by first | rfl | (simp only [firstArgMember]; rfl)) ?_)
        refine wpAny_newObj_type ?_ (by size_fits)
        simp only [raiseNew]
        refine wpAny_bind (wpAny_bind (wpAny_handled ?_))
        first | rw [show A.in1.handled = none from hh] | rw [hh]
        refine wpAny_throw ?_
        refine wpAny_bind (wpAny_isInstance (T := "StopIteration") (b := true) ⟨_, Heap.get?_push_size _ rfl, rfl⟩ isSubtype_stop ?_)
        exact wpAny_pure (hp _ fun b o hb => Heap.get?_push_of_some _ (Heap.get?_push_of_some _ hb))
      | error x =>
        obtain ⟨hg1, hns, hq'⟩ := hm
        obtain ⟨o, nm, qn, ho, hc, hd, hsl⟩ := hg1
        show wpAny _ A.in1 (Builtin.Generator.genLeft (.ref a) x) _ _ _
        unfold Builtin.Generator.genLeft Builtin.Generator.madeByALambda
        refine wpAny_bind (wpAny_bind (wpAny_load (o := o) ho (wpAny_pure ?_)))
        refine wpAny_bind (hns _ _ _ _ rfl ?_)
        rw [Bool.and_false, if_neg Bool.false_ne_true]
        unfold Builtin.Generator.genEscaped
        first
          | refine wpAny_bind (hns _ _ _ _ rfl ?_)
          | refine wpAny_bind (wpAny_pure (wpAny_bind (hns _ _ _ _ rfl ?_)))
        rw [if_pos (show (!false) = true from rfl)]
        first
          | refine wpAny_throw ?_
          | refine wpAny_bind (wpAny_throw ?_)
        refine wpAny_bind (hns _ _ _ _ rfl ?_)
        rw [if_neg Bool.false_ne_true]
        exact wpAny_throw hq'
end
end My
/-! A generator def's body, whoever takes what it hands out. -/
namespace My
open PySem PySem.Spec PyProof.Rows L2 GenW
/-- the heap's first n objects -/
def cutH (h : Heap) (n : Nat) : Heap := ⟨h.objs.extract 0 n, h.life⟩
theorem cutH_size {h : Heap} {n : Nat} (l : n ≤ h.objs.size) : (cutH h n).objs.size = n := by
  show (h.objs.extract 0 n).size = n
  rw [Array.size_extract]; omega
theorem cutH_get {h : Heap} {n b : Nat} (l : b < n) : (cutH h n).get? b = h.get? b := by
  unfold Heap.get? cutH
  have e : (h.objs.extract 0 n)[b]? = h.objs[b]? := by
    rw [Array.getElem?_extract]
    by_cases hb : b < h.objs.size
    · rw [if_pos (by omega)]; simp
    · rw [if_neg (by omega), Array.getElem?_eq_none (by omega)]
  simp only [e]
theorem cutH_of {h : Heap} {n b : Nat} {o : Obj} (e : (cutH h n).get? b = some o) : b < n ∧ h.get? b = some o := by
  have hl := Heap.lt_size e
  have hl : b < (h.objs.extract 0 n).size := hl
  rw [Array.size_extract] at hl
  have : b < n := by omega
  exact ⟨this, (cutH_get this).symm.trans e⟩
/-- from where a stretch is seen: the objects ahead of the generator's frame as they stand at its wake, the tracked heap, what is pinned -/
structure Root where
  s : Shared
  H : Hp
  pn : List (Addr × Obj)
structure GPar where
  P : Program
  w : World
  K : PySem.W.Frag
  mg : Str → Option Value
  base : Heap
  N : List Str
  qual : Str
  scope : Scope
  f : Addr
  cd : Value
  A : Around
  outer : List Env
  L : Addr
  E : XK
def GPar.env (g : GPar) : Env := envOfC g.qual g.scope g.L g.f g.cd
def GPar.X (g : GPar) (r : Root) : Cx where
  prog := g.P
  w := g.w
  K := g.K
  mg := g.mg
  base := g.base
  A := g.A.deeper (envOfC g.qual g.scope g.L g.f g.cd)
  N := g.N
  s_0 := r.s
  H_0 := r.H
  env := envOfC g.qual g.scope g.L g.f g.cd
  outer := g.outer
  stack := envOfC g.qual g.scope g.L g.f g.cd :: g.outer
  ex := []
  calm := true
  fn := fun _ => true
  pn := r.pn
  xe := fun e s' => wpAny (model g.P g.w) (g.A.deeper (envOfC g.qual g.scope g.L g.f g.cd)) (leaving (envOfC g.qual g.scope g.L g.f g.cd) e)
      (fun _ s'' => CX g.P g.w g.outer r.H r.s g.E e s'' ∧ ∀ p ∈ r.pn, s''.heap.get? p.1 = some p.2) (fun _ _ => False) s'
theorem takes_gX {g : GPar} {r : Root} : Takes (g.X r) (fun cls d _ H' => g.E cls d H') := fun u s' x =>
  XE.leaveG (W := fun cls d _ H' => g.E cls d H') (E := g.E) rfl rfl rfl (fun _ _ _ _ h => h) x
theorem owns_gX {g : GPar} {r : Root} : PassesOwn (model g.P g.w) (g.X r).A (g.X r).env (g.X r).xe :=
  passes_of (X := g.X r) (K := fun e s'' => CX g.P g.w g.outer r.H r.s g.E e s'' ∧ ∀ p ∈ r.pn, s''.heap.get? p.1 = some p.2) (E₁ := fun _ _ => False) rfl
/-- the generator's own state: ip its iterators as they stand -/
structure GInv (g : GPar) (r : Root) (ip : List (Addr × Obj)) (σ : L2.St) (H : Hp) (s : Shared) : Prop where
  size : r.s.heap.objs.size = g.L
  low : ∀ q ∈ ip, g.L ≤ q.1
  apart : ∀ p ∈ r.pn, ∀ q ∈ ip, p.1 ≠ q.1
  inv : Inv (g.X r) ip σ H s
/-- what is handed out at turn i, by the heap at the wake and the heap then; what is promised of the heap at the wake behind turn i -/
structure Prt where
  out : Nat → Hp → V → Hp → Prop
  back : Nat → Hp → Hp → Prop
/-- asleep with i items out: whoever wakes it so .. -/
def PhiG (g : GPar) (T : Prt) (Fn : Nat → Hp → Hp → Prop) : Nat → Nat → Root → End → Shared → Prop
  | 0 => fun i r e s' => match e with
    | .ret (.ok f) => (f = .ret .none ∨ f = .next) ∧ ∃ ip σ H, GInv g r ip σ H s' ∧ Fn i r.H H
    | .ret (.error x) => CX g.P g.w g.outer r.H r.s g.E x s' ∧ ∀ p ∈ r.pn, s'.heap.get? p.1 = some p.2
    | .susp .. => False
  | n + 1 => fun i r e s' => match e with
    | .ret (.ok f) => (f = .ret .none ∨ f = .next) ∧ ∃ ip σ H, GInv g r ip σ H s' ∧ Fn i r.H H
    | .ret (.error x) => CX g.P g.w g.outer r.H r.s g.E x s' ∧ ∀ p ∈ r.pn, s'.heap.get? p.1 = some p.2
    | .susp v gd l k c p fs => (End.susp v gd l k c p fs).quiet = true ∧ ∃ x ip σ H, GInv g r ip σ H s' ∧ RelV x v ∧ T.out i r.H x H ∧
        ∀ r' s'', GInv g r' ip σ r'.H s'' → T.back i H r'.H → Seg1 (model g.P g.w) g.A (PhiG g T Fn n (i + 1) r') c (k (.send .none)) fs s''
theorem phi_end {g : GPar} {T : Prt} {Fn : Nat → Hp → Hp → Prop} {n i : Nat} {r : Root} {f : Flow} {s' : Shared} (h : (f = .ret .none ∨ f = .next) ∧ ∃ ip σ H, GInv g r ip σ H s' ∧ Fn i r.H H) : PhiG g T Fn n i r (.ret (.ok f)) s' := by
  cases n <;> exact h
theorem phi_exc {g : GPar} {T : Prt} {Fn : Nat → Hp → Hp → Prop} {n i : Nat} {r : Root} {x : Value} {s' : Shared} (h : CX g.P g.w g.outer r.H r.s g.E x s' ∧ ∀ p ∈ r.pn, s'.heap.get? p.1 = some p.2) : PhiG g T Fn n i r (.ret (.error x)) s' := by
  cases n <;> exact h
/-- what is wanted behind a statement of a generator: by how many are out -/
structure GEn where
  nx : Nat → Hp → L2.St → Hp → Prop
  rt : Nat → Hp → VK
  bk : Nat → Hp → L2.St → Hp → Prop := fun _ _ _ _ => False
  ct : Nat → Hp → L2.St → Hp → Prop := fun _ _ _ _ => False
def GEn.at (D : GEn) (i : Nat) (Hw : Hp) : Ends := { nx := D.nx i Hw, rt := D.rt i Hw, bk := D.bk i Hw, ct := D.ct i Hw }
abbrev TGg := GEn → Nat → Hp → L2.St → Hp → Prop
def GSQ (g : GPar) (ip : List (Addr × Obj)) (D : GEn) (i : Nat) (f : Flow) (r : Root) (s : Shared) : Prop :=
  match f with
  | .next => ∃ σ H, GInv g r ip σ H s ∧ D.nx i r.H σ H
  | .brk => ∃ σ H, GInv g r ip σ H s ∧ D.bk i r.H σ H
  | .cont => ∃ σ H, GInv g r ip σ H s ∧ D.ct i r.H σ H
  | .ret u => ∃ v σ H, GInv g r ip σ H s ∧ RelV v u ∧ D.rt i r.H v H
structure GCo (g : GPar) (c : Code) (fs : List Frame) (gd : Bool → Bool) : Prop where
  over : g.A.over c fs = g.A.deeper (envOfC g.qual g.scope g.L g.f g.cd)
  split : splitAtGen fs = none
  guard : fs.any Frame.guarded = false
  gd : gd false = false
structure GKo (g : GPar) (T : Prt) (Fn : Nat → Hp → Hp → Prop) (tot : Nat) (ip : List (Addr × Obj)) (c : Code) (fs : List Frame) (K : Flow → Sem PySem.Fin) (J : Value → Sem PySem.Fin) (D : GEn) : Prop where
  ok : ∀ (n i : Nat) (r : Root) (s : Shared) (f : Flow), n + i = tot → GSQ g ip D i f r s → Seg1 (model g.P g.w) g.A (PhiG g T Fn n i r) c (K f) fs s
  exc : ∀ (n i : Nat) (r : Root) (e : Value) (s : Shared), (g.X r).xe e s → Seg1 (model g.P g.w) g.A (PhiG g T Fn n i r) c (J e) fs s
structure GS1 (g : GPar) (T : Prt) (tot : Nat) (st : Stmt) (t : TGg) : Prop where
  run : ∀ (Fn : Nat → Hp → Hp → Prop) (ip : List (Addr × Obj)) (n i : Nat) (r : Root) (c : Code) (fs : List Frame) (K : Flow → Sem PySem.Fin) (J : Value → Sem PySem.Fin) (gd : Bool → Bool) (lv : List Value → List Value) (s : Shared) (σ : L2.St) (H : Hp) (D : GEn),
    GCo g c fs gd → n + i = tot → GKo g T Fn tot ip c fs K J D → GInv g r ip σ H s → t D i r.H σ H → Seg1 (model g.P g.w) g.A (PhiG g T Fn n i r) c ((exec st (envOfC g.qual g.scope g.L g.f g.cd)).wrap K J gd lv) fs s
structure GS1s (g : GPar) (T : Prt) (tot : Nat) (st : List Stmt) (t : TGg) : Prop where
  run : ∀ (Fn : Nat → Hp → Hp → Prop) (ip : List (Addr × Obj)) (n i : Nat) (r : Root) (c : Code) (fs : List Frame) (K : Flow → Sem PySem.Fin) (J : Value → Sem PySem.Fin) (gd : Bool → Bool) (lv : List Value → List Value) (s : Shared) (σ : L2.St) (H : Hp) (D : GEn),
    GCo g c fs gd → n + i = tot → GKo g T Fn tot ip c fs K J D → GInv g r ip σ H s → t D i r.H σ H → Seg1 (model g.P g.w) g.A (PhiG g T Fn n i r) c ((execs st (envOfC g.qual g.scope g.L g.f g.cd)).wrap K J gd lv) fs s
section
variable {g : GPar} {T : Prt} {tot : Nat} {st : Stmt} {rest : List Stmt}
def tPl (t : TS) : TGg := fun D i Hw σ H => t (D.at i Hw) σ H
theorem sp_gsq {ip : List (Addr × Obj)} {r : Root} {s : Shared} {D : GEn} {i : Nat} {f : Flow} (hs : r.s.heap.objs.size = g.L) (hw : ∀ q ∈ ip, g.L ≤ q.1) (ha : ∀ p ∈ r.pn, ∀ q ∈ ip, p.1 ≠ q.1) (h : SP (g.X r) ip (D.at i r.H) f s) : GSQ g ip D i f r s := by
  cases f with
  | next => obtain ⟨σ, H, I, q⟩ := h; exact ⟨σ, H, ⟨hs, hw, ha, I⟩, q⟩
  | brk => obtain ⟨σ, H, I, q⟩ := h; exact ⟨σ, H, ⟨hs, hw, ha, I⟩, q⟩
  | cont => obtain ⟨σ, H, I, q⟩ := h; exact ⟨σ, H, ⟨hs, hw, ha, I⟩, q⟩
  | ret u => obtain ⟨v, σ, H, I, r1, q⟩ := h; exact ⟨v, σ, H, ⟨hs, hw, ha, I⟩, r1, q⟩
theorem g1_ps {t : TS} (h : ∀ r, PS (g.X r) st t) : GS1 g T tot st (tPl t) := by
  refine ⟨fun Fn ip n i r c fs K J gd lv s σ H D gc hn k I ht => ?_⟩
  refine seg1_wrap ?_
  rw [gc.over]
  exact wpAny_mono ((h r).run ip s σ H (D.at i r.H) I.inv ht) (fun f s' hs => k.ok n i r s' f hn (sp_gsq I.size I.low I.apart hs)) fun x s' hx => k.exc n i r x s' hx
theorem g1s_pss {t : TS} (h : ∀ r, PSs (g.X r) rest t) : GS1s g T tot rest (tPl t) := by
  refine ⟨fun Fn ip n i r c fs K J gd lv s σ H D gc hn k I ht => ?_⟩
  refine seg1_wrap ?_
  rw [gc.over]
  exact wpAny_mono ((h r).run ip s σ H (D.at i r.H) I.inv ht) (fun f s' hs => k.ok n i r s' f hn (sp_gsq I.size I.low I.apart hs)) fun x s' hx => k.exc n i r x s' hx
def tG1nil : TGg := fun D i Hw σ H => D.nx i Hw σ H
theorem g1s_nil : GS1s g T tot [] tG1nil := by
  refine ⟨fun Fn ip n i r c fs K J gd lv s σ H D gc hn k I ht => ?_⟩
  exact seg1_execs_nil (k.ok n i r s .next hn ⟨σ, H, I, ht⟩)
def tG1then (t u : TGg) : TGg := fun D i Hw σ H => t { D with nx := fun i' Hw' σ' H' => u D i' Hw' σ' H' } i Hw σ H
theorem g1s_cons {t u : TGg} (a : GS1 g T tot st t) (b : GS1s g T tot rest u) : GS1s g T tot (st :: rest) (tG1then t u) := by
  refine ⟨fun Fn ip n i r c fs K J gd lv s σ H D gc hn k I ht => ?_⟩
  refine seg1_execs_cons ?_
  refine a.run Fn ip n i r c fs _ J gd lv s σ H { D with nx := fun i' Hw' σ' H' => u D i' Hw' σ' H' } gc hn ⟨fun n' i' r' s' f hn' hs => ?_, k.exc⟩ I ht
  cases f with
  | next =>
    obtain ⟨σ', H', I', q⟩ := hs
    exact b.run Fn ip n' i' r' c fs K J gd lv s' σ' H' D gc hn' k I' q
  | brk => exact k.ok n' i' r' s' .brk hn' hs
  | cont => exact k.ok n' i' r' s' .cont hn' hs
  | ret u => exact k.ok n' i' r' s' (.ret u) hn' hs
/-- yield e -/
def tG1yield (T : Prt) (tot : Nat) (te : TE) : TGg := fun D i Hw σ H => i < tot ∧ te σ H fun x H1 => T.out i Hw x H1 ∧ ∀ H2, T.back i H1 H2 → D.nx (i + 1) H2 σ H2
theorem g1_yield {e : Expr} {yp pos : Pos} {te : TE} (he : ∀ r, PE (g.X r) e te) (hco : g.scope.isCoroutine = false := by rfl) (hk : g.scope.kind = .function := by rfl) : GS1 g T tot (.Expr (.Yield (some e) yp) pos) (tG1yield T tot te) := by
  refine ⟨fun Fn ip n i r c fs K J gd lv s σ H D gc hn k I ht => ?_⟩
  obtain ⟨hlt, ht⟩ := ht
  obtain ⟨n, rfl⟩ : ∃ m, n = m + 1 := ⟨n - 1, by omega⟩
  refine seg1_Expr_Yield gc.split ?_ hco (by simp [interactive, envOfC, hk])
  rw [gc.over]
  refine wpAny_mono ((he r).run _ s σ H _ I.inv ht) (fun v s' hv => ?_) fun x s' hx => k.exc _ i r x s' hx
  obtain ⟨x, H1, I1, rv, q1, q2⟩ := hv
  intro l kk hkk p
  refine ⟨?_, x, ip, σ, H1, ⟨I.size, I.low, I.apart, I1⟩, rv, q1, fun r' s'' I' hb => hkk s'' _ ?_⟩
  · show (!(gd false || fs.any Frame.guarded)) = true
    rw [gc.gd, gc.guard]; rfl
  · exact k.ok n (i + 1) r' s'' .next (by omega) ⟨σ, r'.H, I', q2 r'.H hb⟩
theorem gco_loop {c c' : Code} {fs : List Frame} {gd : Bool → Bool} {k : Result → Sem PySem.Fin} {l kp : List Value} {p : Pos} (gc : GCo g c fs gd) (hw : c'.weight = 0) (hu : c'.cUnits = 0) : GCo g c' (.ret k none (gd false) l c p kp :: fs) id where
  over := (over_loop hw hu).trans gc.over
  split := by
    show (splitAtGen fs).map _ = none
    rw [gc.split]; rfl
  guard := by
    show (gd false || fs.any Frame.guarded) = false
    rw [gc.gd, gc.guard]; rfl
  gd := rfl
theorem seg1_cameBack {ip : List (Addr × Obj)} {Fn : Nat → Hp → Hp → Prop} {c : Code} {fs : List Frame} {K : Flow → Sem PySem.Fin} {J : Value → Sem PySem.Fin} {gd : Bool → Bool} {lv : List Value → List Value} {D : GEn} {n i : Nat} {r : Root} {s : Shared} {e : Value}
    (gc : GCo g c fs gd) (k : GKo g T Fn tot ip c fs K J D) (h : cameBackBy (model g.P g.w) (g.X r).A (g.X r).env (g.X r).xe e s) :
    Seg1 (model g.P g.w) g.A (PhiG g T Fn n i r) c (((Sem.raise e : Sem Flow).onRaise (cameBack (envOfC g.qual g.scope g.L g.f g.cd))).wrap K J gd lv) fs s := by
  show Seg1 _ _ _ _ (((cameBack (envOfC g.qual g.scope g.L g.f g.cd) e).bind fun _ => (Sem.raise e : Sem Flow)).wrap K J gd lv) _ _
  rw [Sem.bind_eq_wrap, Sem.wrap_wrap]
  refine seg1_wrap ?_
  rw [gc.over]
  exact wpAny_mono h (fun _ s' hx => k.exc n i r e s' hx) fun x s' hx => k.exc n i r x s' hx
/-- for tg in iter: .. with yields within -/
def tG1for (wi : TI) (gg : TG) (tb : TGg) : TGg := fun D i Hw σ H => wi σ H fun J H1 => ∃ W : Nat → Nat → Nat → Hp → L2.St → Hp → Prop, (∃ m, W 0 m i Hw σ H1) ∧ ∀ j m i Hw σ H, W j m i Hw σ H →
  (J.stop j H ∧ D.nx i Hw σ H) ∨ (J.go j H ∧ ∃ N : Nat → Hp → L2.St → Hp → Prop, (∀ i' Hw' σ' H', N i' Hw' σ' H' → ∃ m', m' < m ∧ W (j + 1) m' i' Hw' σ' H') ∧ ∀ x H', J.yld j H x H' → gg x σ H' fun σ2 H2 => tb { D with nx := N, ct := N, bk := D.nx } i Hw σ2 H2)
theorem g1_for {tg iter : Expr} {body : List Stmt} {pos : Pos} {wi : TI} {gg : TG} {tb : TGg} (hi : ∀ r, PI (g.X r) tg iter wi) (hg : ∀ r, PG (g.X r) tg gg) (hb : GS1s g T tot body tb)
    (hs : ∀ x, foldedSetIterable iter (envOfC g.qual g.scope g.L g.f g.cd) x = pure x := by intro _; rfl) : GS1 g T tot (.For tg iter body [] pos) (tG1for wi gg tb) := by
  refine ⟨fun Fn ip n i r c fs K J gd lv s σ H D gc hn k I ht => ?_⟩
  refine seg1_For hs ?_
  rw [gc.over]
  refine wpAny_mono ((hi r).run ip s σ H _ I.inv ht) (fun v s1 h1 => ?_) fun x s' hx => k.exc n i r x s' hx
  refine wpAny_mono h1 (fun itv s2 h2 p => ?_) fun x s' hx => k.exc n i r x s' hx
  obtain ⟨it, fp, tn, Jt, H2, e, I2, TT, st2, f2, W, ⟨m0, w0⟩, turn⟩ := h2
  subst e
  have gl := fun (kk : Result → Sem PySem.Fin) => gco_loop (k := kk) (c' := .forLoop tg (.ref it) body [] (envOfC g.qual g.scope g.L g.f g.cd)) (l := lv []) (kp := []) (p := p) gc rfl rfl
  have gb := fun (kk : Result → Sem PySem.Fin) => gco_loop (k := kk) (c' := .block [] (envOfC g.qual g.scope g.L g.f g.cd)) (l := lv []) (kp := []) (p := p) gc rfl rfl
  -- what stays true of the iterator's objects
  have fL : ∀ b ∈ fp, g.L ≤ b := fun b hb => by
    obtain ⟨_, _, _, z | z, _⟩ := f2 b hb
    · cases z
    · have z : r.s.heap.objs.size ≤ b := z
      rw [I.size] at z; exact z
  have fNe : ∀ b ∈ fp, b ≠ g.L ∧ b ∉ frs g.outer ∧ (∀ x c, (envOfC g.qual g.scope g.L g.f g.cd).cells.lookup x = some c → c ≠ b) ∧ ∀ q ∈ ip, q.1 ≠ b := fun b hb => by
    obtain ⟨_, z1, z2, _, z3, z4⟩ := f2 b hb
    exact ⟨z1, z2, z3, fun q hq => z4 q (List.mem_append_right _ hq)⟩
  have stat : ∀ {r' : Root} {H' : Hp}, r'.s.heap.objs.size = g.L → (∀ b ∈ fp, H' b = none) → (∀ b ∈ fp, ∀ q ∈ r'.pn, q.1 ≠ b) → ∀ b ∈ fp, FpOk (g.X r') ip H' b := fun {r' H'} hz hn hp b hb => by
    obtain ⟨z1, z2, z3, z4⟩ := fNe b hb
    refine ⟨hn b hb, z1, z2, .inr ?_, z3, fun q hq => (List.mem_append.mp hq).elim (hp b hb q) (z4 q)⟩
    show r'.s.heap.objs.size ≤ b
    rw [hz]; exact fL b hb
  have loop : ∀ (m j n i : Nat) (r : Root) (s : Shared) (σ : L2.St) (H : Hp), n + i = tot → W j m i r.H σ H → GInv g r ip σ H s → tn j s.heap → (∀ b ∈ fp, H b = none) → (∀ b ∈ fp, ∀ q ∈ r.pn, q.1 ≠ b) →
      Seg1 (model g.P g.w) g.A (PhiG g T Fn n i r) (.forLoop tg (.ref it) body [] (envOfC g.qual g.scope g.L g.f g.cd)) ((model g.P g.w).den (.forLoop tg (.ref it) body [] (envOfC g.qual g.scope g.L g.f g.cd)))
        (.ret (fun r => ((match r with | .ok f => (.pure f : Sem Flow) | .error e => .raise e).onRaise (cameBack (envOfC g.qual g.scope g.L g.f g.cd))).wrap K J gd lv) none (gd false) (lv []) c p [] :: fs) s := by
    intro m
    induction m using Nat.strongRecOn with
    | ind m ih =>
      intro j n i r s σ H hn w I st fr fq
      have ee : ∀ (n i : Nat) (r : Root) (x : Value) (s' : Shared), (g.X r).xe x s' → Seg1 (model g.P g.w) g.A (PhiG g T Fn n i r) (.forLoop tg (.ref it) body [] (envOfC g.qual g.scope g.L g.f g.cd))
          ((do noteFrame x (envOfC g.qual g.scope g.L g.f g.cd); theTreesLotGoes x : Sem Unit).wrap (fun _ => .raise x) .raise id id)
          (.ret (fun r => ((match r with | .ok f => (.pure f : Sem Flow) | .error e => .raise e).onRaise (cameBack (envOfC g.qual g.scope g.L g.f g.cd))).wrap K J gd lv) none (gd false) (lv []) c p [] :: fs) s' := fun n i r x s' hx => by
        refine seg1_wrap ?_
        rw [(gl _).over]
        refine wpAny_bind (wpAny_mono (owns_gX x s' hx) (fun _ s'' hcb => wpAny_theTreesLotGoes ?_) fun y s'' hcb => ?_)
        · exact seg1_leaf (.error x) (seg1_cameBack gc k hcb)
        · exact seg1_leaf (.error y) (seg1_cameBack gc k hcb)
      refine seg1_forLoop ?_
      rw [(gl _).over]
      rcases turn j m i r.H σ H w with ⟨stop, qn⟩ | ⟨go, N, hN, step⟩
      · refine wpAny_mono (TT.done (g.X r) rfl rfl rfl rfl j ip s σ H (g.X r).xe I.inv (stat I.size fr fq) st stop) (fun z s4 hz => ?_) fun x s' hx => ee n i r x s' hx
        obtain ⟨hr, I4⟩ := hz
        subst hr
        show Seg1 _ _ _ _ ((execs [] (envOfC g.qual g.scope g.L g.f g.cd)) >>= fun f => .pure (.done f)) _ s4
        exact seg1_leaf (.ok .next) (k.ok n i r s4 .next hn ⟨σ, H, ⟨I.size, I.low, I.apart, I4⟩, qn⟩)
      · refine wpAny_mono (TT.item (g.X r) rfl rfl rfl rfl j ip s σ H (g.X r).xe I.inv (stat I.size fr fq) st go) (fun z s4 hz => ?_) fun x s' hx => ee n i r x s' hx
        obtain ⟨u, hr, h4⟩ := hz
        subst hr
        refine wpAny_mono h4 (fun _ s5 h5 => ?_) fun x s' hx => ee n i r x s' hx
        obtain ⟨x, H5, I5, r5, y5, st5, fr5⟩ := h5
        have f5 := stat (r' := r) I.size fr5 fq
        have I5' := I5.pinned f5 (TT.obj _ _ st5)
        refine wpAny_mono ((hg r).run _ s5 σ H5 x u _ I5' r5 (step x H5 y5)) (fun _ s6 h6 => ?_) fun x s' hx => ee n i r x s' hx
        obtain ⟨σ6, H6, I6, q6⟩ := h6
        have ap6 : ∀ p ∈ r.pn, ∀ q ∈ ip ++ pinsAt fp s5.heap, p.1 ≠ q.1 := fun p hp q hq => (List.mem_append.mp hq).elim (I.apart p hp q) fun z => by
          obtain ⟨z1, _⟩ := of_pinsAt z
          exact fq q.1 z1 p hp
        have low6 : ∀ q ∈ ip ++ pinsAt fp s5.heap, g.L ≤ q.1 := fun q hq => (List.mem_append.mp hq).elim (I.low q) fun z => fL q.1 (of_pinsAt z).1
        refine hb.run Fn (ip ++ pinsAt fp s5.heap) n i r _ _ _ _ id id s6 σ6 H6 { D with nx := N, ct := N, bk := D.nx } (gl _) hn ⟨fun n' i' r' s7 f hn' hs => ?_, fun n' i' r' x s' hx => ee n' i' r' x s' hx⟩ ⟨I.size, low6, ap6, I6⟩ q6
        have un : ∀ {σ7 : L2.St} {H7 : Hp}, GInv g r' (ip ++ pinsAt fp s5.heap) σ7 H7 s7 → GInv g r' ip σ7 H7 s7 ∧ tn (j + 1) s7.heap ∧ (∀ b ∈ fp, H7 b = none) ∧ ∀ b ∈ fp, ∀ q ∈ r'.pn, q.1 ≠ b := fun {σ7 H7} I7 => by
          refine ⟨⟨I7.size, fun q hq => I7.low q (List.mem_append_left _ hq), fun p hp q hq => I7.apart p hp q (List.mem_append_left _ hq), I7.inv.unpinned⟩, TT.keep _ _ _ st5 fun b hb o e => (I7.inv.pin (b, o) (List.mem_append_right _ (List.mem_append_right _ (mem_pinsAt hb e)))).1, fun b hb => ?_, fun b hb q hq => ?_⟩
          · obtain ⟨o, e, d⟩ := TT.obj _ _ st5 b hb
            exact (I7.inv.pin (b, o) (List.mem_append_right _ (List.mem_append_right _ (mem_pinsAt hb e)))).2.1
          · obtain ⟨o, e, d⟩ := TT.obj _ _ st5 b hb
            exact I7.apart q hq (b, o) (List.mem_append_right _ (mem_pinsAt hb e))
        cases f with
        | next =>
          obtain ⟨σ7, H7, I7, n7⟩ := hs
          obtain ⟨m', hm, w7⟩ := hN i' r'.H σ7 H7 n7
          obtain ⟨a1, a2, a3, a4⟩ := un I7
          exact seg1_again rfl (ih m' hm (j + 1) n' i' r' s7 σ7 H7 hn' w7 a1 a2 a3 a4)
        | cont =>
          obtain ⟨σ7, H7, I7, n7⟩ := hs
          obtain ⟨m', hm, w7⟩ := hN i' r'.H σ7 H7 n7
          obtain ⟨a1, a2, a3, a4⟩ := un I7
          exact seg1_again rfl (ih m' hm (j + 1) n' i' r' s7 σ7 H7 hn' w7 a1 a2 a3 a4)
        | brk =>
          obtain ⟨σ7, H7, I7, q7⟩ := hs
          exact seg1_leaf (.ok .next) (k.ok n' i' r' s7 .next hn' ⟨σ7, H7, (un I7).1, q7⟩)
        | ret v =>
          obtain ⟨x7, σ7, H7, I7, r7, q7⟩ := hs
          exact seg1_leaf (.ok (.ret v)) (k.ok n' i' r' s7 (.ret v) hn' ⟨x7, σ7, H7, (un I7).1, r7, q7⟩)
  have fr0 : ∀ b ∈ fp, H2 b = none := fun b hb => (f2 b hb).1
  have fq0 : ∀ b ∈ fp, ∀ q ∈ r.pn, q.1 ≠ b := fun b hb q hq => by
    obtain ⟨_, _, _, _, _, z⟩ := f2 b hb
    exact z q (List.mem_append_left _ hq)
  exact loop m0 0 n i r s2 σ H2 hn w0 ⟨I.size, I.low, I.apart, I2⟩ st2 fr0 fq0
end
end My
/-! Who takes what a generator hands out: the turn of a for or a comprehension. -/
namespace My
open PySem PySem.Spec PyProof.Rows L2 GenW
def cutS (s : Shared) (n : Nat) : Shared := { s with heap := cutH s.heap n }
/-- a generator that a context made -/
def GPar.of (X : Cx) (N : List Str) (qual : Str) (scope : Scope) (f : Addr) (cd : Value) (L : Addr) : GPar := ⟨X.prog, X.w, X.K, X.mg, X.base, N, qual, scope, f, cd, X.A.in1, X.stack, L, fun _ _ _ => False⟩
structure GFit (g : GPar) (X : Cx) : Prop where
  kind : g.scope.kind = .function
  plain : ∀ y ∈ g.scope.names, y.2 ≠ .cell ∧ y.2 ≠ .free
  room : X.A.depth < recursionLimit
  frL : ∀ b ∈ frs X.stack, b < g.L
  szL : X.s_0.heap.objs.size ≤ g.L
  celL : ∀ x c, X.env.cells.lookup x = some c → c < g.L
  locL : X.env.locals < g.L ∨ g.L < X.env.locals
/-- g sleeps, with i items out; fp: its own objects -/
structure GAt (g : GPar) (T : Prt) (Fn : Nat → Hp → Hp → Prop) (tot : Nat) (a gi i : Nat) (Rq : Hp → Prop) (fp : List Addr) (s : Shared) : Prop where
  ex : ∃ (S : GenState) (ip : List (Addr × Obj)) (σ : L2.St) (n : Nat), n + i = tot ∧ s.gens[gi]? = some S ∧ (i ≠ 0 → isSusp S = true) ∧ σ.length = g.N.length ∧
    (∃ m, s.heap.Ns g.L m ∧ ∀ (j : Nat) (x : Str) (v : V), g.N[j]? = some x → σ[j]? = some (some v) → Vis g.scope x → ∃ u, RelV v u ∧ m x = some u) ∧
    (∀ q ∈ ip, s.heap.get? q.1 = some q.2 ∧ q.1 ∈ fp ∧ (∀ v, q.2.data ≠ .cell v) ∧ q.1 ≠ g.L ∧ q.1 ≠ a) ∧
    ∀ r s'', GInv g r ip σ r.H s'' → Rq r.H → Wake1 (model g.P g.w) g.A (PhiG g T Fn n i r) S s''
  gen : s.heap.IsGen a gi
  aL : g.L < a
  ain : a ∈ fp
  Lin : g.L ∈ fp
  low : ∀ b ∈ fp, g.L ≤ b ∧ ∃ o, s.heap.get? b = some o ∧ ∀ v, o.data ≠ .cell v
theorem GAt.keep {g : GPar} {T : Prt} {Fn : Nat → Hp → Hp → Prop} {tot a gi i : Nat} {Rq : Hp → Prop} {fp : List Addr} {s s' : Shared} (h : GAt g T Fn tot a gi i Rq fp s) (hk : ∀ b ∈ fp, ∀ o, s.heap.get? b = some o → s'.heap.get? b = some o)
    (hg : ∀ S, s.gens[gi]? = some S → (i ≠ 0 → isSusp S = true) → s'.gens[gi]? = some S) : GAt g T Fn tot a gi i Rq fp s' := by
  obtain ⟨⟨S, ip, σ, n, h1, h2, h3, h4, ⟨m, hm, hl⟩, h6, h7⟩, hgen, aL, ain, Lin, low⟩ := h
  refine ⟨⟨S, ip, σ, n, h1, hg S h2 h3, h3, h4, ⟨m, ?_, hl⟩, fun q hq => ?_, h7⟩, ?_, aL, ain, Lin, fun b hb => ?_⟩
  · obtain ⟨o, es, ep, ho, r⟩ := hm
    exact ⟨o, es, ep, hk _ Lin o ho, r⟩
  · obtain ⟨z1, z2, z3⟩ := h6 q hq
    exact ⟨hk _ z2 _ z1, z2, z3⟩
  · obtain ⟨o, nm, qn, ho, r⟩ := hgen
    exact ⟨o, nm, qn, hk a ain o ho, r⟩
  · obtain ⟨z1, o, z2, z3⟩ := low b hb
    exact ⟨z1, o, hk b hb o z2, z3⟩
/-- behind a stretch that kept what stood ahead of L -/
theorem inv_back {X : Cx} {pins : List (Addr × Obj)} {σ : L2.St} {H H1 : Hp} {s s1 : Shared} {L : Nat} (I : Inv X pins σ H s) (os : s1.os = s.os) (bare : AllBare s1.gens) (u : Un (frs X.stack) [] H H1 (cutH s.heap L) s1.heap) (hok : HOk X.prog X.w H1 s1.heap)
    (szL : X.s_0.heap.objs.size ≤ L) (celL : ∀ x c, X.env.cells.lookup x = some c → c < L) (locL : X.env.locals < L ∨ (s1.heap.get? X.env.locals = s.heap.get? X.env.locals ∧ H1 X.env.locals = none))
    (pin : ∀ p ∈ X.pn ++ pins, s1.heap.get? p.1 = some p.2 ∧ H1 p.1 = none) : Inv X pins σ H1 s1 := by
  have lt0 : ∀ {b o}, X.s_0.heap.get? b = some o → b < L := fun {b o} e => Nat.lt_of_lt_of_le (Heap.lt_size e) szL
  have cut : ∀ {b o}, s.heap.get? b = some o → b < L → (cutH s.heap L).get? b = some o := fun {b o} e l => (cutH_get l).trans e
  have fsub : ∀ b ∈ X.fs, b ∈ frs X.stack := fun b hb => by
    rcases I.ok.stk with z | ⟨z, _⟩
    · rw [z]; exact hb
    · rw [z]
      show b ∈ List.filterMap (·.frame) (X.env :: X.outer)
      rw [List.filterMap_cons]
      split
      · exact hb
      · exact List.mem_cons_of_mem _ hb
  have nst : ∀ {b o}, X.s_0.heap.get? b = some o → b ∉ X.fs → b ∉ frs X.stack := fun {b o} e hb hm => by
    rcases List.mem_cons.mp (I.stkSub b hm) with z | z
    · have h1 := Heap.lt_size e
      have h2 := I.ok.above
      rw [z] at h1
      exact absurd (Nat.lt_of_lt_of_le h1 h2) (Nat.lt_irrefl _)
    · exact hb z
  have nl : ∀ b : Addr, b ∉ ([] : List Addr) := fun b z => by cases z
  have locK : ∀ m, s.heap.Ns X.env.locals m → s1.heap.Ns X.env.locals m := fun m hm => by
    obtain ⟨o, es, ep, ho, r⟩ := hm
    rcases locL with z | ⟨z, _⟩
    · obtain ⟨sl, e⟩ := u.any (cut ho z) I.free (nl _)
      exact ⟨_, es, ep, e, r⟩
    · exact ⟨o, es, ep, z.trans ho, r⟩
  have cellK : ∀ x c, X.env.cells.lookup x = some c → ∀ v, s.heap.IsCell c v → s1.heap.IsCell c v := fun x c e v hv => by
    obtain ⟨o, ho, hd⟩ := hv
    obtain ⟨sl, q⟩ := u.any (cut ho (celL x c e)) (I.freeC x c e) (nl _)
    exact ⟨_, q, hd⟩
  refine ⟨I.ok, os.trans I.os, bare, ⟨fun b o e n hb hx => ?_, fun b o e n hb hx => ?_, fun b o e n hx => ?_, fun b o e hx => ?_, fun b xs e => u.tups b xs (I.base.tups b xs e), fun b o xs e => u.frzs b o xs (I.base.frzs b o xs e), fun b ps e => ?_⟩, ?_, fun x c e => ?_, ?_, fun x c e => ?_, fun p hp => ?_, hok, I.len⟩
  · exact u.keep b o (cut (I.base.keep b o e n hb hx) (lt0 e)) (I.base.free b o e n hx) (nst e hb) (nl _)
  · obtain ⟨sl, e1⟩ := I.base.slot b o e n hb hx
    obtain ⟨sl', e2⟩ := u.slot b _ (cut e1 (lt0 e)) (I.base.free b o e n hx) (fsub b hb) (nl _)
    exact ⟨sl', e2⟩
  · obtain ⟨o', e1⟩ := I.base.there b o e hx
    exact u.free b o' (cut e1 (lt0 e)) (I.base.free b o e n hx) (nl _)
  · obtain ⟨o', e1⟩ := I.base.there b o e hx
    exact u.there b o' (cut e1 (lt0 e)) (nl _)
  · obtain ⟨m1, e1⟩ := I.base.tbls b ps e
    obtain ⟨m2, e2⟩ := u.tbls b _ e1
    exact ⟨m1 ++ m2, by rw [e2, Array.append_assoc]⟩
  · obtain ⟨m, hn, hl⟩ := I.loc
    refine ⟨m, locK m hn, fun i x v e1 e2 e3 => ?_⟩
    obtain ⟨u', r, l⟩ := hl i x v e1 e2 e3
    refine ⟨u', r, ?_⟩
    rcases l with l | ⟨k, c, e, z⟩
    · exact .inl l
    · exact .inr ⟨k, c, e, cellK x c e _ z⟩
  · obtain ⟨v, z⟩ := I.cell x c e
    exact ⟨v, cellK x c e v z⟩
  · rcases locL with z | ⟨_, z⟩
    · obtain ⟨m, ⟨o, es, ep, ho, r⟩, _⟩ := I.loc
      exact u.free _ o (cut ho z) I.free (nl _)
    · exact z
  · obtain ⟨v, o, ho, hd⟩ := I.cell x c e
    exact u.free c o (cut ho (celL x c e)) (I.freeC x c e) (nl _)
  · obtain ⟨z1, z2, z3, z4, z5⟩ := I.pin p hp
    obtain ⟨y1, y2⟩ := pin p hp
    exact ⟨y1, y2, z3, z4, z5⟩
/-- THE TURN -/
theorem gat_next {X : Cx} {N : List Str} {qual : Str} {scope : Scope} {f : Addr} {cd : Value} {L : Addr} {T : Prt} {Fn : Nat → Hp → Hp → Prop} {tot a gi i : Nat} {Rq : Hp → Prop} {fp : List Addr} {pins : List (Addr × Obj)} {σ : L2.St} {H : Hp} {s : Shared} {Q : Option Value → Shared → Prop} {E : Value → Shared → Prop}
    (ft : GFit (GPar.of X N qual scope f cd L) X) (hc : X.calm = true) (I : Inv X pins σ H s) (G : GAt (GPar.of X N qual scope f cd L) T Fn tot a gi i Rq fp s) (hf : ∀ b ∈ fp, FpOk X pins H b) (hR : Rq H)
    (hout : ∀ u x H' s' fp', Inv X pins σ H' s' → RelV x u → T.out i H x H' → GAt (GPar.of X N qual scope f cd L) T Fn tot a gi (i + 1) (T.back i H') fp' s' → (∀ b ∈ fp', FpOk X pins H' b) → Q (some u) s')
    (hend : ∀ H' s', Inv X pins σ H' s' → Fn i H H' → Q none s') : wpAny (model X.prog X.w) X.A (pyNext (.ref a)) Q E s := by
  obtain ⟨⟨S, ip, σg, n, hn, hgs, hsus, hlen, ⟨m, hm, hl⟩, hip, wake⟩, hgen, aL, ain, Lin, low⟩ := G
  have hLs : L < s.heap.objs.size := by
    obtain ⟨o, es, ep, ho, _⟩ := hm
    exact Heap.lt_size ho
  have hLsz : (cutH s.heap L).objs.size = L := cutH_size (Nat.le_of_lt hLs)
  have fL := hf L Lin
  have fa := hf a ain
  have cells0 : cellsFrom (L + 1) scope.names [] = [] := by
    have key : ∀ (names : List (Str × NameKind)) (k : Nat) (acc : List (Str × Addr)), (∀ y ∈ names, y.2 ≠ .cell) → cellsFrom k names acc = acc := by
      intro names
      induction names with
      | nil => intro k acc _; rfl
      | cons y r ih =>
        intro k acc h
        obtain ⟨nm, kd⟩ := y
        unfold cellsFrom
        have hk : ¬ (kd == NameKind.cell) = true := by
          have := h (nm, kd) List.mem_cons_self
          simpa using this
        rw [if_neg hk]
        exact ih _ _ fun z hz => h z (List.mem_cons_of_mem _ hz)
    exact key scope.names (L + 1) [] fun y hy => (ft.plain y hy).1
  have cells : ∀ x c, (envOfC qual scope L f cd).cells.lookup x = some c → False := fun x c e => by
    have e : (cellsFrom (L + 1) scope.names []).lookup x = some c := e
    rw [cells0] at e
    cases e
  -- what is pinned while it runs
  obtain ⟨oa, nm, qn, hoa, hac, had, has⟩ := id hgen
  obtain ⟨mX, hmX, _⟩ := id I.loc
  obtain ⟨oX, esX, epX, hoX, hdX, _⟩ := id hmX
  let ext : List (Addr × Obj) := if X.env.locals < L then [] else [(X.env.locals, oX)]
  have hext : ∀ p ∈ ext, p = (X.env.locals, oX) ∧ L < X.env.locals := fun p hp => by
    show _ ∧ _
    have hp : p ∈ (if X.env.locals < L then [] else [(X.env.locals, oX)]) := hp
    split at hp
    · cases hp
    · rename_i hlt
      refine ⟨by simpa using hp, ?_⟩
      rcases ft.locL with z | z
      · exact absurd z hlt
      · exact z
  let r : Root := ⟨cutS (s.setGen gi .running) L, H, (X.pn ++ pins) ++ ((a, oa) :: ext)⟩
  have frst : ∀ b, L ≤ b → b ∉ frs X.stack := fun b hb hm => absurd (Nat.lt_of_lt_of_le (ft.frL b hm) hb) (Nat.lt_irrefl _)
  have pinA : ∀ p ∈ r.pn, s.heap.get? p.1 = some p.2 ∧ H p.1 = none ∧ p.1 ≠ L ∧ p.1 ∉ frs X.stack ∧ ∀ v, p.2.data ≠ .cell v := fun p hp => by
    rcases List.mem_append.mp hp with z | z
    · obtain ⟨z1, z2, z3, z4, z5⟩ := I.pin p z
      refine ⟨z1, z2, fL.2.2.2.2.2 p z, fun hm => ?_, z5⟩
      rcases List.mem_cons.mp (I.stkSub p.1 hm) with y | y
      · exact z3 y
      · exact z4 y
    · rcases List.mem_cons.mp z with z | z
      · rw [z]
        exact ⟨hoa, fa.1, Nat.ne_of_gt aL, frst a (Nat.le_of_lt aL), fun v q => by rw [had] at q; cases q⟩
      · obtain ⟨z1, z2⟩ := hext p z
        rw [z1]
        exact ⟨hoX, I.free, Nat.ne_of_gt z2, frst _ (Nat.le_of_lt z2), fun v q => by rw [hdX] at q; cases q⟩
  have apart : ∀ p ∈ r.pn, ∀ q ∈ ip, p.1 ≠ q.1 := fun p hp q hq => by
    obtain ⟨y1, y2, y3, y4, y5⟩ := hip q hq
    obtain ⟨_, fq1, _, _, _, fq5⟩ := hf q.1 y2
    rcases List.mem_append.mp hp with z | z
    · exact fq5 p z
    · rcases List.mem_cons.mp z with z | z
      · rw [z]; exact Ne.symm y5
      · rw [(hext p z).1]; exact Ne.symm fq1
  have bsL : X.base.objs.size ≤ L := Nat.le_trans I.ok.bsz ft.szL
  have cutget : ∀ {b o}, (cutH s.heap L).get? b = some o → b < L ∧ s.heap.get? b = some o := fun {b o} e => cutH_of e
  have okG : ((GPar.of X N qual scope f cd L).X r).Ok := by
    refine ⟨I.ok.mod, ft.kind, rfl, rfl, Nat.le_of_eq hLsz, fun x y c e _ => (cells x c e).elim, fun x hx => ?_, fun x c _ e => (cells x c e).elim, fun _ => I.ok.hd hc, Around.frames_deeper I.ok.frames, .inr ⟨rfl, rfl⟩, (fun b z => by cases z), fun b o e => ?_, ?_, (fun b o _ z => by cases z), (fun b z => by cases z), ?_, fun b hb => ?_⟩
    · have hx : scope.names.lookup x = some .cell ∨ scope.names.lookup x = some .free := hx
      rcases hx with hx | hx
      · exact absurd rfl (ft.plain _ (PySem.mem_of_lookup hx)).1
      · exact absurd rfl (ft.plain _ (PySem.mem_of_lookup hx)).2
    · obtain ⟨z1, z2⟩ := I.bs b o e
      exact ⟨(cutH_get (Nat.lt_of_lt_of_le (Heap.lt_size e) bsL)).trans z1, z2⟩
    · show X.base.objs.size ≤ (cutH s.heap L).objs.size
      rw [hLsz]; exact bsL
    · show (cutH s.heap L).FunFrames X.base X.stack
      have key : ∀ l : List Env, (∀ b ∈ frs l, b < L) → s.heap.FunFrames X.base l → (cutH s.heap L).FunFrames X.base l := by
        intro l
        induction l with
        | nil => intro _ _; trivial
        | cons env rest ih =>
          intro hb h
          obtain ⟨hk, ⟨L', o, hf', hn', ho, hd⟩, hr⟩ := h
          have hmem : ∀ b ∈ frs rest, b ∈ frs (env :: rest) := fun b hb => by
            show b ∈ List.filterMap (·.frame) (env :: rest)
            rw [List.filterMap_cons, hf']
            exact List.mem_cons_of_mem _ hb
          have hL' : L' < L := hb L' (by
            show L' ∈ List.filterMap (·.frame) (env :: rest)
            rw [List.filterMap_cons, hf']
            exact List.mem_cons_self)
          exact ⟨hk, ⟨L', o, hf', hn', (cutH_get hL').trans ho, hd⟩, ih (fun b z => hb b (hmem b z)) hr⟩
      exact key X.stack ft.frL I.stack
    · exact I.stkFree b hb
  have J : GInv (GPar.of X N qual scope f cd L) r ip σg r.H (s.setGen gi .running) := by
    refine ⟨hLsz, fun q hq => (low q.1 (hip q hq).2.1).1, apart, okG, rfl, allBare_setGen I.bare rfl, ⟨fun b o e n hb hx => (cutget e).2, fun b o e n hb hx => ⟨o.slots, (cutget e).2⟩, fun b o e n hx => n, fun b o e hx => ⟨o, (cutget e).2⟩, fun b xs e => e, fun b o u e => e, fun b ps e => ⟨#[], (show H b = _ from e).trans (by simp)⟩⟩,
      ⟨m, hm, fun j x v e1 e2 e3 => ?_⟩, fun x c e => (cells x c e).elim, fL.1, fun x c e => (cells x c e).elim, fun p hp => ?_, I.hok, hlen⟩
    · obtain ⟨u, ru, hu⟩ := hl j x v e1 e2 e3
      refine ⟨u, ru, .inl ⟨?_, hu⟩⟩
      have e3 : scope.names.lookup x = some .local ∨ scope.names.lookup x = some .cell ∨ scope.names.lookup x = some .free := e3
      rcases e3 with z | z | z
      · exact z
      · exact absurd rfl (ft.plain _ (PySem.mem_of_lookup z)).1
      · exact absurd rfl (ft.plain _ (PySem.mem_of_lookup z)).2
    · rcases List.mem_append.mp hp with z | z
      · exact pinA p z
      · obtain ⟨y1, y2, y3, y4, y5⟩ := hip p z
        exact ⟨y1, (hf p.1 y2).1, y4, frst p.1 (low p.1 y2).1, y3⟩
  -- behind the stretch
  have back : ∀ {ip' : List (Addr × Obj)} {σ' : L2.St} {H1 : Hp} {s1 : Shared}, GInv (GPar.of X N qual scope f cd L) r ip' σ' H1 s1 → ∀ s2 : Shared, s2.heap = s1.heap → s2.os = s1.os → AllBare s2.gens → Inv X pins σ H1 s2 := fun {ip' σ' H1 s1} J1 s2 eh eo hb => by
    have pk : ∀ p ∈ r.pn, s1.heap.get? p.1 = some p.2 ∧ H1 p.1 = none := fun p hp => by
      obtain ⟨z1, z2, _⟩ := J1.inv.pin p (List.mem_append_left _ hp)
      exact ⟨z1, z2⟩
    refine inv_back (L := L) I (eo.trans J1.inv.os) hb (by rw [eh]; exact J1.inv.base) (by rw [eh]; exact J1.inv.hok) ft.szL ft.celL ?_ fun p hp => ?_
    · rcases ft.locL with z | z
      · exact .inl z
      · refine .inr ?_
        have hmem : (X.env.locals, oX) ∈ r.pn := by
          refine List.mem_append_right _ (List.mem_cons_of_mem _ ?_)
          show _ ∈ (if X.env.locals < L then [] else [(X.env.locals, oX)])
          rw [if_neg (show ¬ (X.env.locals < L) from Nat.not_lt_of_gt z)]
          exact List.mem_singleton.mpr rfl
        obtain ⟨y1, y2⟩ := pk _ hmem
        rw [eh]
        exact ⟨y1.trans hoX.symm, y2⟩
    · rw [eh]; exact pk p (List.mem_append_left _ hp)
  refine next_gen1 (F := PhiG (GPar.of X N qual scope f cd L) T Fn n i r) (I.ok.hd hc) I.nolimit ft.room hgen hgs (wake r _ J hR) fun e s₁ hz he => ?_
  cases e with
  | ret x =>
    cases x with
    | ok fl =>
      have he : (fl = .ret .none ∨ fl = .next) ∧ ∃ ip σ H', GInv (GPar.of X N qual scope f cd L) r ip σ H' s₁ ∧ Fn i r.H H' := by
        cases n <;> exact he
      obtain ⟨h1, ip', σ', H1, J1, hfin⟩ := he
      refine ⟨rfl, h1, fun h' hk => hend H1 _ ?_ hfin⟩
      exact (back J1 (s₁.setGen gi .finished) rfl rfl (allBare_setGen J1.inv.bare rfl)).kept (t' := s₁.toks) hk
    | error x =>
      have he : CX X.prog X.w X.stack r.H r.s (fun _ _ _ => False) x s₁ ∧ ∀ p ∈ r.pn, s₁.heap.get? p.1 = some p.2 := by
        cases n <;> exact he
      obtain ⟨⟨_, _, _, _, _, _, _, _, _, _, _, _, hF⟩, _⟩ := he
      exact hF.elim
  | susp v gd l k c p fs =>
    cases n with
    | zero => exact he.elim
    | succ n =>
      obtain ⟨hq, x, ip', σ', H1, J1, rv, ho, wk⟩ := he
      refine ⟨hq, ?_⟩
      have bareS : (End.susp v gd l k c p fs).genState.bare = true := End.bare_of_quiet hq
      have hgs1 : ((s₁.setGen gi (End.susp v gd l k c p fs).genState).gens)[gi]? = some (End.susp v gd l k c p fs).genState := by
        refine setGen_at ?_
        obtain ⟨z, _⟩ := Array.getElem?_eq_some_iff.mp hgs
        exact Nat.lt_of_lt_of_le z hz
      have I1 := back J1 (s₁.setGen gi (End.susp v gd l k c p fs).genState) rfl rfl (allBare_setGen J1.inv.bare bareS)
      refine hout v x H1 _ (a :: L :: ip'.map (·.1)) I1 rv ho ?_ ?_
      · obtain ⟨m', hm', hl'⟩ := J1.inv.loc
        obtain ⟨oL, esL, epL, hoL, hdL, _⟩ := id hm'
        have hga := J1.inv.pin (a, oa) (List.mem_append_left _ (List.mem_append_right _ List.mem_cons_self))
        have hpi : ∀ q ∈ ip', s₁.heap.get? q.1 = some q.2 ∧ H1 q.1 = none ∧ q.1 ≠ L ∧ q.1 ∉ frs X.stack ∧ ∀ v, q.2.data ≠ .cell v := fun q hq => J1.inv.pin q (List.mem_append_right _ hq)
        refine ⟨⟨_, ip', σ', n, by omega, hgs1, fun _ => rfl, J1.inv.len, ⟨m', hm', fun j y u e1 e2 e3 => ?_⟩, fun q hq => ?_, fun r' s'' Jw hb => wk r' s'' Jw hb⟩, ⟨oa, nm, qn, hga.1, hac, had, has⟩, aL, List.mem_cons_self, List.mem_cons_of_mem _ List.mem_cons_self, fun b hb => ?_⟩
        · obtain ⟨u', ru, lk⟩ := hl' j y u e1 e2 e3
          refine ⟨u', ru, ?_⟩
          rcases lk with ⟨_, z⟩ | ⟨z, c', e', _⟩
          · exact z
          · exact (cells y c' e').elim
        · obtain ⟨y1, y2, y3, y4, y5⟩ := hpi q hq
          refine ⟨y1, List.mem_cons_of_mem _ (List.mem_cons_of_mem _ (List.mem_map.mpr ⟨q, hq, rfl⟩)), y5, y3, ?_⟩
          exact Ne.symm (J1.apart (a, oa) (List.mem_append_right _ List.mem_cons_self) q hq)
        · rcases List.mem_cons.mp hb with z | z
          · rw [z]
            exact ⟨Nat.le_of_lt aL, oa, hga.1, fun v q => by rw [had] at q; cases q⟩
          · rcases List.mem_cons.mp z with z | z
            · rw [z]
              exact ⟨Nat.le_refl _, oL, hoL, fun v q => by rw [hdL] at q; cases q⟩
            · obtain ⟨q, hq, rfl⟩ := List.mem_map.mp z
              obtain ⟨y1, y2, y3, y4, y5⟩ := hpi q hq
              exact ⟨J1.low q hq, q.2, y1, y5⟩
      · have inX : ∀ b, L ≤ b → H1 b = none → b ≠ X.env.locals → (∀ p ∈ X.pn ++ pins, p.1 ≠ b) → FpOk X pins H1 b := fun b hb hn he hp => by
          refine ⟨hn, he, fun hm => ?_, .inr (Nat.le_trans ft.szL hb), fun y c' e' z => ?_, hp⟩
          · have hm' : b ∈ frs X.stack := by
              rcases I.ok.stk with z | ⟨z, _⟩
              · rw [z]; exact hm
              · rw [z]
                show b ∈ List.filterMap (·.frame) (X.env :: X.outer)
                rw [List.filterMap_cons]
                split
                · exact hm
                · exact List.mem_cons_of_mem _ hm
            exact frst b hb hm'
          · have := ft.celL y c' e'
            rw [z] at this
            exact absurd (Nat.lt_of_lt_of_le this hb) (Nat.lt_irrefl _)
        intro b hb
        rcases List.mem_cons.mp hb with z | z
        · rw [z]
          have hga := J1.inv.pin (a, oa) (List.mem_append_left _ (List.mem_append_right _ List.mem_cons_self))
          exact inX a (Nat.le_of_lt aL) hga.2.1 fa.2.1 fa.2.2.2.2.2
        · rcases List.mem_cons.mp z with z | z
          · rw [z]
            exact inX L (Nat.le_refl _) J1.inv.free fL.2.1 fL.2.2.2.2.2
          · obtain ⟨q, hq, rfl⟩ := List.mem_map.mp z
            obtain ⟨y1, y2, y3, y4, y5⟩ := J1.inv.pin q (List.mem_append_right _ hq)
            refine inX q.1 (J1.low q hq) y2 (fun z => ?_) fun p hp => J1.apart p (List.mem_append_left _ hp) q hq
            rcases ft.locL with w | w
            · rw [← z] at w
              exact absurd (Nat.lt_of_lt_of_le w (J1.low q hq)) (Nat.lt_irrefl _)
            · have hmem : (X.env.locals, oX) ∈ r.pn := by
                refine List.mem_append_right _ (List.mem_cons_of_mem _ ?_)
                show _ ∈ (if X.env.locals < L then [] else [(X.env.locals, oX)])
                rw [if_neg (show ¬ (X.env.locals < L) from Nat.not_lt_of_gt w)]
                exact List.mem_singleton.mpr rfl
              exact J1.apart _ hmem q hq z.symm
end My
/-! for and list comprehensions over a generator. -/
namespace My
open PySem PySem.Spec PyProof.Rows L2 GenW
/-- what a generator does, for its taker: what it wants at its first wake; what it hands out at turn i by the heap at the wake; what it wants at the wake behind turn i; its end -/
structure GSpec where
  start : Hp → Prop
  out : Nat → Hp → V → Hp → Prop
  back : Nat → Hp → Hp → Prop
  fin : Nat → Hp → Hp → Prop
def GSpec.prt (sp : GSpec) : Prt := ⟨sp.out, sp.back⟩
abbrev TIg := L2.St → Hp → (GSpec → Hp → Prop) → Prop
/-- a generator has come -/
def PIGE (X : Cx) (pins : List (Addr × Obj)) (σ : L2.St) (R : GSpec → Hp → Prop) (u : Value) (s : Shared) : Prop :=
  ∃ (N : List Str) (qual : Str) (scope : Scope) (f : Addr) (cd : Value) (L : Addr) (tot a gi : Nat) (fp : List Addr) (sp : GSpec) (H : Hp), u = .ref a ∧ Inv X pins σ H s ∧ GFit (GPar.of X N qual scope f cd L) X ∧ X.env.locals < L ∧ (∀ p ∈ X.pn ++ pins, p.1 < L) ∧
    GAt (GPar.of X N qual scope f cd L) sp.prt sp.fin tot a gi 0 sp.start fp s ∧ (∀ b ∈ fp, FpOk X pins H b) ∧ R sp H
structure PIG (X : Cx) (iter : Expr) (wi : TIg) : Prop where
  run : ∀ (pins : List (Addr × Obj)) (s : Shared) (σ : L2.St) (H : Hp) (R : GSpec → Hp → Prop), Inv X pins σ H s → wi σ H R → wpAny (model X.prog X.w) X.A (eval iter X.env) (PIGE X pins σ R) X.xe s
theorem GAt.iter {g : GPar} {T : Prt} {Fn : Nat → Hp → Hp → Prop} {tot a gi i : Nat} {Rq : Hp → Prop} {fp : List Addr} {s : Shared} (h : GAt g T Fn tot a gi i Rq fp s) {P : Program} {w : World} {A : Around} {Q : Value → Shared → Prop} {E : Value → Shared → Prop} (q : Q (.ref a) s) :
    wpAny (model P w) A (pyIter (.ref a)) Q E s := wpAny_pyIter_gen h.gen q
theorem GAt.go {g : GPar} {T : Prt} {Fn : Nat → Hp → Hp → Prop} {tot a gi i : Nat} {Rq : Hp → Prop} {fp : List Addr} {s : Shared} (h : GAt g T Fn tot a gi i Rq fp s) {M : Model} {A : Around} {tg : Expr} {u : Value} {Q : Unit → Shared → Prop} {E : Value → Shared → Prop} (q : Q () s) :
    wpAny M A (letOwnedTupleGo tg (.ref a) u) Q E s := by
  obtain ⟨o, nm, qn, ho, hc, hd, _⟩ := h.gen
  exact go_of ho hc hd (by decide) q
/-- it stands behind what ran with its objects pinned -/
theorem GAt.slept {X : Cx} {g : GPar} {T : Prt} {Fn : Nat → Hp → Hp → Prop} {tot a gi i : Nat} {Rq : Hp → Prop} {fp : List Addr} {s s1 s' : Shared} {h0 : Heap} {pins : List (Addr × Obj)} {σ : L2.St} {H : Hp} (h : GAt g T Fn tot a gi (i + 1) Rq fp s) (k : Kept s s1 s') (I : Inv X (pins ++ pinsAt fp h0) σ H s1)
    (e0 : ∀ b ∈ fp, s.heap.get? b = h0.get? b) : GAt g T Fn tot a gi (i + 1) Rq fp s' ∧ (∀ b ∈ fp, s'.heap.get? b = h0.get? b) ∧ ∀ b ∈ fp, H b = none := by
  have key : ∀ b ∈ fp, s'.heap.get? b = h0.get? b ∧ H b = none := fun b hb => by
    obtain ⟨_, o, ho, _⟩ := h.low b hb
    rw [e0 b hb] at ho
    obtain ⟨z1, z2, _⟩ := I.pin (b, o) (List.mem_append_right _ (List.mem_append_right _ (mem_pinsAt hb ho)))
    rw [k.heap]
    exact ⟨z1.trans ho.symm, z2⟩
  refine ⟨h.keep (fun b hb o e => ?_) fun S e hs => k.gens gi S e (hs (Nat.succ_ne_zero i)), fun b hb => (key b hb).1, fun b hb => (key b hb).2⟩
  rw [(key b hb).1, ← e0 b hb]; exact e
def tForG (wi : TIg) (g : TG) (tb : TS) : TS := fun D σ H => wi σ H fun sp H1 => sp.start H1 ∧ ∃ W : Nat → Nat → L2.St → Hp → Prop, (∃ m, W 0 m σ H1) ∧ ∀ i m σ H, W i m σ H →
  (∀ H', sp.fin i H H' → D.nx σ H') ∧ ∀ x H', sp.out i H x H' → ∃ N : L2.St → Hp → Prop, (∀ σ' H'', N σ' H'' → sp.back i H' H'' ∧ ∃ m', m' < m ∧ W (i + 1) m' σ' H'') ∧ g x σ H' fun σ2 H2 => tb { D with nx := N, ct := N, bk := D.nx } σ2 H2
section
variable {X : Cx} {tg iter : Expr} {body : List Stmt} {wi : TIg} {g : TG} {tb : TS} {pos : Pos}
theorem ps_forG0 (hx : ∀ e s, X.xe e s → False) (hc : X.calm = true) (hi : PIG X iter wi) (hg : PG X tg g) (hb : PSs X body tb)
    (hs : ∀ x, foldedSetIterable iter X.env x = pure x := by intro _; rfl) : PS X (.For tg iter body [] pos) (tForG wi g tb) := by
  have hp : PassesOwn (model X.prog X.w) X.A X.env X.xe := fun e s' h => (hx e s' h).elim
  refine ⟨fun pins s σ H D I h => ?_⟩
  refine wpAny_For (thn (hi.run pins s σ H _ I h) fun v s1 h1 => ?_) hs
  obtain ⟨N, qual, scope, f, cd, L, tot, a, gi, fp0, sp, H1, e, I1, ft, lL, _, G1, f1, hst, W, ⟨m0, w0⟩, turn⟩ := h1
  subst e
  refine G1.iter ?_
  refine codeAny_forLoop_any (fun n s' => ∃ i σ' H' fp Rq, Inv X pins σ' H' s' ∧ GAt (GPar.of X N qual scope f cd L) sp.prt sp.fin tot a gi i Rq fp s' ∧ Rq H' ∧ (∀ b ∈ fp, FpOk X pins H' b) ∧ W i n σ' H') ?_ m0 ⟨0, σ, H1, fp0, _, I1, G1, hst, f1, w0⟩
  rintro n s3 ⟨i, σ3, H3, fp, Rq, I3, G3, r3, f3, w3⟩
  obtain ⟨tend, tout⟩ := turn i n σ3 H3 w3
  refine wpAny_passesOwn hp (gat_next ft hc I3 G3 f3 r3 (fun u x H4 s4 fp4 I4 rv ho G4 f4 => ?_) fun H4 s4 I4 hf => ?_)
  · refine wpAny_passesOwn hp (G4.go ?_)
    obtain ⟨Nx, hN, q4⟩ := tout x H4 ho
    have ob4 : ∀ b ∈ fp4, ∃ o, s4.heap.get? b = some o ∧ ∀ v, o.data ≠ .cell v := fun b hb => (G4.low b hb).2
    have I4' := I4.pinned f4 ob4
    refine wpAny_passesOwn hp (wpAny_mono (wpAny_asleep (hg.run _ (lulled s4) σ3 H4 x u _ (Inv.lulled I4') rv q4)) (fun _ s6 h6 => ?_) fun e s' ⟨s1, _, z⟩ => (hx e s1 z).elim)
    obtain ⟨s6', k6, σ6, H6, I6, q6⟩ := h6
    obtain ⟨G6, e6, n6⟩ := G4.slept k6 I6 (fun b _ => rfl)
    have I6' := Inv.awake I6 k6 I4.bare
    refine wpAny_passesOwn hp (wpAny_mono (wpAny_asleep (hb.run _ (lulled s6) σ6 H6 _ (Inv.lulled I6') q6)) (fun fl s7 h7 => ?_) fun e s' ⟨s1, _, z⟩ => (hx e s1 z).elim)
    obtain ⟨s7', k7, q7⟩ := h7
    have again : ∀ {σ7 : L2.St} {H7 : Hp}, Inv X (pins ++ pinsAt fp4 s4.heap) σ7 H7 s7' → Nx σ7 H7 → ∃ m, m < n ∧ ∃ i σ' H' fp Rq, Inv X pins σ' H' s7 ∧ GAt (GPar.of X N qual scope f cd L) sp.prt sp.fin tot a gi i Rq fp s7 ∧ Rq H' ∧ (∀ b ∈ fp, FpOk X pins H' b) ∧ W i m σ' H' := fun {σ7 H7} I7 n7 => by
      obtain ⟨hbk, m', hm, w7⟩ := hN σ7 H7 n7
      obtain ⟨G7, _, n7'⟩ := G6.slept k7 I7 e6
      exact ⟨m', hm, i + 1, σ7, H7, fp4, _, (Inv.awake I7 k7 I6'.bare).unpinned, G7, hbk, fun b hb => ⟨n7' b hb, (f4 b hb).2⟩, w7⟩
    cases fl with
    | next => obtain ⟨σ7, H7, I7, n7⟩ := q7; exact again I7 n7
    | cont => obtain ⟨σ7, H7, I7, n7⟩ := q7; exact again I7 n7
    | brk => obtain ⟨σ7, H7, I7, q7⟩ := q7; exact ⟨σ7, H7, (Inv.awake I7 k7 I6'.bare).unpinned, q7⟩
    | ret v => obtain ⟨x7, σ7, H7, I7, r7, q7⟩ := q7; exact ⟨x7, σ7, H7, (Inv.awake I7 k7 I6'.bare).unpinned, r7, q7⟩
  · exact wpAny_execs_nil ⟨σ3, H4, I4, tend H4 hf⟩
theorem ps_nox {st : Stmt} {t : TS} (h : PS X.nox st t) : PS X st t := ⟨fun pins s σ H D I hw =>
  wpAny_mono (h.run pins s σ H D (I.wish _) hw) (fun f s' q => SP.unwish q) fun _ _ z => z.elim⟩
theorem PIG.nox (h : PIG X.nox iter wi) : PIG X iter wi := ⟨fun pins s σ H R I hw => wpAny_mono (h.run pins s σ H R (I.wish _) hw) (fun u s' q => by
  obtain ⟨N, qual, scope, f, cd, L, tot, a, gi, fp, sp, H1, e, I1, r⟩ := q
  exact ⟨N, qual, scope, f, cd, L, tot, a, gi, fp, sp, H1, e, I1.unwish, ⟨r.1.kind, r.1.plain, r.1.room, r.1.frL, r.1.szL, r.1.celL, r.1.locL⟩, r.2⟩) fun _ _ z => z.elim⟩
end
/-- n turns that hand out what Y tells, while Gd stands -/
structure GWalk (sp : GSpec) (n : Nat) (Gd : Hp → Prop) (Y : Nat → Hp → V → Hp → Prop) : Prop where
  st : ∀ H, Gd H → sp.start H
  out : ∀ i H x H', Gd H → sp.out i H x H' → i < n ∧ Y i H x H'
  back : ∀ i H' H'', Gd H'' → sp.back i H' H''
  fin : ∀ i H H', Gd H → sp.fin i H H' → i = n ∧ H' = H
theorem forG_it {sp : GSpec} {n : Nat} {Gd : Hp → Prop} {Y : Nat → Hp → V → Hp → Prop} (w : GWalk sp n Gd Y) {g : TG} {tb : TS} {D : Ends} {σ : L2.St} {H : Hp} (Pv : Nat → L2.St → Hp → Prop) (h0 : Pv 0 σ H) (hG : ∀ i σ H, i ≤ n → Pv i σ H → Gd H)
    (hs : ∀ i x σ H H', i < n → Pv i σ H → Y i H x H' → g x σ H' fun σ2 H2 => tb { D with nx := Pv (i + 1), ct := Pv (i + 1), bk := D.nx } σ2 H2) (hd : ∀ σ H, Pv n σ H → D.nx σ H) :
    sp.start H ∧ ∃ W : Nat → Nat → L2.St → Hp → Prop, (∃ m, W 0 m σ H) ∧ ∀ i m σ H, W i m σ H →
      (∀ H', sp.fin i H H' → D.nx σ H') ∧ ∀ x H', sp.out i H x H' → ∃ N : L2.St → Hp → Prop, (∀ σ' H'', N σ' H'' → sp.back i H' H'' ∧ ∃ m', m' < m ∧ W (i + 1) m' σ' H'') ∧ g x σ H' fun σ2 H2 => tb { D with nx := N, ct := N, bk := D.nx } σ2 H2 := by
  refine ⟨w.st H (hG 0 σ H (Nat.zero_le _) h0), fun i m σ H => m = n - i ∧ i ≤ n ∧ Pv i σ H, ⟨n, by simp, Nat.zero_le _, h0⟩, ?_⟩
  rintro i m σ H ⟨rfl, hi, p⟩
  have q := hG i σ H hi p
  refine ⟨fun H' hf => ?_, fun x H' ho => ?_⟩
  · obtain ⟨e, e'⟩ := w.fin i H H' q hf
    subst e e'
    exact hd σ _ p
  · obtain ⟨hlt, y⟩ := w.out i H x H' q ho
    exact ⟨Pv (i + 1), fun σ' H'' p' => ⟨w.back i H' H'' (hG _ _ _ hlt p'), n - (i + 1), by omega, rfl, hlt, p'⟩, hs i x σ H H' hlt p y⟩
end My
/-! List comprehensions over a generator. -/
namespace My
open PySem PySem.Spec PyProof.Rows L2 GenW
theorem funFrames_cut {h base : Heap} {L : Nat} : ∀ l : List Env, (∀ b ∈ frs l, b < L) → h.FunFrames base l → (cutH h L).FunFrames base l := by
  intro l
  induction l with
  | nil => intro _ _; trivial
  | cons env rest ih =>
    intro hb h
    obtain ⟨hk, ⟨L', o, hf', hn', ho, hd⟩, hr⟩ := h
    have hmem : ∀ b ∈ frs rest, b ∈ frs (env :: rest) := fun b hb => by
      show b ∈ List.filterMap (·.frame) (env :: rest)
      rw [List.filterMap_cons, hf']
      exact List.mem_cons_of_mem _ hb
    have hL' : L' < L := hb L' (by
      show L' ∈ List.filterMap (·.frame) (env :: rest)
      rw [List.filterMap_cons, hf']
      exact List.mem_cons_self)
    exact ⟨hk, ⟨L', o, hf', hn', (cutH_get hL').trans ho, hd⟩, ih (fun b z => hb b (hmem b z)) hr⟩
abbrev Cx.cutAt (X : Cx) (L : Nat) : Cx := { X with s_0 := cutS X.s_0 L, ex := [] }
theorem inv_reroot {X : Cx} {pins : List (Addr × Obj)} {σ : L2.St} {H : Hp} {s : Shared} {L : Nat} (I : Inv X pins σ H s) (hL : L ≤ X.s_0.heap.objs.size) (bsL : X.base.objs.size ≤ L) (frL : ∀ b ∈ X.fs, b < L) (exL : ∀ b ∈ X.ex, L ≤ b) :
    Inv (Cx.cutAt X L) pins σ H s := by
  have hs : (cutH X.s_0.heap L).objs.size = L := cutH_size hL
  have nex : ∀ {b}, b < L → b ∉ X.ex := fun {b} l z => absurd (Nat.lt_of_lt_of_le l (exL b z)) (Nat.lt_irrefl _)
  refine ⟨⟨I.ok.mod, I.ok.kind, I.ok.glob, I.ok.blt, ?_, I.ok.inj, I.ok.has, fun x c h1 h2 => ?_, I.ok.hd, I.ok.frames, I.ok.stk, (fun b z => by cases z), fun b o e => ?_, ?_, (fun b o _ z => by cases z), (fun b z => by cases z), ?_, I.ok.frf⟩, I.os, I.bare,
    ⟨fun b o e n hb _ => ?_, fun b o e n hb _ => ?_, fun b o e n _ => ?_, fun b o e _ => ?_, I.base.tups, I.base.frzs, I.base.tbls⟩, I.loc, I.cell, I.free, I.freeC, I.pin, I.hok, I.len⟩
  · show (cutH X.s_0.heap L).objs.size ≤ X.env.locals
    rw [hs]; exact Nat.le_trans hL I.ok.above
  · show (cutH X.s_0.heap L).objs.size ≤ c
    rw [hs]; exact Nat.le_trans hL (I.ok.cab x c h1 h2)
  · obtain ⟨z1, z2⟩ := I.ok.bs b o e
    exact ⟨(cutH_get (Nat.lt_of_lt_of_le (Heap.lt_size e) bsL)).trans z1, z2⟩
  · show X.base.objs.size ≤ (cutH X.s_0.heap L).objs.size
    rw [hs]; exact bsL
  · exact funFrames_cut X.outer frL I.ok.funs
  · obtain ⟨l, e⟩ := cutH_of e
    exact I.base.keep b o e n hb (nex l)
  · obtain ⟨l, e⟩ := cutH_of e
    exact I.base.slot b o e n hb (nex l)
  · obtain ⟨l, e⟩ := cutH_of e
    exact I.base.free b o e n (nex l)
  · obtain ⟨l, e⟩ := cutH_of e
    exact I.base.there b o e (nex l)
section
variable {X : Cx}
/-- [elt for tg in g(..) if ..]: D the new list -/
def tLcG (wi : TIg) (g : TG) (tt : TT) (te : TE) (vs : List Nat) : TE := fun σ H Q => wi σ H fun sp H1 => ∀ D, H1 D = none → sp.start (upd H1 D (.lst [])) ∧ ∃ W : Nat → Nat → Hp → Prop, (∃ m, W 0 m (upd H1 D (.lst []))) ∧ ∀ i m H, W i m H →
  (∀ H', sp.fin i H H' → Q (.ref D) H') ∧ ∀ x H', sp.out i H x H' → ∃ Nx : Hp → Prop, (∀ H'', Nx H'' → sp.back i H' H'' ∧ ∃ m', m' < m ∧ W (i + 1) m' H'') ∧ g x (wipe σ vs) H' fun σ2 H2 => wipe σ2 vs = wipe σ vs ∧ tt σ2 H2 fun b H3 =>
    if b = true then te σ2 H3 fun y H4 => ∃ acc, H4 D = some (.lst acc) ∧ acc.length < sizeLine ∧ Nx (upd H4 D (.lst (acc ++ [y]))) else Nx H3
theorem lc_coreG {pins : List (Addr × Obj)} {s : Shared} {σ : L2.St} {H : Hp} {Q : VK} {elt tg iter : Expr} {ifs : List Expr} {scope : Scope} {own : List (Str × Nat)} {pos pos' : Pos} {wi : TIg} {g : TG} {tt : TT} {te : TE} {use : Option (Value → Sem Unit)} {Qf : Value → Shared → Prop}
    (hc : X.calm = true) (hN : X.N.Nodup) (I : Inv X pins σ H s) (hi : PIG X iter wi) (ok : BlkOk X.N X.env.scope scope own) (noc : ∀ y ∈ scope.names, y.2 ≠ .cell)
    (hg : ∀ (s : Shared) (H : Hp) (C : Addr) (cl : List (Str × Addr)) (fp : List Addr), PG (X.blk s H scope (compEnvC scope cl C X.env) fp) tg g) (ht : ∀ (s : Shared) (H : Hp) (C : Addr) (cl : List (Str × Addr)) (fp : List Addr), PTs (X.blk s H scope (compEnvC scope cl C X.env) fp) ifs tt)
    (he : ∀ (s : Shared) (H : Hp) (C : Addr) (cl : List (Str × Addr)) (fp : List Addr), PE (X.blk s H scope (compEnvC scope cl C X.env) fp) elt te) (hs : ∀ x, foldedSetIterable iter X.env x = pure x)
    (h : tLcG wi g tt te (own.map (·.2)) σ H Q)
    (hRR : ∀ D C s' m H', Inv X pins σ H' s' → Q (.ref D) H' → s'.heap.Ns C m → FpOk X pins H' C → compPost (model X.prog X.w) X.A X.xe use Qf (.ref D) C (.ok .next) s') :
    wpAny (model X.prog X.w) X.A (comprehension (.ListComp elt [⟨tg, iter, ifs, 0⟩] scope pos) scope X.env pos' (newList []) false (eval iter X.env) use) Qf X.xe s := by
  have hfree : ∀ y ∈ scope.names, y.2 = .free → ∃ c, X.env.cells.lookup y.1 = some c := fun y hy e => by
    rcases ok.free y hy e with k | k
    · exact I.ok.has _ (.inl k)
    · exact I.ok.has _ (.inr k)
  refine wpAny_comprehension_free (use := use) rfl hs (closure_ok hfree) ok.kind (fun y hy e => by rw [ok.uniq y hy, e]) (thn (hi.run pins s σ H _ I h) fun xv s2 hx => ?_)
  obtain ⟨gN, gqual, gscope, gf, gcd, L, tot, a, gi, fp, sp, H2, e, I2, ft, lL, pL, G2, f2, q⟩ := hx
  subst e
  refine G2.iter ?_
  refine wpAny_newObj_type (newEnv_comp ?_) (by show 0 ≤ sizeLine; decide)
  generalize hD : s2.heap.objs.size = D
  have hDn : H2 D = none := I2.hok.fresh (Nat.le_of_eq hD)
  obtain ⟨hst, W, ⟨m0, w0⟩, turn⟩ := q D hDn
  generalize hs3 : ({ s2 with heap := s2.heap.push { cls := .type "list", data := .seq ([] : List Value).toArray } } : Shared) = s3
  have I3 : Inv X pins σ (upd H2 D (.lst [])) s3 := by
    rw [← hs3]
    refine I2.laid (t' := s2.toks) (fun b o e => Heap.get?_push_of_some _ e) (Nat.le_of_eq hD) ⟨Nat.zero_le _, [], 0, .nil, ?_⟩
    rw [← hD]
    exact Heap.get?_push_size _ rfl
  have h3 : s3.heap = s2.heap.push { cls := .type "list", data := .seq ([] : List Value).toArray } := by rw [← hs3]
  have g3 : s3.gens = s2.gens := by rw [← hs3]
  have sz : ∀ b ∈ fp, b < s2.heap.objs.size := fun b hb => by
    obtain ⟨_, o, e, _⟩ := G2.low b hb
    exact Heap.lt_size e
  have f3 : ∀ b ∈ fp, FpOk X pins (upd H2 D (.lst [])) b ∧ b < s3.heap.objs.size := fun b hb => by
    have hlt := sz b hb
    refine ⟨⟨?_, (f2 b hb).2⟩, by rw [h3, Heap.size_push]; exact Nat.lt_succ_of_lt hlt⟩
    rw [upd_ne (by rw [← hD]; exact Nat.ne_of_lt hlt)]
    exact (f2 b hb).1
  have G3 : GAt (GPar.of X gN gqual gscope gf gcd L) sp.prt sp.fin tot a gi 0 sp.start fp s3 := G2.keep (fun b _ o e => by rw [h3]; exact Heap.get?_push_of_some _ e) fun S e _ => by rw [g3]; exact e
  have hL3 : L < s3.heap.objs.size := (f3 L G2.Lin).2
  have I4 := block_start I3 ok hN f3
  have pg := hg (cutS s3 L) (upd H2 D (.lst [])) s3.heap.objs.size (cellsFrom (s3.heap.objs.size + 1) scope.names (cloFrom X.env.cells scope.names [])) []
  have pt := ht (cutS s3 L) (upd H2 D (.lst [])) s3.heap.objs.size (cellsFrom (s3.heap.objs.size + 1) scope.names (cloFrom X.env.cells scope.names [])) []
  have pe := he (cutS s3 L) (upd H2 D (.lst [])) s3.heap.objs.size (cellsFrom (s3.heap.objs.size + 1) scope.names (cloFrom X.env.cells scope.names [])) []
  show codeAny _ _ (.compStart (.ListComp elt [⟨tg, iter, ifs, 0⟩] scope pos) 0 (.ref a) (.ref D) (compEnvC scope (cellsFrom (s3.heap.objs.size + 1) scope.names (cloFrom X.env.cells scope.names [])) s3.heap.objs.size X.env)) (compPost (model X.prog X.w) X.A X.xe use Qf (.ref D) s3.heap.objs.size) { s3 with heap := pushCells (s3.heap.push { cls := .type "dict", data := .dict #[] }) scope.names }
  have ccl : ∀ x c, (compEnvC scope (cellsFrom (s3.heap.objs.size + 1) scope.names (cloFrom X.env.cells scope.names [])) s3.heap.objs.size X.env).cells.lookup x = some c → c < L := fun x c e => by
    have e : (cellsFrom (s3.heap.objs.size + 1) scope.names (cloFrom X.env.cells scope.names [])).lookup x = some c := e
    rw [← Heap.size_push s3.heap { cls := .type "dict", data := .dict #[] }] at e
    rcases cells_mem (PySem.mem_of_lookup e) with hm | ⟨z, _⟩
    · rcases cloFrom_mem hm with hm | ⟨h1, rfl⟩
      · cases hm
      · obtain ⟨c, hc⟩ := hfree _ h1 rfl
        rw [hc]
        exact ft.celL x c hc
    · exact absurd rfl (noc _ z)
  generalize hce : compEnvC scope (cellsFrom (s3.heap.objs.size + 1) scope.names (cloFrom X.env.cells scope.names [])) s3.heap.objs.size X.env = ce at I4 pg pt pe ccl ⊢
  have cL : ce.locals = s3.heap.objs.size := by subst hce; rfl
  generalize hH3 : upd H2 D (.lst []) = H3 at I3 I4 pg pt pe w0 f3 hst
  generalize hs4 : ({ s3 with heap := pushCells (s3.heap.push { cls := .type "dict", data := .dict #[] }) scope.names } : Shared) = s4 at I4 ⊢
  have g4 : s4.gens = s3.gens := by rw [← hs4]
  have G4 : GAt (GPar.of X gN gqual gscope gf gcd L) sp.prt sp.fin tot a gi 0 sp.start fp s4 := G3.keep (fun b _ o e => by rw [← hs4]; exact pushCells_keeps _ _ _ _ (Heap.get?_push_of_some _ e)) fun S e _ => by rw [g4]; exact e
  have bsL : X.base.objs.size ≤ L := Nat.le_trans I3.ok.bsz ft.szL
  have I5 : Inv (X.blk (cutS s3 L) H3 scope ce []) [] (wipe σ (own.map (·.2))) H3 s4 := inv_reroot I4 (Nat.le_of_lt hL3) bsL ft.frL fun b hb => (G2.low b hb).1
  have fB : GFit (GPar.of (X.blk (cutS s3 L) H3 scope ce []) gN gqual gscope gf gcd L) (X.blk (cutS s3 L) H3 scope ce []) := ⟨ft.kind, ft.plain, ft.room, ft.frL, Nat.le_of_eq (cutH_size (Nat.le_of_lt hL3)), ccl, .inr (by show L < ce.locals; rw [cL]; exact hL3)⟩
  have nfr : ∀ b, L ≤ b → b ∉ frs X.stack := fun b hb hm => absurd (Nat.lt_of_lt_of_le (ft.frL b hm) hb) (Nat.lt_irrefl _)
  have f5 : ∀ b ∈ fp, FpOk (X.blk (cutS s3 L) H3 scope ce []) [] H3 b := fun b hb => by
    refine ⟨(f3 b hb).1.1, ?_, nfr b (G2.low b hb).1, .inr ?_, fun x c e z => ?_, fun p hp => absurd (show p ∈ ([] : List (Addr × Obj)) ++ [] from hp) (by simp)⟩
    · show b ≠ ce.locals
      rw [cL]; exact Nat.ne_of_lt (f3 b hb).2
    · show (cutH s3.heap L).objs.size ≤ b
      rw [cutH_size (Nat.le_of_lt hL3)]; exact (G2.low b hb).1
    · have := ccl x c e
      rw [z] at this
      exact absurd (Nat.lt_of_lt_of_le this (G2.low b hb).1) (Nat.lt_irrefl _)
  have loop : codeAny (model X.prog X.w) X.A (.compLoop (.ListComp elt [⟨tg, iter, ifs, 0⟩] scope pos) 0 (.ref a) (.ref D) ce) (compPost (model X.prog X.w) X.A X.xe use Qf (.ref D) s3.heap.objs.size) s4 := by
    refine compLoop_any (fun n s' => ∃ i H' fp Rq, Inv (X.blk (cutS s3 L) H3 scope ce []) [] (wipe σ (own.map (·.2))) H' s' ∧ GAt (GPar.of X gN gqual gscope gf gcd L) sp.prt sp.fin tot a gi i Rq fp s' ∧ Rq H' ∧ (∀ b ∈ fp, FpOk (X.blk (cutS s3 L) H3 scope ce []) [] H' b) ∧ W i n H') ?_ m0 ⟨0, H3, fp, _, I5, G4, hst, f5, w0⟩
    rintro n s5 ⟨i, H5, fp5, Rq, I5, G5, r5, f5, w5⟩
    obtain ⟨tend, tout⟩ := turn i n H5 w5
    refine gat_next (X := X.blk (cutS s3 L) H3 scope ce []) fB hc I5 G5 f5 r5 (fun u x H6 s6 fp6 I6 rv ho G6 f6 => ?_) fun H6 s6 I6 hfin => ?_
    · refine G6.go ?_
      obtain ⟨Nx, hNx, q6⟩ := tout x H6 ho
      have ob6 : ∀ b ∈ fp6, ∃ o, s6.heap.get? b = some o ∧ ∀ v, o.data ≠ .cell v := fun b hb => (G6.low b hb).2
      have I6' := I6.pinned f6 ob6
      refine thnF (wpAny_mono (wpAny_asleep (pg.run _ (lulled s6) _ H6 x u _ (Inv.lulled I6') rv q6)) (fun _ _ z => z) fun e s' ⟨s1, _, z⟩ => z.elim) fun _ s8 h8 => ?_
      obtain ⟨s8', k8, σ8, H8, I8, hw8, q8⟩ := h8
      obtain ⟨G8, e8, n8⟩ := G6.slept k8 I8 (fun b _ => rfl)
      have I8' := Inv.awake I8 k8 I6.bare
      refine thnF (wpAny_mono (wpAny_asleep (pt.run _ (lulled s8) σ8 H8 _ (Inv.lulled I8') q8)) (fun _ _ z => z) fun e s' ⟨s1, _, z⟩ => z.elim) fun b s9 h9 => ?_
      obtain ⟨s9', k9, H9, I9, q9⟩ := h9
      obtain ⟨G9, e9, n9⟩ := G8.slept k9 I9 e8
      have I9' := Inv.awake I9 k9 I8'.bare
      have fin : ∀ {s' s'' : Shared} {H' : Hp} {s0 : Shared}, GAt (GPar.of X gN gqual gscope gf gcd L) sp.prt sp.fin tot a gi (i + 1) (sp.prt.back i H6) fp6 s' → Inv (X.blk (cutS s3 L) H3 scope ce []) ([] ++ pinsAt fp6 s6.heap) σ8 H' s' → (∀ b ∈ fp6, H' b = none) → Nx H' →
          ∃ m, m < n ∧ ∃ i H' fp Rq, Inv (X.blk (cutS s3 L) H3 scope ce []) [] (wipe σ (own.map (·.2))) H' s' ∧ GAt (GPar.of X gN gqual gscope gf gcd L) sp.prt sp.fin tot a gi i Rq fp s' ∧ Rq H' ∧ (∀ b ∈ fp, FpOk (X.blk (cutS s3 L) H3 scope ce []) [] H' b) ∧ W i m H' := fun {s' s'' H' s0} G' I' n' nx => by
        obtain ⟨hbk, m', hm, w'⟩ := hNx H' nx
        have hl : (wipe σ (own.map (·.2))).length = σ8.length := by rw [← hw8, wipe_length]
        refine ⟨m', hm, i + 1, H', fp6, _, (I'.unpinned (pins := [])).weak hl (fun j v e => ?_), G', hbk, fun b hb => ⟨n' b hb, (f6 b hb).2⟩, w'⟩
        rw [← hw8] at e
        exact (wipe_some e).1
      cases b with
      | false =>
        simp only [Bool.false_eq_true, if_false] at q9 ⊢
        exact fin (s'' := s9) (s0 := s9) G9 I9' n9 q9
      | true =>
        simp only [if_true] at q9 ⊢
        refine thnF (wpAny_mono (wpAny_asleep (pe.run _ (lulled s9) σ8 H9 _ (Inv.lulled I9') q9)) (fun _ _ z => z) fun e s' ⟨s1, _, z⟩ => z.elim) fun z s10 h10 => ?_
        obtain ⟨s10', k10, yv, H10, I10, r10, acc, hD10, hz10, nx⟩ := h10
        obtain ⟨G10, e10, n10⟩ := G9.slept k10 I10 e9
        have I10' := Inv.awake I10 k10 I9'.bare
        refine thnF (wpAny_mono (wpAny_asleep (app_ok (X := X.blk (cutS s3 L) H3 scope ce []) (E := fun _ _ => False) (Q := fun _ s' => Inv (X.blk (cutS s3 L) H3 scope ce []) ([] ++ pinsAt fp6 s6.heap) σ8 (upd H10 D (.lst (acc ++ [yv]))) s') (Inv.lulled I10') hD10 hz10 r10 fun s11 I11 => I11)) (fun _ _ z => z) fun e s' ⟨s1, _, z⟩ => z.elim) fun _ s11 h11 => ?_
        obtain ⟨s11', k11, I11⟩ := h11
        obtain ⟨G11, e11, n11⟩ := G10.slept k11 I11 e10
        exact fin (s'' := s11) (s0 := s11) G11 (Inv.awake I11 k11 I10'.bare) n11 nx
    · have qq := tend H6 hfin
      have u6 : Un (frs X.stack) [] H3 H6 (cutH s3.heap L) s6.heap := I6.base
      have I7 : Inv X pins σ H6 s6 := by
        refine inv_back (L := L) I3 I6.os I6.bare u6 I6.hok ft.szL ft.celL (.inl lL) fun p hp => ?_
        obtain ⟨z1, z2, z3, z4, z5⟩ := I3.pin p hp
        have zc : (cutH s3.heap L).get? p.1 = some p.2 := (cutH_get (pL p hp)).trans z1
        refine ⟨u6.keep p.1 p.2 zc z2 (fun hm => ?_) (fun z => by cases z), u6.free p.1 p.2 zc z2 (fun z => by cases z)⟩
        rcases List.mem_cons.mp (I3.stkSub p.1 hm) with y | y
        · exact z3 y
        · exact z4 y
      have nC : H6 s3.heap.objs.size = none := by
        have z : H6 ce.locals = none := I6.free
        rw [cL] at z
        exact z
      obtain ⟨m, hn, _⟩ := I6.loc
      have hn : s6.heap.Ns ce.locals m := hn
      rw [cL] at hn
      exact hRR D s3.heap.objs.size s6 m H6 I7 qq hn (I3.fpOk (Nat.le_refl _) nC)
  exact codeAny_compStart_list loop (G4.iter loop)
/-- as a value -/
theorem pe_lcG {elt tg iter : Expr} {ifs : List Expr} {scope : Scope} {own : List (Str × Nat)} {pos : Pos} {wi : TIg} {g : TG} {tt : TT} {te : TE} (hc : X.calm = true) (hN : X.N.Nodup) (hi : PIG X iter wi) (ok : BlkOk X.N X.env.scope scope own) (noc : ∀ y ∈ scope.names, y.2 ≠ .cell)
    (hg : ∀ (s : Shared) (H : Hp) (C : Addr) (cl : List (Str × Addr)) (fp : List Addr), PG (X.blk s H scope (compEnvC scope cl C X.env) fp) tg g) (ht : ∀ (s : Shared) (H : Hp) (C : Addr) (cl : List (Str × Addr)) (fp : List Addr), PTs (X.blk s H scope (compEnvC scope cl C X.env) fp) ifs tt)
    (he : ∀ (s : Shared) (H : Hp) (C : Addr) (cl : List (Str × Addr)) (fp : List Addr), PE (X.blk s H scope (compEnvC scope cl C X.env) fp) elt te) (hs : ∀ x, foldedSetIterable iter X.env x = pure x := by intro _; rfl) :
    PE X (.ListComp elt [⟨tg, iter, ifs, 0⟩] scope pos) (tLcG wi g tt te (own.map (·.2))) := by
  refine ⟨fun pins s σ H Q I h => ?_⟩
  rw [eval_ListComp]
  refine lc_coreG hc hN I hi ok noc hg ht he hs h fun D C s' m H' I' q hn f => ⟨m, hn, fun h'' sb => ?_⟩
  obtain ⟨f0, f1, f2, f3, f4, f5⟩ := f
  exact ⟨.ref D, H', I'.turned (t' := s'.toks) (fun b o hb e => (sb.2 b hb).trans e) f0 f1 f3 f4 f5, rfl, q⟩
/-- name = [..] on one line, the name a local -/
theorem ps_setLcG {i : Nat} {y : Str} {py : Pos} {elt tg iter : Expr} {ifs : List Expr} {scope : Scope} {own : List (Str × Nat)} {pos spos : Pos} {wi : TIg} {g : TG} {tt : TT} {te : TE} (hc : X.calm = true) (hN : X.N.Nodup) (hy : X.N[i]? = some y) (hyl : X.env.scope.names.lookup y = some .local)
    (hsw : swapsWith (.ListComp elt [⟨tg, iter, ifs, 0⟩] scope pos) (some (.Name y py)) spos.line X.env = pure true) (hi : PIG X iter wi) (ok : BlkOk X.N X.env.scope scope own) (noc : ∀ y ∈ scope.names, y.2 ≠ .cell)
    (hg : ∀ (s : Shared) (H : Hp) (C : Addr) (cl : List (Str × Addr)) (fp : List Addr), PG (X.blk s H scope (compEnvC scope cl C X.env) fp) tg g) (ht : ∀ (s : Shared) (H : Hp) (C : Addr) (cl : List (Str × Addr)) (fp : List Addr), PTs (X.blk s H scope (compEnvC scope cl C X.env) fp) ifs tt)
    (he : ∀ (s : Shared) (H : Hp) (C : Addr) (cl : List (Str × Addr)) (fp : List Addr), PE (X.blk s H scope (compEnvC scope cl C X.env) fp) elt te) (hs : ∀ x, foldedSetIterable iter X.env x = pure x := by intro _; rfl) :
    PS X (.Assign [.Name y py] (.ListComp elt [⟨tg, iter, ifs, 0⟩] scope pos) spos) (tAsg (tLcG wi g tt te (own.map (·.2))) (gName i)) := by
  refine ⟨fun pins s σ H D I h => ?_⟩
  rw [exec_Assign_Name_used _ _ _ _ hsw]
  refine wpAny_bind (wpAny_standAt (wpAny_bind ?_))
  show wpAny _ X.A (do let _ ← comprehension (.ListComp elt [⟨tg, iter, ifs, 0⟩] scope pos) scope X.env (firstIterPos [⟨tg, iter, ifs, 0⟩] pos) (newList []) false (eval iter X.env) (some (assign (.Name y py) X.env))) _ _ s
  have h : tLcG wi g tt te (own.map (·.2)) σ H (fun x H1 => gName i x σ H1 D.nx) := h
  refine wpAny_bind (thn (lc_coreG (Qf := fun _ s' => SP X pins D .next s') hc hN I hi ok noc hg ht he hs h fun L C s' m H' I' q hn f => ?_) fun _ s' hq => wpAny_pure (wpAny_pure hq))
  show wpAny _ _ (assign (.Name y py) X.env (.ref L)) _ _ _
  refine wpAny_assign_Name (store_ok2 (v := V.ref L) I' hN hy (.inl hyl) rfl (fun s2 I2 ⟨a, sb, ha⟩ => ?_) (.inr hyl))
  obtain ⟨f0, f1, f2, f3, f4, f5⟩ := f
  have haC : C ≠ a := by
    rcases ha with z | z
    · rw [z]; exact f1
    · exact fun e => f4 y a z e.symm
  refine ⟨m, hn.sameBut sb haC, fun h3 sb3 => ?_⟩
  exact ⟨_, H', I2.turned (t' := s2.toks) (fun b o hb e => (sb3.2 b hb).trans e) f0 f1 f3 f4 f5, q⟩
end
theorem lcG_it {sp : GSpec} {n : Nat} {Gd : Hp → Prop} {Y : Nat → Hp → V → Hp → Prop} (w : GWalk sp n Gd Y) {g : TG} {tt : TT} {te : TE} {vs : List Nat} {σ : L2.St} {H1 : Hp} {D : Addr} {Qd : Hp → Prop} (Pv : Nat → Hp → Prop) (h0 : Pv 0 (upd H1 D (.lst []))) (hG : ∀ i H, i ≤ n → Pv i H → Gd H)
    (hs : ∀ i x H H', i < n → Pv i H → Y i H x H' → g x (wipe σ vs) H' fun σ2 H2 => wipe σ2 vs = wipe σ vs ∧ tt σ2 H2 fun b H3 =>
      if b = true then te σ2 H3 fun y H4 => ∃ acc, H4 D = some (.lst acc) ∧ acc.length < sizeLine ∧ Pv (i + 1) (upd H4 D (.lst (acc ++ [y]))) else Pv (i + 1) H3) (hd : ∀ H, Pv n H → Qd H) :
    sp.start (upd H1 D (.lst [])) ∧ ∃ W : Nat → Nat → Hp → Prop, (∃ m, W 0 m (upd H1 D (.lst []))) ∧ ∀ i m H, W i m H →
      (∀ H', sp.fin i H H' → Qd H') ∧ ∀ x H', sp.out i H x H' → ∃ Nx : Hp → Prop, (∀ H'', Nx H'' → sp.back i H' H'' ∧ ∃ m', m' < m ∧ W (i + 1) m' H'') ∧ g x (wipe σ vs) H' fun σ2 H2 => wipe σ2 vs = wipe σ vs ∧ tt σ2 H2 fun b H3 =>
        if b = true then te σ2 H3 fun y H4 => ∃ acc, H4 D = some (.lst acc) ∧ acc.length < sizeLine ∧ Nx (upd H4 D (.lst (acc ++ [y]))) else Nx H3 := by
  refine ⟨w.st _ (hG 0 _ (Nat.zero_le _) h0), fun i m H => m = n - i ∧ i ≤ n ∧ Pv i H, ⟨n, by simp, Nat.zero_le _, h0⟩, ?_⟩
  rintro i m H ⟨rfl, hi, p⟩
  have q := hG i H hi p
  refine ⟨fun H' hf => ?_, fun x H' ho => ?_⟩
  · obtain ⟨e, e'⟩ := w.fin i H H' q hf
    subst e e'
    exact hd _ p
  · obtain ⟨hlt, y⟩ := w.out i H x H' q ho
    exact ⟨Pv (i + 1), fun H'' p' => ⟨w.back i H' H'' (hG _ _ hlt p'), n - (i + 1), by omega, rfl, hlt, p'⟩, hs i x H H' hlt p y⟩
end My
/-! A generator def by its body; its calls. -/
namespace My
open PySem PySem.Spec PyProof.Rows L2 GenW
/-- a generator def's promise: what it does when it is called with these -/
abbrev SpGn := List V → GSpec → Prop
structure GDef (P : Program) (w : World) (K : PySem.W.Frag) (mg : Str → Option Value) (base : Heap) (k : Nat) (f : Addr) (fd : FuncData) (ps : List Str) (sp : SpGn) : Prop where
  len : ∀ vs s, sp vs s → vs.length = ps.length
  run : ∀ (X : Cx) (pins : List (Addr × Obj)) (σ : L2.St) (H : Hp) (s : Shared) (args : Args) (us : List Value) (vs : List V) (gs : GSpec), X.prog = P → X.w = w → X.K = K → X.mg = mg → X.base = base → X.calm = true → Room k X.A → Inv X pins σ H s → BindsTo s fd args (ps.zip us) → Vals vs us → sp vs gs →
    codeAny (model P w) X.A (.call (.ref f) args) (fun r s' => match r with | .ok (.ret u) => PIGE X pins σ (fun g' H' => g' = gs ∧ H' = H) u s' | _ => False) s
theorem gdef_of {P : Program} {w : World} {K : PySem.W.Frag} {mg : Str → Option Value} {base : Heap} {k : Nat} {f : Addr} {name qual : Str} {params : Arguments} {body : List Stmt} {scope : Scope} {dV kV doc pm cdv ct oc : Value} {an od : Option Addr}
    {osl : Array (Option Value)} {N ps : List Str} {sp : SpGn} (lk : K.lookup f = some ⟨oc, od, .func (PySem.W.fnOf name qual params body scope dV kV doc pm an cdv ct), osl⟩) (hcd : PySem.W.codeIn K cdv qual = true) (S : GScope N ps scope) (noc : ∀ y ∈ scope.names, y.2 ≠ .cell)
    (len : ∀ vs s, sp vs s → vs.length = ps.length)
    (hbody : ∀ (A : Around) (outer : List Env) (L : Addr) (vs : List V) (gs : GSpec), Room k (A.deeper (envOfC qual scope L f cdv)) → sp vs gs →
      ∃ tot t, GS1s ⟨P, w, K, mg, base, N, qual, scope, f, cdv, A, outer, L, fun _ _ _ => False⟩ gs.prt tot body t ∧ ∀ H, gs.start H → t { nx := fun i Hw _ H' => gs.fin i Hw H', rt := fun i Hw v H' => v = .non ∧ gs.fin i Hw H' } 0 H (start N vs) H) :
    GDef P w K mg base (k + 2) f (PySem.W.fnOf name qual params body scope dV kV doc pm an cdv ct) ps sp := by
  refine ⟨len, fun X pins σ H s args us vs gs hP hw hK hmg hba hc hr I hb r hsp => ?_⟩
  subst hP hw hK hmg hba
  have e0 := I.env0
  have hl := len _ _ hsp
  have KX : X.K.In s.heap := I.kIn
  have hkind : ∀ y ∈ ps.zip us, scope.names.lookup y.1 = some .local ∨ (scope.names.lookup y.1 = some .cell ∧ ((cellsFrom (s.heap.objs.size + 1) scope.names []).lookup y.1).isSome = true) := fun ⟨n, v⟩ hy => by
    rcases S.par n (List.of_mem_zip hy).1 with q | q
    · exact .inl q
    · exact absurd rfl (noc _ (PySem.mem_of_lookup q))
  refine codeAny_call_generator hr.depth (KX _ _ lk) rfl S.co S.gen rfl (PySem.W.codeRec_of KX hcd) (hb _ _ _ _ ?_)
  refine wpAny_newFunctionEnv_cells S.kind hkind fun env he s1 x => ?_
  subst he
  have lim1 : s1.heap.NoLimit := I.nolimit.keeps x.toInCall.keep
  refine ⟨lim1, ?_⟩
  obtain ⟨h1, tk, es1, hk1⟩ := x.done
  have os1 : s1.os = s.os := by rw [es1]
  have gen1 : s1.gens = s.gens := by rw [es1]
  have lt1 : s.heap.objs.size < s1.heap.objs.size := x.toInCall.ns.lt
  have kp1 : ∀ b o, s.heap.get? b = some o → s1.heap.get? b = some o := x.toInCall.keep
  have I1 : Inv (gcxOf X.prog X.w X.K X.mg X.base N qual scope f cdv X.A X.stack s H (fun _ _ _ => False) []) [] (start N vs) H s1 := inv_startG S hr.hd e0 hl r x
  have main : ∀ (go : Obj) (nm qn : Value) (tk2 : Nat), go.cls = .type "generator" → go.data = .fields #[.int s1.gens.size 0, nm, qn] → go.slots = #[] → (∀ h : Heap, (h.push go).get? h.objs.size = some go) →
      PIGE X pins σ (fun g' H' => g' = gs ∧ H' = H) (.ref s1.heap.objs.size) { s1 with gens := s1.gens.push (.fresh (.func body (envOfC qual scope s.heap.objs.size f cdv))), toks := tk2, heap := s1.heap.push go } := by
    intro go nm qn tk2 hgc hgd0 hgs hgp
    have hpushed : (s1.heap.push go).get? s1.heap.objs.size = some go := hgp _
    have kp2 : ∀ b o, s.heap.get? b = some o → (s1.heap.push go).get? b = some o := fun b o e => Heap.get?_push_of_some _ (kp1 b o e)
    obtain ⟨tot, t, ht, hq⟩ := hbody X.A.in1 X.stack s.heap.objs.size vs gs ((hr.in1).deeper _) hsp
    obtain ⟨m, hm, hlk⟩ := I1.loc
    obtain ⟨oL, esL, epL, hoL, hdL, hrL⟩ := id hm
    have hoL' : (s1.heap.push go).get? s.heap.objs.size = some oL := Heap.get?_push_of_some _ hoL
    have ltS : ∀ b o, s.heap.get? b = some o → b < s.heap.objs.size := fun b o e => Heap.lt_size e
    have fpk : ∀ b, s.heap.objs.size ≤ b → FpOk X pins H b := fun b hb => I.fpOk hb (I.hok.fresh hb)
    refine ⟨N, qual, scope, f, cdv, s.heap.objs.size, tot, s1.heap.objs.size, s1.gens.size, [s1.heap.objs.size, s.heap.objs.size], gs, H, rfl, ?_, ?_, I.lt, fun p hp => ltS _ _ (I.pin p hp).1, ?_, fun b hb => ?_, rfl, rfl⟩
    · exact I.call' (ch := []) (s' := { s1 with gens := s1.gens.push (.fresh (.func body (envOfC qual scope s.heap.objs.size f cdv))), toks := tk2, heap := s1.heap.push go }) os1 (Un.kept kp2) (I.hok.kept kp2) (AllBare.push (by rw [gen1]; exact I.bare) rfl) fun b z => by simp at z
    · refine ⟨S.kind, fun y hy => ⟨noc y hy, S.nofree y hy⟩, hr.depth, fun b hb => ?_, I.sz, fun y c e => ?_, .inl I.lt⟩
      · obtain ⟨_, o, ho, _⟩ := I.stack.mem hb
        exact ltS b o ho
      · obtain ⟨v, o, ho, _⟩ := I.cell y c e
        exact ltS c o ho
    · refine ⟨⟨_, [], start N vs, tot, Nat.add_zero _, Array.getElem?_push_size .., fun z => absurd rfl z, I1.len, ⟨m, ⟨oL, esL, epL, hoL', hdL, hrL⟩, fun j y v e1 e2 e3 => ?_⟩, fun q hq => absurd hq (by simp), fun rt s'' Jw hst => ?_⟩, ⟨go, nm, qn, hpushed, hgc, hgd0, hgs⟩, lt1, List.mem_cons_self, List.mem_cons_of_mem _ List.mem_cons_self, fun b hb => ?_⟩
      · obtain ⟨u', ru, lk'⟩ := hlk j y v e1 e2 e3
        refine ⟨u', ru, ?_⟩
        rcases lk' with ⟨_, z⟩ | ⟨z, c', e', _⟩
        · exact z
        · have z : scope.names.lookup y = some .cell ∨ scope.names.lookup y = some .free := z
          rcases z with z | z
          · exact absurd rfl (noc _ (PySem.mem_of_lookup z))
          · exact absurd rfl (S.nofree _ (PySem.mem_of_lookup z))
      · show Seg1 _ _ _ (.func body (envOfC qual scope s.heap.objs.size f cdv)) ((model X.prog X.w).den (.func body (envOfC qual scope s.heap.objs.size f cdv))) [] s''
        refine seg1_func ?_
        refine ht.run gs.fin [] tot 0 rt _ [] _ _ id id s'' (start N vs) rt.H _ ⟨over_func, rfl, rfl, rfl⟩ (Nat.add_zero _) ⟨fun n i r' s' fl hn hs => ?_, fun n i r' e s' hx => ?_⟩ Jw (hq rt.H hst)
        · cases fl with
          | next =>
            obtain ⟨σ', H', J', hQ⟩ := hs
            exact seg1_end (.ok (.ret .none)) (phi_end ⟨.inl rfl, [], σ', H', J', hQ⟩)
          | brk => obtain ⟨_, _, _, q⟩ := hs; exact False.elim q
          | cont => obtain ⟨_, _, _, q⟩ := hs; exact False.elim q
          | ret u =>
            obtain ⟨v, σ', H', J', rv, ev, hQ⟩ := hs
            subst ev
            have eu : u = Value.none := rv
            subst eu
            exact seg1_end (.ok (.ret .none)) (phi_end ⟨.inl rfl, [], σ', H', J', hQ⟩)
        · refine seg1_wrap ?_
          rw [over_func]
          refine wpAny_mono (show wpAny (model X.prog X.w) (X.A.in1.deeper (envOfC qual scope s.heap.objs.size f cdv)) (leaving (envOfC qual scope s.heap.objs.size f cdv) e) (fun _ s'' => CX X.prog X.w X.stack r'.H r'.s (fun _ _ _ => False) e s'' ∧ ∀ p ∈ r'.pn, s''.heap.get? p.1 = some p.2) (fun _ _ => False) s' from hx) (fun _ s3 q => ?_) fun _ s3 q => q.elim
          exact seg1_end (.error e) (phi_exc q)
      · rcases List.mem_cons.mp hb with z | z
        · rw [z]
          exact ⟨Nat.le_of_lt lt1, go, hpushed, fun v q => by rw [hgd0] at q; cases q⟩
        · rw [List.mem_singleton.mp z]
          exact ⟨Nat.le_refl _, oL, hoL', fun v q => by rw [hdL] at q; cases q⟩
    · rcases List.mem_cons.mp hb with z | z
      · rw [z]; exact fpk _ (Nat.le_of_lt lt1)
      · rw [List.mem_singleton.mp z]; exact fpk _ (Nat.le_refl _)
  exact main _ _ _ _ rfl rfl rfl fun h => Heap.get?_push_size _ rfl
section
variable {X : Cx} {k : Nat} {f C : Addr} {fd : FuncData} {ps : List Str} {sp : SpGn} {dvs : List V} {ds : List Value} {x m : Str} {p pos pos' apos : Pos} {o : Expr} {ta : TE}
theorem run_gdef {pins : List (Addr × Obj)} {σ : L2.St} {H : Hp} {s : Shared} {us : List Value} {vs : List V} {gs : GSpec} {R : GSpec → Hp → Prop} {E1 : Value → Shared → Prop} (F : GDef X.prog X.w X.K X.mg X.base k f fd ps sp) (hc : X.calm = true) (hr : Room k X.A) (hb : Binds X.K fd ps ds) (hd : Vals dvs ds)
    (I : Inv X pins σ H s) (r : Vals vs us) (h : sp (vs ++ dvs) gs) (q : R gs H) : wpAny (model X.prog X.w) X.A (call (.ref f) us) (PIGE X pins σ R) E1 s := by
  have r2 : Vals (vs ++ dvs) (us ++ ds) := r.append hd
  have hl2 : (us ++ ds).length = ps.length := by rw [← r2.length]; exact F.len _ _ h
  refine wpAny_call (codeAny_mono (F.run X pins σ H s ⟨us, []⟩ (us ++ ds) (vs ++ dvs) gs rfl rfl rfl rfl rfl hc hr I (hb s us I.kIn hl2) r2 h) fun r s' hq => ?_)
  cases r with
  | error e => exact False.elim hq
  | ok fl =>
    cases fl with
    | ret u =>
      obtain ⟨N, qual, scope, f', cd, L, tot, a, gi, fp, sp', H1, a1, a2, a3, a4, a5, a6, a7, e1, e2⟩ := hq
      exact ⟨N, qual, scope, f', cd, L, tot, a, gi, fp, sp', H1, a1, a2, a3, a4, a5, a6, a7, by rw [e1, e2]; exact q⟩
    | next => exact False.elim hq
    | brk => exact False.elim hq
    | cont => exact False.elim hq
def iMethG (C : Addr) (m : Str) (sp : SpGn) (dvs : List V) (ta : TE) (t : TA) : TIg := fun σ H R => ta σ H fun x H1 => ∃ a dx fs, x = .ref a ∧ H1 a = some (.ins C dx fs) ∧ fs.lookup m = none ∧ t σ H1 fun vs H2 => ∃ gs, sp (x :: (vs ++ dvs)) gs ∧ R gs H2
/-- o.m() of a generator method -/
theorem pig_meth0 {pl : Sem Bool} (he : PE X o ta) (hc : X.calm = true) (c : Cls X.K C) (hm : Meth X.K C m f) (F : GDef X.prog X.w X.K X.mg X.base k f fd ps sp) (hr : Room k X.A) (hb : Binds X.K fd ps ds) (hd : Vals dvs ds)
    (ht : eval (.Call (.Attribute o m apos) [] [] pos') X.env = (do
      let ov ← eval o X.env
      standAt apos.atName
      let (f, first) ← holding [ov] (getMethod ov m pl)
      callWith pos' f first (backTo pos' (starEach [] X.env)) (backToKw pos' (keywordEach [] X.env))) := by rfl) :
    PIG X (.Call (.Attribute o m apos) [] [] pos') (iMethG C m sp dvs ta tNil) := by
  refine ⟨fun pins s σ H R I h => ?_⟩
  refine PySem.W.methodCall_KW (pl := pl) (thn (he.run pins s σ H _ I h) fun u s1 ⟨x, H1, I1, rx, a, dx, fs, ex, ea, l, q⟩ => ?_) ht
  subst ex
  obtain rfl : u = Value.ref a := rx
  refine getmeth_ok I1 ea c hm l ?_
  obtain ⟨gs, q1, q2⟩ := q
  exact PySem.W.callWith_K0 (first := [.ref a]) I1.kIn hm.kp (run_gdef (us := [.ref a]) (vs := [.ref a]) F hc hr hb hd I1 (.cons rfl .nil) q1 q2)
/-- o.m(e, ..) of a generator method -/
theorem pig_meth {pl : Sem Bool} {e : Expr} {es : List Expr} {t : TA} (he : PE X o ta) (hc : X.calm = true) (c : Cls X.K C) (hm : Meth X.K C m f) (F : GDef X.prog X.w X.K X.mg X.base k f fd ps sp) (hr : Room k X.A) (hb : Binds X.K fd ps ds) (hd : Vals dvs ds) (ha : PA X (e :: es) t)
    (hst : starEach (e :: es) X.env = (false, eval e X.env) :: starEach es X.env := by rfl) (hpl : (backTo pos' (starEach es X.env)).any (·.1) = false := by rfl)
    (ht : eval (.Call (.Attribute o m apos) (e :: es) [] pos') X.env = (do
      let ov ← eval o X.env
      standAt apos.atName
      let (f, first) ← holding [ov] (getMethod ov m pl)
      callWith pos' f first (backTo pos' (starEach (e :: es) X.env)) (backToKw pos' (keywordEach [] X.env))) := by rfl) :
    PIG X (.Call (.Attribute o m apos) (e :: es) [] pos') (iMethG C m sp dvs ta t) := by
  refine ⟨fun pins s σ H R I h => ?_⟩
  refine PySem.W.methodCall_KW (pl := pl) (thn (he.run pins s σ H _ I h) fun u s1 ⟨x, H1, I1, rx, a, dx, fs, ex, ea, l, q⟩ => ?_) ht
  subst ex
  obtain rfl : u = Value.ref a := rx
  refine getmeth_ok I1 ea c hm l ?_
  refine PySem.W.callWith_K (first := [.ref a]) (h₀ := X.base) I1.ok.mod.kin hm.kp (thn (ha.run pos' pins s1 σ H1 _ I1 q) fun us s2 ⟨vs, H2, I2, r, gs, q1, q2⟩ => ⟨I2.kIn, ?_⟩) hst hpl
  exact run_gdef (us := .ref a :: us) (vs := .ref a :: vs) F hc hr hb hd I2 (.cons rfl r) q1 q2
def iCallG (sp : SpGn) (dvs : List V) (t : TA) : TIg := fun σ H R => t σ H fun vs H1 => ∃ gs, sp (vs ++ dvs) gs ∧ R gs H1
/-- f(e, ..) of a generator def -/
theorem pig_call {e : Expr} {es : List Expr} {t : TA} (F : GDef X.prog X.w X.K X.mg X.base k f fd ps sp) (hc : X.calm = true) (hr : Room k X.A) (hg : Gl X x) (hm : X.mg x = some (.ref f)) (hk : PySem.W.keepIn X.K (.ref f) = true) (hb : Binds X.K fd ps ds) (hd : Vals dvs ds)
    (ha : PA X (e :: es) t) (hdb : (x == ("__debug__" : Str)) = false := by decide) (he : starEach (e :: es) X.env = (false, eval e X.env) :: starEach es X.env := by rfl) (hpl : (backTo pos' (starEach es X.env)).any (·.1) = false := by rfl) :
    PIG X (.Call (.Name x p) (e :: es) [] pos') (iCallG sp dvs t) := by
  refine ⟨fun pins s σ H R I h => ?_⟩
  refine wpAny_Call_Name_kw (ld_glob I hg hm ?_ hdb)
  refine PySem.W.callWith_K (h₀ := X.base) I.ok.mod.kin hk (thn (ha.run pos' pins s σ H _ I h) fun us s1 ⟨vs, H1, I1, r, gs, q1, q2⟩ => ⟨I1.kIn, ?_⟩) he hpl
  exact run_gdef F hc hr hb hd I1 r q1 q2
end
end My
/-! Generator methods and defs by name; a generator that hands out what stands in a tuple. -/
namespace My
open PySem PySem.Spec PyProof.Rows L2
structure GMeth (P : Program) (w : World) (K : PySem.W.Frag) (mg : Str → Option Value) (base : Heap) (k : Nat) (C : Addr) (m : Str) (sp : SpGn) : Prop where
  ex : ∃ f fd, Meth K C m f ∧ GDef P w K mg base k f fd ["self"] sp ∧ L2.Binds K fd ["self"] []
theorem pig_m0 {X : Cx} {k : Nat} {C : Addr} {m : Str} {sp : SpGn} {o : Expr} {ta : TE} {pos' apos : Pos} {pl : Sem Bool} (M : GMeth X.prog X.w X.K X.mg X.base k C m sp) (hc : X.calm = true) (c : Cls X.K C) (hr : Room k X.A) (he : PE X o ta)
    (ht : eval (.Call (.Attribute o m apos) [] [] pos') X.env = (do
      let ov ← eval o X.env
      standAt apos.atName
      let (f, first) ← holding [ov] (getMethod ov m pl)
      callWith pos' f first (backTo pos' (starEach [] X.env)) (backToKw pos' (keywordEach [] X.env))) := by rfl) :
    PIG X (.Call (.Attribute o m apos) [] [] pos') (iMethG C m sp [] ta tNil) := by
  obtain ⟨f, fd, hm, F, hb⟩ := M.ex
  exact pig_meth0 he hc c hm F hr hb .nil ht
/-- it hands out what stands in the tuple at t, while the tuple stands -/
def tupG (S0 : Hp → Prop) (t : Addr) (zs : List V) : GSpec := ⟨fun H => S0 H ∧ H t = some (.tup zs), fun i Hw x H' => H' = Hw ∧ zs[i]? = some x, fun _ _ H'' => H'' t = some (.tup zs), fun i Hw H' => H' = Hw ∧ i = zs.length⟩
theorem walk_tupG {S0 : Hp → Prop} {t : Addr} {zs : List V} : GWalk (tupG S0 t zs) zs.length (fun H => S0 H ∧ H t = some (.tup zs)) (YAt zs) :=
  ⟨fun H h => h, fun i H x H' _ h => ⟨(List.getElem?_eq_some_iff.mp h.2).1, h⟩, fun i H' H'' h => h.2, fun i H H' _ h => ⟨h.2, h.1⟩⟩
/-- the reading of «for x in t: yield x» -/
theorem for_tupG {K : PySem.W.Frag} {t : Addr} {zs : List V} {S0 : Hp → Prop} {D : GEn} {σ : L2.St} {H : Hp} (ix : Nat) (h0 : H t = some (.tup zs)) (nx : ∀ σ Hw, D.nx zs.length Hw σ Hw) (hl : ix < σ.length) :
    ∃ W : Nat → Nat → Nat → Hp → L2.St → Hp → Prop, (∃ m, W 0 m 0 H σ H) ∧ ∀ j m i Hw σ H, W j m i Hw σ H →
      ((Itt K t).stop j H ∧ D.nx i Hw σ H) ∨ ((Itt K t).go j H ∧ ∃ N : Nat → Hp → L2.St → Hp → Prop, (∀ i' Hw' σ' H', N i' Hw' σ' H' → ∃ m', m' < m ∧ W (j + 1) m' i' Hw' σ' H') ∧ ∀ x H', (Itt K t).yld j H x H' → gName ix x σ H' fun σ2 H2 =>
        (tG1then (tG1yield (tupG S0 t zs).prt zs.length (tVar ix)) tG1nil) { D with nx := N, ct := N, bk := D.nx } i Hw σ2 H2) := by
  refine ⟨fun j m i Hw σ H => m = zs.length - j ∧ j ≤ zs.length ∧ i = j ∧ Hw = H ∧ H t = some (.tup zs) ∧ ix < σ.length, ⟨zs.length, by simp, Nat.zero_le _, rfl, rfl, h0, hl⟩, ?_⟩
  intro j m i Hw σ H hw
  obtain ⟨e1, hj, e2, e3, ht, hl⟩ := hw
  subst e1 e2 e3
  by_cases hlt : i < zs.length
  · refine .inr ⟨⟨zs, zs[i], SqT.of ht, by simp [hlt]⟩, fun i' Hw' σ' H' => i' = i + 1 ∧ Hw' = H' ∧ H' t = some (.tup zs) ∧ ix < σ'.length, fun i' Hw' σ' H' h => ⟨zs.length - (i + 1), by omega, rfl, hlt, h.1, h.2.1, h.2.2.1, h.2.2.2⟩, fun x H' y => ?_⟩
    obtain ⟨e, y⟩ := y
    subst e
    have hx := y zs (SqT.of ht)
    refine ⟨hlt, x, ?_, ⟨rfl, hx⟩, fun H2 hb => ?_⟩
    · rw [List.getElem?_set_self hl]
    · exact ⟨rfl, rfl, hb, by rw [List.length_set]; exact hl⟩
  · have e : i = zs.length := by omega
    subst e
    exact .inl ⟨⟨zs, SqT.of ht, Nat.le_refl _⟩, nx σ _⟩
end My
/-! len(x), x[i] = v of an instance with its own __len__, __setitem__; a property whose body reckons. -/
namespace My
open PySem PySem.Spec PySem.Calls PyProof.Rows L2
section
variable {X : Cx} {CX : CXT} {k : Nat} {C : Addr} {ps : List Str} {sp : Sp} {E : XK}
def rLenO (C : Addr) (sp : Sp) (E : XK) : List V → Hp → VK → Prop := fun xs H Q => ∃ a dx fs, xs = [.ref a] ∧ H a = some (.ins C dx fs) ∧ sp [.ref a] H (fun v H' => ∃ n : Int, v = .int n ∧ 0 ≤ n ∧ n < 2 ^ 63 ∧ Q v H') E
theorem call_lenO (M : CmpAt X.prog X.w X.K X.mg X.base CX k C "__len__" ps sp) (hr : Room (k + 1) X.A) (hx : Passes CX X E) : CallR X (.builtin "len") (rLenO C sp E) := by
  intro pins s σ H xs us Q I r h
  obtain ⟨f, fd, hs, hf, F, hb⟩ := M.ex
  obtain ⟨a, dx, fs, rfl, ha, hsp⟩ := h
  obtain ⟨u, rfl, r1⟩ := vals1 r
  obtain rfl : u = Value.ref a := r1
  obtain ⟨ox, od, J, _⟩ := ins_plain I ha
  obtain ⟨m', hF⟩ := I.fr
  have U : Und X k X.A.in1 := (Und.here hr).in1
  refine PySem.W.len_K hF I.ok.mod.kin J hs hf (wpAny_mono (run_at (vs := [.ref a]) F hb hx U I (.cons rfl .nil) hsp) (fun v s' z => ?_) fun _ _ z => z)
  obtain ⟨z, H', I', rz, n, rfl, h0, h1, q⟩ := z
  obtain ⟨t, e⟩ := (show ∃ t, v = Value.int n t from rz)
  subst e
  exact ⟨⟨h0, h1⟩, .int n, H', I'.tok _, ⟨_, rfl⟩, q⟩
/-- x[i] = v by an own __setitem__ -/
def rSetO (C : Addr) (sp : Sp) (E : XK) : TSet := fun o i v H Q => ∃ a dx fs, o = .ref a ∧ H a = some (.ins C dx fs) ∧ sp [o, i, v] H (fun _ H' => Q H') E
theorem set_own (M : CmpAt X.prog X.w X.K X.mg X.base CX k C "__setitem__" ps sp) (nq : PySem.W.noSeq X.K C = true) (hr : Room k X.A) (hx : Passes CX X E) : PSet X (rSetO C sp E) := by
  intro pins s σ H o i v ov iv u Q I ro ri rv h
  obtain ⟨f, fd, hs, hf, F, hb⟩ := M.ex
  obtain ⟨a, dx, fs, rfl, ha, hsp⟩ := h
  obtain rfl : ov = Value.ref a := ro
  obtain ⟨ox, od, J, _⟩ := ins_plain I ha
  obtain ⟨m', hF⟩ := I.fr
  refine PySem.W.ksp_setItem hF I.ok.mod.kin J nq hs hf (wpAny_mono (run_at (vs := [.ref a, i, v]) F hb hx (Und.here hr) I (.cons rfl (.cons ri (.cons rv .nil))) hsp) (fun _ s' z => ?_) fun _ _ z => z)
  obtain ⟨_, H', I', _, q⟩ := z
  exact ⟨H', I', q⟩
/-- x.f of a property whose getter is a def like any other -/
structure PropR (P : Program) (w : World) (K : PySem.W.Frag) (mg : Str → Option Value) (base : Heap) (CX : CXT) (k : Nat) (C : Addr) (x : Str) (sp : Sp) : Prop where
  ex : ∃ p g fd, PropOf K C x p g ∧ FnOk P w K mg base CX k g fd ["self"] sp ∧ L2.Binds K fd ["self"] []
theorem pe_propR {e : Expr} {f : Str} {pos : Pos} {ta : TE} (M : PropR X.prog X.w X.K X.mg X.base CX k C f sp) (c : Cls X.K C) (hr : Room (k + 1) X.A) (hx : Passes CX X.nox E) (he : PE X e ta) (hab : attributeBase e f X.env (eval e X.env) = eval e X.env := by rfl) :
    PE X (.Attribute e f pos) (tProp C sp [] E ta) := by
  obtain ⟨p, g, fd, hp, F, hb⟩ := M.ex
  exact pe_prop he c hp F hr hb .nil hx hab
end
end My
/-! An own error class E(Base(ValueError)) whose __init__ says super().__init__(f, g), self.f = f and self.g = g. -/
namespace Sup
open PySem PySem.W PySem.Calls PyProof.Rows PySem.HandSPX
def a2 (f g : Str) (p1 p2 p3 : Pos) : Arguments :=
  { posonlyargs := [], args := [{ arg := "self", annotation := none, pos := p1 }, { arg := f, annotation := none, pos := p2 }, { arg := g, annotation := none, pos := p3 }], vararg := none, kwonlyargs := [], kw_defaults := [], kwarg := none, defaults := [] }
def b2 (f g : Str) (q1 q2 q3 q4 q7 q5 q6 r1 r2 r3 r4 t1 t2 t3 t4 : Pos) : List Stmt :=
  [.Expr (.Call (.Attribute (.Call (.Name "super" q1) [] [] q2) "__init__" q3) [.Name f q4, .Name g q7] [] q5) q6, .Assign [.Attribute (.Name "self" r1) f r2] (.Name f r3) r4, .Assign [.Attribute (.Name "self" t1) g t2] (.Name g t3) t4]
def s2 (f g : Str) : Scope :=
  { kind := .function, names := [(PySem.Str.ofString "self", .local), (f, .local), (g, .local), (PySem.Str.ofString "__class__", .free), (PySem.Str.ofString "super", .globalImplicit)], isGenerator := false, isCoroutine := false, more := [] }
structure Nm2 (f g : Str) : Prop where
  f1 : (f == ("self" : Str)) = false
  f2 : (("__class__" : Str) == f) = false
  f3 : (("super" : Str) == f) = false
  f4 : (f == ("__debug__" : Str)) = false
  g1 : (g == ("self" : Str)) = false
  g2 : (("__class__" : Str) == g) = false
  g3 : (("super" : Str) == g) = false
  g4 : (g == ("__debug__" : Str)) = false
  fg : (f == g) = false
  gf : (g == f) = false
  bd : ∀ (qual : Str) (body : List Stmt) (doc pm : Value) (an : Option Addr) (cdv ct : Value) (cc : Addr) (p1 p2 p3 : Pos) (a b c : Value),
    bindArgs (ksFn "__init__" qual (a2 f g p1 p2 p3) body (s2 f g) .none .none doc pm an cdv ct cc) ⟨[a, b, c], []⟩ = pure [(("self" : Str), a), (f, b), (g, c)]
/-- what the top has written of the class x, at C, and of its __init__, at fI -/
structure Err2 (prog : Program) (K : Frag) (mg : Str → Option Value) (x f g : Str) (C fI : Addr) : Prop where
  gC : mg x = some (.ref C)
  ox : L2.OexC K C
  rd : L2.XfC K C
  nf : findIn K (.ref C) f = some none
  ng : findIn K (.ref C) g = some none
  nm : Nm2 f g
  iC : findIn K (.ref C) "__init__" = some (some (.ref fI))
  tI : typeIn K (.ref fI) = some (.type "function")
  fn : ∃ (qual : Str) (oc : Value) (od : Option Addr) (doc pm : Value) (an : Option Addr) (cda : Addr) (ct : Value) (cc : Addr) (osl : Array (Option Value)) (p1 p2 p3 q1 q2 q3 q4 q7 q5 q6 r1 r2 r3 r4 t1 t2 t3 t4 : Pos),
    K.lookup fI = some ⟨oc, od, .func (ksFn "__init__" qual (a2 f g p1 p2 p3) (b2 f g q1 q2 q3 q4 q7 q5 q6 r1 r2 r3 r4 t1 t2 t3 t4) (s2 f g) .none .none doc pm an (.ref cda) ct cc), osl⟩ ∧ codeIn K (.ref cda) qual = true ∧
    (∃ cl cld csl, K.lookup cc = some ⟨cl, cld, .cell (some (.ref C)), csl⟩) ∧ ∃ ccl cdd vs ccs file tf, K.lookup cda = some ⟨ccl, cdd, .fields vs, ccs⟩ ∧ vs[2]? = some (.str file tf) ∧ ((prog.main.file : Str) == file) = true ∧ (q3.endLine == q5.line) = true
  su : ks_superIn K C C "__init__" = some (some (.builtin "ValueError.__init__"))
  sV : subIn K (.ref C) (.type "ValueError") = some true
  sC : mroIn K C (.ref C) = some true
  gS : mg "super" = none
  oq : nsIn K cStatics "thirdparty.any" = some none
  top : (prog.main.scope.names.lookup ("super" : Str)).isSome = false
/-- what __init__ leaves of a fresh exception at x -/
structure End2 (h h' : Heap) (f g : Str) (x C dx t1 : Addr) (v u : Value) : Prop where
  keep : ∀ b o, b ≠ x → h.get? b = some o → h'.get? b = some o
  obj : h'.get? x = some { cls := .ref C, dict := some dx, data := .fields #[.ref t1, .none, .none, .none, .bool false, .none] }
  dbig : h.objs.size ≤ dx
  dne : dx ≠ x
  ns : h'.Ns1 dx (fun y => if y = g then some u else if y = f then some v else none)
theorem flip {a b : Str} (h : (a == b) = false) : (b == a) = false := by
  rw [Bool.eq_false_iff] at h ⊢
  intro y
  exact h (by rw [beq_iff_eq] at y ⊢; exact y.symm)
theorem lk2f {f g : Str} (N : Nm2 f g) : (s2 f g).names.lookup f = some .local := by
  simp only [s2, List.lookup, N.f1, beq_self_eq_true]
theorem lk2g {f g : Str} (N : Nm2 f g) : (s2 f g).names.lookup g = some .local := by
  simp only [s2, List.lookup, N.g1, N.gf, beq_self_eq_true]
theorem lk2c {f g : Str} (N : Nm2 f g) : (s2 f g).names.lookup ("__class__" : Str) = some .free := by
  have e : (("__class__" : Str) == ("self" : Str)) = false := by decide +kernel
  have e2 : (("__class__" : Str) == ("__class__" : Str)) = true := by decide +kernel
  simp only [s2, List.lookup, N.f2, N.g2, e, e2]
theorem lk2s {f g : Str} (N : Nm2 f g) : (s2 f g).names.lookup ("super" : Str) = some .globalImplicit := by
  have e : (("super" : Str) == ("self" : Str)) = false := by decide +kernel
  have e2 : (("super" : Str) == ("__class__" : Str)) = false := by decide +kernel
  have e3 : (("super" : Str) == ("super" : Str)) = true := by decide +kernel
  simp only [s2, List.lookup, N.f3, N.g3, e, e2, e3]
theorem meth_eq2 {o : Expr} {name f g : Str} {q3 q4 q7 q5 : Pos} {env : Env} (hp : (q3.endLine == q5.line) = true) :
    eval (.Call (.Attribute o name q3) [.Name f q4, .Name g q7] [] q5) env = (do
      let ov ← attributeBase o name env (eval o env)
      standAt q3.atName
      let (k, first) ← holding [ov] (getMethod ov name (do return (← importBound o env).getD true))
      callWith q5 k first (backTo q5 (starEach [.Name f q4, .Name g q7] env)) []) := by
  rw [arm_eval_Call]
  have hf : methodCallForm ([Expr.Name f q4, Expr.Name g q7].length + ([] : List Keyword).length) (backTo q5 (starEach [.Name f q4, .Name g q7] env)) (backToKw q5 (keywordEach [] env)) = true := rfl
  have e : ∀ ov, methodCall o name q3 q5 env ov ([Expr.Name f q4, Expr.Name g q7].length + ([] : List Keyword).length) (backTo q5 (starEach [.Name f q4, .Name g q7] env)) (backToKw q5 (keywordEach [] env)) = (do
      let (k, first) ← holding [ov] (getMethod ov name (do return (← importBound o env).getD true))
      callWith q5 k first (backTo q5 (starEach [.Name f q4, .Name g q7] env)) []) := fun ov => by
    unfold methodCall
    rw [hf]
    unfold calleeOf methodCallPos
    simp only [hp, Bool.not_true, Bool.false_or, if_true]
    rfl
  simp only [e]
section
variable {prog : Program} {w : World} {A : Around} {E : Value → Shared → Prop} {R : Result → Shared → Prop} {s : Shared} {K : Frag} {mg : Str → Option Value} {x f g : Str} {C fI : Addr}
theorem init2 (T : Err2 prog K mg x f g C fI) {e t0 : Addr} {v u : Value} (X : K.In s.heap) (hlim : s.heap.NoLimit) (hg : s.heap.Ns mainGlobals mg) (hb : ∃ mb, s.heap.Ns builtinsNs mb ∧ ∀ x : Str, x ≠ "__name__" → mb x = bootBuiltins x)
    (he : s.heap.get? e = some (excO C t0)) (hnx : K.lookup e = none) (hroom : A.depth < recursionLimit)
    (hq : ∀ h' tk dx t1, End2 s.heap h' f g e C dx t1 v u → R (.ok (.ret .none)) { s with heap := h', toks := tk }) :
    codeAny (model prog w) A (.call (.ref fI) ⟨[.ref e, v, u], []⟩) R s := by
  obtain ⟨qual, oc, od, doc, pm, an, cda, ct, cc, osl, p1, p2, p3, q1, q2, q3, q4, q7, q5, q6, r1, r2, r3, r4, j1, j2, j3, j4, ho, hcd, ⟨cl, cld, csl, hcell⟩, ccl, cdd, vs, ccs, file, tf, hcode, hvs, hfile, hqq⟩ := T.fn
  obtain ⟨nm, q, N, bs, bm, sn, sub, ab, col, dd, k0, k1, k2, k3, k5, hC, hbm⟩ := T.ox.cls
  obtain ⟨mb, hb1, hb2⟩ := hb
  have hcl : clsIn K C = some { name := nm, bases := bs, mro := .ref C :: bm, ns := N, qualname := q, hasDict := true, slotNames := sn, subclasses := sub, abstract := ab, collection := col, hasDel := false } := by unfold clsIn; rw [hC] <;> rfl
  have hloc : ∀ y ∈ [(("self" : Str), Value.ref e), (f, v), (g, u)], (s2 f g).names.lookup y.1 = some .local := fun y hy => by
    rcases List.mem_cons.mp hy with z | z
    · rw [z]; rfl
    · rcases List.mem_cons.mp z with z | z
      · rw [z]; exact lk2f T.nm
      · rw [List.mem_singleton.mp z]; exact lk2g T.nm
  have hsu : alongIn K "__init__" ((((Value.ref C :: bm) : List Value).dropWhile (· != .ref C)).drop 1) = some (some (.builtin "ValueError.__init__")) := by
    have z := T.su
    unfold ks_superIn at z
    rw [hcl] at z
    exact z
  refine ks_codeAny_call_defAt (fd := ksFn "__init__" qual (a2 f g p1 p2 p3) (b2 f g q1 q2 q3 q4 q7 q5 q6 r1 r2 r3 r4 j1 j2 j3 j4) (s2 f g) .none .none doc pm an (.ref cda) ct cc) (binds := [("self", .ref e), (f, v), (g, u)]) hroom (X _ _ ho) rfl hlim (codeRec_of X hcd) rfl (BindsTo.of_eq (T.nm.bd _ _ _ _ _ _ _ _ _ _ _ _ _ _))
    (by intro y hy; simp only [s2, List.mem_cons, List.mem_nil_iff, or_false] at hy; rcases hy with z | z | z | z | z <;> rw [z] <;> exact (fun w => nomatch w)) hloc (fun h1 hns kp => ?_)
  have X1 : K.In h1 := X.keeps kp
  have he1 := kp _ _ he
  have hC1 := X1 _ _ hC
  have hx0 : e ≠ C := fun z => by
    have y := X _ _ hC
    rw [← z, he] at y
    cases y
  have mself : ([(("self" : Str), Value.ref e), (f, v), (g, u)].reverse.lookup ("self" : Str)) = some (.ref e) := by
    simp only [List.reverse_cons, List.reverse_nil, List.nil_append, List.cons_append, List.lookup, flip T.nm.f1, flip T.nm.g1, beq_self_eq_true]
  have mf : ([(("self" : Str), Value.ref e), (f, v), (g, u)].reverse.lookup f) = some v := by
    simp only [List.reverse_cons, List.reverse_nil, List.nil_append, List.cons_append, List.lookup, T.nm.fg, beq_self_eq_true]
  have mg' : ([(("self" : Str), Value.ref e), (f, v), (g, u)].reverse.lookup g) = some u := by
    simp only [List.reverse_cons, List.reverse_nil, List.nil_append, List.cons_append, List.lookup, beq_self_eq_true]
  show _root_.PySem.wpAt _ _ _ (execs (b2 f g q1 q2 q3 q4 q7 q5 q6 r1 r2 r3 r4 j1 j2 j3 j4) _) _ _ _
  unfold b2
  refine ks_wpAt_execs_cons (ks_wpAt_Expr_any (ks_wpAt_MethodCall (ks_wpAt_super_base (lk2s T.nm) (lk2c T.nm) (by decide +kernel) rfl (X1 _ _ ho) rfl rfl rfl (X1 _ _ hcode) rfl hvs hfile T.top ?_) (meth_eq2 hqq)))
  refine ks_loadName_global rfl (lk2s T.nm) (loadGlobal_builtin (hg.keeps kp) T.gS (hb1.keeps kp) ((hb2 _ (by decide +kernel)).trans (by decide +kernel : bootBuiltins "super" = some (.type "super"))) ⟨rfl, ?_⟩)
  refine wpAny_loadName_free rfl (lk2c T.nm) rfl ⟨_, X1 _ _ hcell, rfl⟩ ?_
  refine wpAny_loadName_local rfl rfl hns mself ?_
  refine ks_wpAny_isType_cls hC1 rfl ⟨rfl, ?_⟩
  refine ks_wpAny_call_super hC1 rfl he1 rfl (fun c z => nomatch z) (looks_mroIn X1 T.sC) (fun h2 hso k2 => ?_)
  have X2 : K.In h2 := X1.keeps k2
  have he2 := k2 _ _ he1
  have I2 : InstAt h2 e (excO C t0) C none := ⟨he2, rfl, rfl, trivial⟩
  refine kxs_getMethod kxs_ValueError hso (looks_opaque X2 T.oq) (l₀ := .ref C :: bm) (fun A Q E s k q => wpAny_bind ((looks_clsIn X2 hcl) A _ E s k (wpAny_pure q))) rfl X2 hsu (I2.type.andThen (looks_subIn X2 T.sV)) hx0 (by decide +kernel) ?_
  refine kxs_callWith (i := "ValueError.__init__") (x := e) rfl ?_
  have hns2 := hns.keeps k2
  have k3 : ∀ b o, h2.get? b = some o → (h2.push (kxs_mw "ValueError.__init__" e)).get? b = some o := fun b o z => Heap.get?_push_of_some _ z
  refine evalArgs_plain (Calls.spliced_cons (ldc rfl (lk2f T.nm) (hns2.keeps k3) mf (Calls.spliced_cons (ldc rfl (lk2g T.nm) (hns2.keeps k3) mg' (Calls.spliced_nil ⟨Heap.get?_push_size _ rfl, ?_⟩) T.nm.g4)) T.nm.f4))
  show wpAny _ _ (call (.ref h2.objs.size) [v, u]) _ _ _
  refine call_mw (X2.keeps k3 _ _ hC) (k3 _ _ he2) (Heap.get?_push_size _ rfl) (by rw [sizeLine_eq]; exact (by decide : 2 ≤ 16777216)) fun h4 t1 k4 he4 => ?_
  have kall : ∀ b o, b ≠ e → s.heap.get? b = some o → h4.get? b = some o := fun b o hb z => k4 b o hb (k3 b o (k2 b o (kp b o z)))
  have X4 : K.In h4 := fun a o z => kall a o (fun y => by rw [y, hnx] at z; cases z) (X a o z)
  have hL : s.heap.objs.size ≠ e := Nat.ne_of_gt (Heap.lt_size he)
  have hns4 : h4.Ns s.heap.objs.size (fun y => [(("self" : Str), Value.ref e), (f, v), (g, u)].reverse.lookup y) := by
    obtain ⟨oL, es, ep, hoL, r⟩ := hns2
    exact ⟨oL, es, ep, k4 _ _ hL (k3 _ _ hoL), r⟩
  show _root_.PySem.wpAt _ _ _ (execs [.Assign [.Attribute (.Name "self" r1) f r2] (.Name f r3) r4, .Assign [.Attribute (.Name "self" j1) g j2] (.Name g j3) j4] _) _ _ _
  refine wpAt_of_wpAny (wpAny_execs_cons (plainObj_wpAny_Assign_Attribute (ldc rfl (lk2f T.nm) hns4 mf (ldc rfl rfl hns4 mself ?_) T.nm.f4)))
  refine set_plain X4 (ox := excO C t1) (od := none) ⟨he4, rfl, rfl, trivial⟩ T.ox.sa ?_
  refine exc_osa X4 he4 hcl (show refsVE (.ref C :: bm) = true from hbm) rfl T.nf (fun h5 tk5 dx k5 dn dne hx5 hn5 => ?_)
  have z1 : s.heap.objs.size ≤ h1.objs.size := Nat.le_of_lt hns.lt
  have z2 := hns4.lt
  have dbig : s.heap.objs.size ≤ dx := Nat.le_trans (Nat.le_of_lt z2) dn
  have X5 : K.In h5 := fun a o z => k5 a o (fun y => by rw [y, hnx] at z; cases z) (X4 a o z)
  have hns5 : h5.Ns s.heap.objs.size (fun y => [(("self" : Str), Value.ref e), (f, v), (g, u)].reverse.lookup y) := by
    obtain ⟨oL, es, ep, hoL, r⟩ := hns4
    exact ⟨oL, es, ep, k5 _ _ hL hoL, r⟩
  have hw5 : Within (fun y => if y = f then some v else none) [f] := fun y hy => by
    by_cases c : y = f
    · rw [c]
      exact List.mem_singleton.mpr rfl
    · exact absurd (show (if y = f then some v else none) = none from if_neg c) hy
  obtain ⟨oD, esD, epD, hoD, hdD, hcD⟩ := hn5.count hw5
  refine wpAny_execs_cons (plainObj_wpAny_Assign_Attribute (ldc rfl (lk2g T.nm) hns5 mg' (ldc rfl rfl hns5 mself ?_) T.nm.g4))
  refine set_plain X5 (od := some oD) ⟨hx5, rfl, rfl, hoD⟩ T.ox.sa ?_
  refine PySem.OEX.osa_old X5 hx5 hn5 hw5 (by show 1 ≤ 1000; decide) hcl (show refsVE (.ref C :: bm) = true from hbm) rfl T.ng (fun h6 tk6 k6 hn6 => ?_)
  refine wpAny_execs_nil (hq h6 tk6 dx t1 ⟨fun b o hb z => k6 b o (Nat.ne_of_lt (Nat.lt_of_lt_of_le (Heap.lt_size z) dbig)) (k5 b o hb (kall b o hb z)), k6 _ _ (Ne.symm dne) hx5, dbig, dne, hn6⟩)
/-- a made error -/
structure Made2 (h h' : Heap) (f g : Str) (e C d : Addr) (v u : Value) : Prop where
  keep : ∀ b o, h.get? b = some o → h'.get? b = some o
  new : h.objs.size ≤ e
  obj : ∃ oe vs, h'.get? e = some oe ∧ oe.cls = .ref C ∧ oe.dict = some d ∧ oe.data = .fields vs ∧ vs[1]? = some .none
  dbig : h.objs.size ≤ d
  dne : d ≠ e
  ns : h'.Ns1 d (fun y => if y = g then some u else if y = f then some v else none)
theorem made2 (T : Err2 prog K mg x f g C fI) {v u : Value} (X : K.In s.heap) (hlim : s.heap.NoLimit) (hg : s.heap.Ns mainGlobals mg) (hb : ∃ mb, s.heap.Ns builtinsNs mb ∧ ∀ x : Str, x ≠ "__name__" → mb x = bootBuiltins x) (hroom : A.depth + 1 < recursionLimit)
    (hq : ∀ h' tk e d, Made2 s.heap h' f g e C d v u → R (.ok (.ret (.ref e))) { s with heap := h', toks := tk }) :
    codeAny (model prog w) A (.call (.ref C) ⟨[v, u], []⟩) R s := by
  obtain ⟨nm, q, N, bs, bm, sn, sub, ab, col, dd, k0, k1, k2, k3, k5, hC, hbm⟩ := T.ox.cls
  obtain ⟨hp, gg, dr, tk, os⟩ := s
  have kp : ∀ b o, hp.get? b = some o → ((hp.push (kdv_tup [v, u])).push (excO C hp.objs.size)).get? b = some o := fun b o z => Heap.get?_push_of_some _ (Heap.get?_push_of_some _ z)
  have hget : ((hp.push (kdv_tup [v, u])).push (excO C hp.objs.size)).get? (hp.objs.size + 1) = some (excO C hp.objs.size) := by heap_get
  have hnx : K.lookup (hp.objs.size + 1) = none := by
    cases z : K.lookup (hp.objs.size + 1) with
    | none => rfl
    | some o => exact absurd (Nat.lt_of_succ_lt (Heap.lt_size (X _ _ z))) (Nat.lt_irrefl _)
  refine call_own F.excBase_ValueError (fun Y => refsVE_contains Y bm hbm) (X _ _ hC) (looks_findIn X T.iC) (fun self => bind_fn X self T.tI) (by rw [sizeLine_eq]; exact (by decide : 2 ≤ 16777216)) ?_
  obtain ⟨mb, hb1, hb2⟩ := hb
  refine init2 (s := ⟨(hp.push (kdv_tup [v, u])).push (excO C hp.objs.size), gg, dr, tk, os⟩) T (X.keeps kp) (hlim.keeps kp) (hg.keeps kp) ⟨mb, hb1.keeps kp, hb2⟩ hget hnx ?_ fun h' tk' dx t1 ⟨k', hx, dn, dne, hns⟩ => ?_
  · show A.depth + 1 < recursionLimit
    exact hroom
  · have old : ∀ b o, hp.get? b = some o → h'.get? b = some o := fun b o z => k' b o (Nat.ne_of_lt (Nat.lt_succ_of_lt (Heap.lt_size z))) (kp b o z)
    have z : hp.objs.size + 1 + 1 ≤ dx := by
      have y := dn
      first
        | (rw [Heap.size_push, Heap.size_push] at y; exact y)
        | exact y
    exact ⟨rfl, hq h' tk' (hp.objs.size + 1) dx ⟨old, Nat.le_succ _, ⟨_, _, hx, rfl, rfl, rfl, rfl⟩, Nat.le_trans (Nat.le_trans (Nat.le_succ _) (Nat.le_succ _)) z, dne, hns⟩⟩
end
end Sup
namespace L2
open PySem PySem.Spec PyProof.Rows
theorem relO_two {v u : V} {v' u' : Value} {f g : Str} (gf : (g == f) = false) (rv : RelV v v') (ru : RelV u u') (y : Str) : RelO (List.lookup y [(f, v), (g, u)]) (if y = g then some u' else if y = f then some v' else none) := by
  by_cases hw : y = g
  · rw [if_pos hw, hw]
    have z : List.lookup g [(f, v), (g, u)] = some u := by simp [List.lookup, gf]
    rw [z]
    exact ru
  · rw [if_neg hw]
    by_cases hf : y = f
    · rw [if_pos hf, hf]
      have z : List.lookup f [(f, v), (g, u)] = some v := by simp [List.lookup]
      rw [z]
      exact rv
    · rw [if_neg hf]
      have y1 : (y == f) = false := by simpa using hf
      have y2 : (y == g) = false := by simpa using hw
      have z : List.lookup y [(f, v), (g, u)] = none := by simp [List.lookup, y1, y2]
      rw [z]
      trivial
section
variable {X : Cx} {C fI : Addr} {x f g : Str}
/-- E(e, e2) -/
def tMk2 (C : Addr) (f g : Str) (ta : TA) : St → Hp → XK → Prop := fun σ H Q => ta σ H fun vs H1 => ∃ v u, vs = [v, u] ∧ ∀ d, H1 d = none → Q (.ref C) (some d) (upd H1 d (.xd [(f, v), (g, u)]))
theorem pmk_2 {a b : Expr} {ta : TA} {p pos : Pos} {k : Nat} (T : Sup.Err2 X.prog X.K X.mg x f g C fI) (hr : Room k X.A) (ha : PA X [a, b] ta) (hg : Gl X x := by rfl) (hdb : (x == ("__debug__" : Str)) = false := by decide)
    (hs : starEach (a :: [b]) X.env = (false, eval a X.env) :: starEach [b] X.env := by rfl) (hpl : (backTo pos (starEach [b] X.env)).any (·.1) = false := by rfl) :
    PMk X (.Call (.Name x p) [a, b] [] pos) (tMk2 C f g ta) := by
  intro pins s σ H Q I h
  refine wpAny_Call_Name_kw (ld_glob I hg T.gC ?_ hdb)
  refine PySem.W.callWith_K (h₀ := X.base) I.ok.mod.kin T.ox.kC (thn (ha.run pos pins s σ H _ I h) fun us s1 hh => ?_) hs hpl
  obtain ⟨vs, H1, I1, r1, v, u, ev, q1⟩ := hh
  subst ev
  refine ⟨I1.kIn, ?_⟩
  cases r1 with
  | cons rv rn =>
    rename_i v' us'
    cases rn with
    | cons ru rn =>
      rename_i u' us'
      cases rn
      show wpAny _ _ (call (.ref C) [v', u']) _ _ _
      have hlim := I1.nolimit
      obtain ⟨mb, hb1, hb2⟩ := I1.mod.blt
      have bk1 := I1.bk
      have gl1 := I1.mod.glob
      obtain ⟨hp, g0, dr, tk, os⟩ := s1
      refine wpAny_call (Sup.made2 T I1.kIn hlim (gl1.keeps bk1) ⟨mb, hb1.keeps bk1, hb2⟩ (by have := hr.dp; omega) fun h' tk' e d M => ?_)
      show MkP X pins σ Q (.ref e) ⟨h', g0, dr, tk', os⟩
      obtain ⟨oe, fv, hoe, hc, hd, hdat, h1⟩ := M.obj
      have hns := M.ns
      obtain ⟨G', g1, g2⟩ := restrict h' fun b => decide (b ≠ e)
      have gk : ∀ b, b ≠ e → G'.get? b = h'.get? b := fun b hb => g1 b (decide_eq_true hb)
      have ge : G'.get? e = none := g2 e (by simp)
      have old : ∀ b o, hp.get? b = some o → G'.get? b = some o := fun b o z => (gk b (Nat.ne_of_lt (Nat.lt_of_lt_of_le (Heap.lt_size z) M.new))).trans (M.keep b o z)
      have ob : ObjOk X.prog X.w (upd H1 d (.xd [(f, v), (g, u)])) G' d (.xd [(f, v), (g, u)]) :=
        ⟨_, hns.at (fun o z => (gk d M.dne).trans z), fun y => relO_two T.nm.gf rv ru y⟩
      have J : Inv X pins σ (upd H1 d (.xd [(f, v), (g, u)])) ⟨G', g0, dr, tk', os⟩ := I1.laid (t' := tk') old M.dbig ob
      refine ⟨e, oe, fv, ⟨G', g0, dr, tk', os⟩, _, .ref C, some d, rfl, J, fun b o z => ?_, ge, hoe, ⟨hc, hd⟩, hdat, h1, ?_, rfl, I1.bare, raises_own T.ox.exC T.ox.tyC, q1 d (I1.hok.fresh M.dbig)⟩
      · by_cases hb : b = e
        · have z' : G'.get? b = some o := z
          rw [hb, ge] at z'; cases z'
        · exact (gk b hb).symm.trans z
      · rw [upd_ne (Ne.symm M.dne)]
        exact I1.hok.fresh M.new
/-- raise E(e, e2) -/
def tRaise2 (C : Addr) (f g : Str) (W : WX) (ta : TA) : TS := fun _ σ H => tMk2 C f g ta σ H fun cls d H' => W cls d σ H'
theorem ps_raise2 {a b : Expr} {ta : TA} {W : WX} {p pos pos2 : Pos} {k : Nat} (hc : X.calm = true) (T : Sup.Err2 X.prog X.K X.mg x f g C fI) (hr : Room k X.A) (tk : Takes X W) (ha : PA X [a, b] ta) (hg : Gl X x := by rfl) (hdb : (x == ("__debug__" : Str)) = false := by decide)
    (hs : starEach (a :: [b]) X.env = (false, eval a X.env) :: starEach [b] X.env := by rfl) (hpl : (backTo pos (starEach [b] X.env)).any (·.1) = false := by rfl) :
    PS X (.Raise (some (.Call (.Name x p) [a, b] [] pos)) none pos2) (tRaise2 C f g W ta) := ps_raise hc tk (pmk_2 T hr ha hg hdb hs hpl)
end
end L2
/-! Values of other kinds, ints shown, what stays where the pen and the tables change. -/
namespace My
open PySem PySem.Spec PyProof.Rows L2
/-! ### values of other kinds -/
/-- the built-in kind of a value -/
inductive Ty0 (H : Hp) : V → String → Prop where
  | non : Ty0 H .non "NoneType"
  | bl (b : Bool) : Ty0 H (.bl b) "bool"
  | int (i : Int) : Ty0 H (.int i) "int"
  | str (x : Str) : Ty0 H (.str x) "str"
  | lst {a : Addr} {xs : List V} (e : H a = some (.lst xs)) : Ty0 H (.ref a) "list"
  | tup {a : Addr} {xs : List V} (e : H a = some (.tup xs)) : Ty0 H (.ref a) "tuple"
  | dK {a : Addr} {kvs : List (Key × V)} (e : H a = some (.dK kvs)) : Ty0 H (.ref a) "dict"
theorem Ty0.tyx {K : PySem.W.Frag} {H : Hp} {v : V} {t : String} (h : Ty0 H v t) : TyX K H v (.type t) := by
  cases h with
  | non => exact .base .non
  | bl b => exact .base (.bl b)
  | int i => exact .base (.int i)
  | str x => exact .base (.str x)
  | lst e => exact .base (.lst e)
  | tup e => exact .base (.tup e)
  | dK e => exact .base (.dK e)
def isI : V → Bool
  | .int _ => true
  | _ => false
theorem isI_int {v : V} (h : isI v = true) : ∃ i, v = .int i := by
  cases v with
  | int i => exact ⟨i, rfl⟩
  | _ => cases h
def isT (t : String) : Bool := t == "int"
theorem Ty0.isI {H : Hp} {v : V} {t : String} (h : Ty0 H v t) : My.isI v = isT t := by cases h <;> rfl
theorem Ty0.kint {K : PySem.W.Frag} {H : Hp} {v : V} {t : String} (h : Ty0 H v t) : ∃ b, PySem.W.kitOne K (.type t) (.type "int") = some b ∧ (b = true → ∃ c, PySem.W.kitOne K (.type t) (.type "bool") = some c ∧ My.isI v = !c) ∧ (b = false → My.isI v = false) := by
  cases h with
  | non => exact ⟨false, kit_ty (by decide +kernel), (fun z => Bool.noConfusion z), fun _ => rfl⟩
  | bl b => exact ⟨true, kit_ty (by decide +kernel), fun _ => ⟨true, kit_ty (by decide +kernel), rfl⟩, (fun z => Bool.noConfusion z)⟩
  | int i => exact ⟨true, kit_ty (by decide +kernel), fun _ => ⟨false, kit_ty (by decide +kernel), rfl⟩, (fun z => Bool.noConfusion z)⟩
  | str x => exact ⟨false, kit_ty (by decide +kernel), (fun z => Bool.noConfusion z), fun _ => rfl⟩
  | lst e => exact ⟨false, kit_ty (by decide +kernel), (fun z => Bool.noConfusion z), fun _ => rfl⟩
  | tup e => exact ⟨false, kit_ty (by decide +kernel), (fun z => Bool.noConfusion z), fun _ => rfl⟩
  | dK e => exact ⟨false, kit_ty (by decide +kernel), (fun z => Bool.noConfusion z), fun _ => rfl⟩
theorem Ty0.keep {H H' : Hp} {v : V} {t : String} (h : Ty0 H v t) (k : ∀ b o, H b = some o → (∀ p, v = .ref p → p = b → H' b = some o)) : Ty0 H' v t := by
  cases h with
  | non => exact .non
  | bl b => exact .bl b
  | int i => exact .int i
  | str x => exact .str x
  | lst e => exact .lst (k _ _ e _ rfl rfl)
  | tup e => exact .tup (k _ _ e _ rfl rfl)
  | dK e => exact .dK (k _ _ e _ rfl rfl)
theorem Ty0.same {H H' : Hp} {v : V} {t : String} (h : Ty0 H v t) (k : Same H H') : Ty0 H' v t := h.keep fun b o e _ _ _ => k b o e
theorem same_new {H : Hp} {p : Addr} {o : HO} (h : H p = none) : Same H (upd H p o) := fun b u e => by rw [upd_ne (ne_of_none e h)]; exact e
/-- a value of a built-in kind, or an instance of the class at C -/
def TyL (C : Addr) (H : Hp) (v : V) : Prop := (∃ t, Ty0 H v t) ∨ ∃ a dx fs, v = .ref a ∧ H a = some (.ins C dx fs)
theorem TyL.same {C : Addr} {H H' : Hp} {v : V} (h : TyL C H v) (k : Same H H') : TyL C H' v := by
  rcases h with ⟨t, h⟩ | ⟨a, dx, fs, e, h⟩
  · exact .inl ⟨t, h.same k⟩
  · exact .inr ⟨a, dx, fs, e, k _ _ h⟩
theorem TyL.int (C : Addr) (H : Hp) (i : Int) : TyL C H (.int i) := .inl ⟨_, .int i⟩
theorem pen_ne {H : Hp} {pn l : Addr} {n : Nat} (hp : PenAt H pn n) (hl : H l = none) : l ≠ pn := by
  obtain ⟨cl, ns, a, r, g1, _⟩ := hp
  exact (ne_of_none g1 hl).symm
theorem but_same {pn : Addr} {H H' : Hp} (s : Same H H') : But pn H H' := fun b o e _ => s b o e
theorem pen_same {pn : Addr} {H H' : Hp} {n : Nat} (hp : PenAt H pn n) (k : Same H H') : PenAt H' pn n := by
  obtain ⟨cl, ns, a, r, g1, g2, g3⟩ := hp
  exact ⟨cl, ns, a, r, k _ _ g1, k _ _ g2, g3⟩
theorem mem_ints {v : V} {zs : List Int} (h : v ∈ zs.map V.int) : ∃ z, v = .int z ∧ z ∈ zs := by
  obtain ⟨z, hz, e⟩ := List.mem_map.mp h
  exact ⟨z, e.symm, hz⟩
theorem num_len {i : Int} (h : i.natAbs.log2 < 1920) : ((toString i : String) : Str).length ≤ 1921 := by
  have e := int_text_length_le (k := 1920) (by decide) h
  show (Str.ofString (toString i)).length ≤ 1921
  rw [PySem.ofString_length]
  exact e
theorem app_len (x y : Str) : (x ++ y).length = x.length + y.length := PySem.Str.length_append x y
/-- an int of less than 300 bits -/
def Sm (z : Int) : Prop := z.natAbs < 2 ^ 300
theorem Sm.mul {a b : Int} {i j : Nat} (ha : a.natAbs < 2 ^ i) (hb : b.natAbs < 2 ^ j) (h0 : 0 < i := by decide) (h1 : 0 < j := by decide) (h : i + j ≤ 1000000 := by decide) : CMulW a b := wide_mul ha hb h0 h1 h
theorem Sm.log {z : Int} (h : Sm z) : z.natAbs.log2 < 1920 := Nat.lt_of_lt_of_le (PySem.Flt.log2_lt_of (k := 300) (by decide) h) (by decide)
theorem shown_sum : ∀ (ns : List Int), (∀ z ∈ ns, z.natAbs.log2 < 1920) → ((PyData.shownAll (ns.map PyData.int)).map (·.length)).sum ≤ 1921 * ns.length ∧ (PyData.shownAll (ns.map PyData.int)).length = ns.length
  | [], _ => ⟨Nat.le_refl _, rfl⟩
  | n :: ns, h => by
    obtain ⟨h1, h2⟩ := shown_sum ns fun z hz => h z (List.mem_cons_of_mem _ hz)
    have e2 := num_len (h n List.mem_cons_self)
    refine ⟨?_, ?_⟩
    · show ((toString n : String) : Str).length + ((PyData.shownAll (ns.map PyData.int)).map (·.length)).sum ≤ 1921 * (ns.length + 1)
      omega
    · show (PyData.shownAll (ns.map PyData.int)).length + 1 = ns.length + 1
      omega
theorem showable_ints : ∀ (ns : List Int), (∀ z ∈ ns, z.natAbs.log2 < 1920) → PyData.showableAll (ns.map PyData.int) = true
  | [], _ => rfl
  | n :: ns, h => by
    show (decide (n.natAbs.log2 < 1920) && PyData.showableAll (ns.map PyData.int)) = true
    rw [showable_ints ns fun z hz => h z (List.mem_cons_of_mem _ hz), decide_eq_true (h n List.mem_cons_self)]
    rfl
/-- a list of ints shown -/
theorem ints_show {K : PySem.W.Frag} {H : Hp} {l : Addr} (ns : List Int) (hz : ∀ z ∈ ns, z.natAbs.log2 < 1920) (hl : ns.length ≤ 1000) (h : H l = some (.lst (ns.map V.int))) : Dr K H (.ref l) (.list (ns.map PyData.int)) ∧ (PyData.list (ns.map PyData.int)).showable = true ∧ (PyData.list (ns.map PyData.int)).depth ≤ 60 ∧ (PyData.list (ns.map PyData.int)).shown.length ≤ sizeLine := by
  refine ⟨.inl (.lst (SqL.of h) (dp_ints ns)), showable_ints ns hz, ?_, ?_⟩
  · show PyData.depthAll (ns.map PyData.int) + 1 ≤ 60
    rw [dep_ints]
    decide
  · have h1 := listText_len_le (PyData.shownAll (ns.map PyData.int))
    obtain ⟨h2, h3⟩ := shown_sum ns hz
    show (listText (PyData.shownAll (ns.map PyData.int))).length ≤ sizeLine
    rw [sizeLine_eq]
    omega
theorem yes_go {σ : L2.St} {H : Hp} {A B : Hp → Prop} (h : A H) : tYes σ H (fun b H3 => if b = true then A H3 else B H3) := by
  show (if true = true then A H else B H)
  rw [if_pos rfl]
  exact h
theorem take1 {α : Type} {ls : List α} {i : Nat} {y : α} (h : ls[i]? = some y) : ls.take (i + 1) = ls.take i ++ [y] := by rw [List.take_add_one, h]; rfl
theorem at_int {ls : List Int} {i : Nat} {v : V} (h : (ls.map V.int)[i]? = some v) : ∃ y, ls[i]? = some y ∧ v = .int y := by
  rw [List.getElem?_map] at h
  cases e : ls[i]? with
  | none => rw [e] at h; cases h
  | some y => rw [e] at h; cases h; exact ⟨y, rfl, rfl⟩
/-! ### tables of code objects, the pen, and all else -/
/-- all but the pen and the tables stays, the tables are tables -/
structure Kp (pn : Addr) (TS : List (Addr × Str)) (H H' : Hp) : Prop where
  keep : ∀ b o, H b = some o → b ≠ pn → (∀ ps, o ≠ .tbl ps) → H' b = some o
  tabs : LamX.Tabs TS H'
theorem Kp.trans {pn : Addr} {TS : List (Addr × Str)} {H H1 H2 : Hp} (a : Kp pn TS H H1) (b : Kp pn TS H1 H2) : Kp pn TS H H2 := ⟨fun c o h n m => b.keep c o (a.keep c o h n m) n m, b.tabs⟩
theorem tabs_but {pn : Addr} {TS : List (Addr × Str)} {H H' : Hp} {n : Nat} (t : LamX.Tabs TS H) (hp : PenAt H pn n) (k : But pn H H') : LamX.Tabs TS H' := fun p hp' => by
  obtain ⟨ps, h1, h2, h3⟩ := t p hp'
  obtain ⟨cl, ns, a, r, g1, _⟩ := hp
  refine ⟨ps, k _ _ h1 (ne_of h1 g1 (by intro z; cases z)), h2, fun pos cv hc => ?_⟩
  obtain ⟨c, e1, e2⟩ := h3 pos cv hc
  exact ⟨c, e1, k _ _ e2 (ne_of e2 g1 (by intro z; unfold LamX.CodeO at z; cases z))⟩
theorem Kp.but {pn : Addr} {TS : List (Addr × Str)} {H H' : Hp} {n : Nat} (t : LamX.Tabs TS H) (hp : PenAt H pn n) (k : But pn H H') : Kp pn TS H H' := ⟨fun b o h nb _ => k b o h nb, tabs_but t hp k⟩
theorem Kp.same {pn : Addr} {TS : List (Addr × Str)} {H H' : Hp} (t : LamX.Tabs TS H) (k : Same H H') : Kp pn TS H H' := ⟨fun b o h _ _ => k b o h, t.ext k⟩
theorem Kp.ext {pn : Addr} {TS : List (Addr × Str)} {H H' : Hp} (t : LamX.Tabs TS H') (k : LamX.ExtN H H') : Kp pn TS H H' := ⟨fun b o h _ m => k b o h m, t⟩
theorem pen_ext {pn : Addr} {H H' : Hp} {n : Nat} (hp : PenAt H pn n) (k : LamX.ExtN H H') : PenAt H' pn n := by
  obtain ⟨cl, ns, a, r, g1, g2, g3⟩ := hp
  exact ⟨cl, ns, a, r, k _ _ g1 (by intro ps z; cases z), k _ _ g2 (by intro ps z; cases z), g3⟩
/-- a def whose code object stands at c -/
structure FunC (K : PySem.W.Frag) (x qual : Str) (st : Stmt) (f : Addr) (fd : FuncData) (c : Addr) : Prop where
  ex : ∃ (oc : Value) (od : Option Addr) (kV doc pm : Value) (an : Option Addr) (ct : Value) (osl : Array (Option Value)),
    fd = PySem.W.fnOf x qual (defArgs st) (defBody st) (defScope st) .none kV doc pm an (.ref c) ct ∧ K.lookup f = some ⟨oc, od, .func fd, osl⟩ ∧ PySem.W.codeIn K (.ref c) qual = true
  kp : PySem.W.keepIn K (.ref f) = true
theorem okGc {P : Program} {w : World} {K : PySem.W.Frag} {mg : Str → Option Value} {base : Heap} {x qual : Str} {st : Stmt} {f c : Addr} {fd : FuncData} {N ps : List Str} {k : Nat} {sp : Sp} (F : FunC K x qual st f fd c) (S : FnScope N ps (defScope st)) (len : ∀ vs H Q E, sp vs H Q E → vs.length = ps.length)
    (hbody : ∀ (A : Around) (outer : List Env) (s : Shared) (H : Hp) (vs : List V) (Q : VK) (E : XK), A.guards = some [] → Room k (A.deeper (envOfC qual (defScope st) s.heap.objs.size f (.ref c))) → sp vs H Q E →
      ∃ t, PSs (cxOf CX0 P w K mg base N qual (defScope st) f (.ref c) A outer s H E).nox (defBody st) t ∧ t { nx := fun _ H' => Q .non H', rt := Q } (start N vs) H) : FnG P w K mg base CX0 (k + 1) f fd ps sp := by
  obtain ⟨oc, od, kV, doc, pm, an, ct, osl, rfl, lk, hcd⟩ := F.ex
  refine ⟨len, fun A outer s H args us vs Q E hg hr e0 hb r hsp => LamX.run_ofS lk hcd S hr e0 hb r (len _ _ _ _ hsp) fun hr' => ?_⟩
  obtain ⟨t, h, q⟩ := hbody A outer s H vs Q E hg hr' hsp
  exact ⟨t, h.nox, q⟩
theorem ty_ext {H H' : Hp} {v : V} {t : String} (h : Ty0 H v t) (k : LamX.ExtN H H') : Ty0 H' v t := by
  cases h with
  | non => exact .non
  | bl b => exact .bl b
  | int i => exact .int i
  | str x => exact .str x
  | lst e => exact .lst (k _ _ e (by intro ps z; cases z))
  | tup e => exact .tup (k _ _ e (by intro ps z; cases z))
  | dK e => exact .dK (k _ _ e (by intro ps z; cases z))
theorem ext_same {H H' : Hp} (s : Same H H') : LamX.ExtN H H' := fun b o h _ => s b o h
theorem ext_put {Ha Hx : Hp} {lh : Addr} {o : HO} (n : Ha lh = none) (x : LamX.ExtN Ha Hx) : LamX.ExtN Ha (upd Hx lh o) := fun b u e m => by
  rw [upd_ne (ne_of_none e n)]
  exact x b u e m
theorem tabs_put {TS : List (Addr × Str)} {H : Hp} {lh : Addr} {xs : List V} {o : HO} (t : LamX.Tabs TS H) (h : H lh = some (.lst xs)) : LamX.Tabs TS (upd H lh o) := fun p hp => by
  obtain ⟨ps, h1, h2, h3⟩ := t p hp
  refine ⟨ps, by rw [upd_ne (ne_of h1 h (by intro z; cases z))]; exact h1, h2, fun pos cv hc => ?_⟩
  obtain ⟨c, e1, e2⟩ := h3 pos cv hc
  exact ⟨c, e1, by rw [upd_ne (ne_of e2 h (by intro z; unfold LamX.CodeO at z; cases z))]; exact e2⟩
theorem TyL.ext {C : Addr} {H H' : Hp} {v : V} (h : TyL C H v) (k : LamX.ExtN H H') : TyL C H' v := by
  rcases h with ⟨t, h⟩ | ⟨a, dx, fs, e, h⟩
  · exact .inl ⟨t, ty_ext h k⟩
  · exact .inr ⟨a, dx, fs, e, k _ _ h (by intro ps z; cases z)⟩
end My
/-! raise C() of an own error class without own __init__. -/
namespace My
open PySem PySem.Spec PySem.Calls PyProof.Rows L2
section
variable {X : Cx} {C : Addr} {bmB : List Value} {B newId initId : String} {x : Str} {p pos : Pos}
theorem pmk_nil (F : ExcBaseFacts B newId initId bmB) (q : PySem.W.excIn X.K C bmB newId = true) (gC : X.mg x = some (.ref C)) (kC : PySem.W.keepIn X.K (.ref C) = true) (r : Raises X (.ref C)) (hg : Gl X x) (hdb : (x == ("__debug__" : Str)) = false := by decide) :
    PMk X (.Call (.Name x p) [] [] pos) (fun σ H Q => Q (.ref C) none H) := by
  intro pins s σ H Q I h
  refine wpAny_Call_Name_kw (ld_glob I hg gC ?_ hdb)
  refine PySem.W.callWith_K0 (first := []) I.kIn kC ?_
  show wpAny _ _ (call (.ref C) []) _ _ _
  obtain ⟨bm, N, nm, qn, bs, hdct, sn, sub, ab, col, dd, k0, k1, k2, k3, k5, mN, hC, hN, hni, T⟩ := exc_obj I.kIn q
  refine wpAny_call_exc_subT F T hC hN hni (fun h' e hm => ?_) (Nat.zero_le _)
  exact mk_of I hm r h (I.hok.gone hm.new)
end
end My
/-! Several own classes beside one another. -/
namespace My
open PySem PySem.Spec PyProof.Rows L2
/-- an own class whose instances are no ints -/
structure Own (K : PySem.W.Frag) (C : Addr) : Prop where
  cl : Cls K C
  ha : PySem.W.findIn K (.ref C) "__class__" = some (some (.builtin "object.__class__"))
  hn : PySem.W.specialIn K (.builtin "object.__class__") "__get__" = some (some (.builtin "getset_descriptor.__get__"))
  ht : PySem.W.takesIn K (.builtin "object.__class__") = some true
  hm : PySem.W.mroIn K C (.type "object") = some true
  me : PySem.W.kitOne K (.ref C) (.ref C) = some true
  noInt : PySem.W.kitOne K (.ref C) (.type "int") = some false
  kn : ∀ t ∈ ["int", "tuple", "NoneType", "str", "list", "bool", "dict"], PySem.W.kitOne K (.type t) (.ref C) = some false ∧ PySem.W.notFirst K C (.type t) = true
  sf : PySem.W.notFirst K C (.ref C) = true
/-- the family of the own classes -/
structure Fam (K : PySem.W.Frag) (Cs : List Addr) : Prop where
  own : ∀ C ∈ Cs, Own K C
  cross : ∀ C ∈ Cs, ∀ D ∈ Cs, C ≠ D → PySem.W.kitOne K (.ref C) (.ref D) = some false ∧ PySem.W.notFirst K D (.ref C) = true
/-- a value of a built-in kind, or an instance of the family -/
def AnyF (Cs : List Addr) (H : Hp) (v : V) : Prop := (∃ t, Ty0 H v t) ∨ ∃ C ∈ Cs, ∃ a dx fs, v = .ref a ∧ H a = some (.ins C dx fs)
theorem AnyF.same {Cs : List Addr} {H H' : Hp} {v : V} (h : AnyF Cs H v) (k : Same H H') : AnyF Cs H' v := by
  rcases h with ⟨t, h⟩ | ⟨C, hC, a, dx, fs, e, h⟩
  · exact .inl ⟨t, h.same k⟩
  · exact .inr ⟨C, hC, a, dx, fs, e, k _ _ h⟩
theorem AnyF.ext {Cs : List Addr} {H H' : Hp} {v : V} (h : AnyF Cs H v) (k : LamX.ExtN H H') : AnyF Cs H' v := by
  rcases h with ⟨t, h⟩ | ⟨C, hC, a, dx, fs, e, h⟩
  · exact .inl ⟨t, ty_ext h k⟩
  · exact .inr ⟨C, hC, a, dx, fs, e, k _ _ h (by intro ps z; cases z)⟩
theorem AnyF.int (Cs : List Addr) (H : Hp) (i : Int) : AnyF Cs H (.int i) := .inl ⟨_, .int i⟩
theorem Ty0.mem {H : Hp} {v : V} {t : String} (h : Ty0 H v t) : t ∈ ["int", "tuple", "NoneType", "str", "list", "bool", "dict"] := by cases h <;> decide
theorem Own.ty {K : PySem.W.Frag} {C : Addr} (h : Own K C) {H : Hp} {a dx : Addr} {fs : List (Str × V)} (e : H a = some (.ins C dx fs)) : TyX K H (.ref a) (.ref C) := .base (.ins e h.cl h.ha h.hn h.ht h.hm)
/-- isinstance(v, D) and how v stands beside a D -/
theorem Fam.isi {K : PySem.W.Frag} {Cs : List Addr} (F : Fam K Cs) {D : Addr} (hD : D ∈ Cs) {H : Hp} {v : V} (h : AnyF Cs H v) (no : ∀ a dx fs, v = .ref a → H a ≠ some (.ins D dx fs)) : ∃ t, TyX K H v t ∧ PySem.W.kitOne K t (.ref D) = some false ∧ PySem.W.notFirst K D t = true := by
  rcases h with ⟨t, h⟩ | ⟨C, hC, a, dx, fs, rfl, h⟩
  · exact ⟨_, h.tyx, ((F.own D hD).kn t h.mem).1, ((F.own D hD).kn t h.mem).2⟩
  · have ne : C ≠ D := fun z => no a dx fs rfl (by rw [← z]; exact h)
    exact ⟨_, (F.own C hC).ty h, (F.cross C hC D hD ne).1, (F.cross C hC D hD ne).2⟩
/-- isinstance(v, int), and of a bool -/
theorem Fam.kint {K : PySem.W.Frag} {Cs : List Addr} (F : Fam K Cs) {H : Hp} {v : V} (h : AnyF Cs H v) : ∃ t b, TyX K H v t ∧ PySem.W.kitOne K t (.type "int") = some b ∧ (b = true → ∃ c, PySem.W.kitOne K t (.type "bool") = some c ∧ My.isI v = !c) ∧ (b = false → My.isI v = false) := by
  rcases h with ⟨t, h⟩ | ⟨C, hC, a, dx, fs, rfl, h⟩
  · obtain ⟨b, e⟩ := h.kint (K := K)
    exact ⟨_, b, h.tyx, e⟩
  · exact ⟨_, false, (F.own C hC).ty h, (F.own C hC).noInt, (fun z => Bool.noConfusion z), fun _ => rfl⟩
/-- an error of the class C with the field f = v -/
def Errs (E : XK) (C : Addr) (f : Str) (v : V) (H : Hp) : Prop := ∀ (d : Addr) (H' : Hp), H d = none → H' d = some (.xd [(f, v)]) → Same H H' → E (.ref C) (some d) H'
theorem Errs.go {E : XK} {C : Addr} {f : Str} {v : V} {H : Hp} (h : Errs E C f v H) {d : Addr} (hd : H d = none) : E (.ref C) (some d) (upd H d (.xd [(f, v)])) := h d _ hd upd_same (same_new hd)
theorem Errs.up {E : XK} {C : Addr} {f : Str} {v : V} {H H1 : Hp} (h : Errs E C f v H) (s : Same H H1) : Errs E C f v H1 := fun d H' hd hx s' => h d H' (s.free hd) hx (s.trans s')
/-- is_whole(v) -/
def spWh (Cs : List Addr) : Sp := fun vs H Q _ => ∃ (v : V), vs = [v] ∧ AnyF Cs H v ∧ Q (.bl (isI v)) H
end My
/-! For the end: generator methods, properties that reckon, errors of two fields, a family of two. -/
namespace My
open PySem PySem.Spec PyProof.Rows L2 He
/-- the class has the property -/
structure HasP (K : PySem.W.Frag) (C : Addr) (x qual : Str) (st : Stmt) : Prop where
  ex : ∃ p g fd, PropOf K C x p g ∧ Fun K x qual st g fd
section
variable {P : Program} {w : World} {K : PySem.W.Frag} {mg : Str → Option Value} {base : Heap} {CX : CXT} {k : Nat} {x y m qual : Str} {st : Stmt} {ps ks : List Str} {sp : Sp} {C : Addr} {dvs : List V}
theorem propR_at (A : HasP K C x qual st) (ok : ∀ f fd, Fun K x qual st f fd → FnOk P w K mg base CX k f fd ["self"] sp) (b : BindW x qual st ["self"]) : PropR P w K mg base CX k C x sp := by
  obtain ⟨p, g, fd, h1, F⟩ := A.ex
  exact ⟨p, g, fd, h1, ok g fd F, F.binds b⟩
theorem gmeth_at {sp : SpGn} (A : HasM K C m qual st) (ok : ∀ (f : Addr) (oc : Value) (od : Option Addr) (kV doc pm : Value) (an : Option Addr) (cdv ct : Value) (osl : Array (Option Value)), K.lookup f = some ⟨oc, od, .func (PySem.W.fnOf m qual (defArgs st) (defBody st) (defScope st) .none kV doc pm an cdv ct), osl⟩ → PySem.W.codeIn K cdv qual = true →
    GDef P w K mg base k f (PySem.W.fnOf m qual (defArgs st) (defBody st) (defScope st) .none kV doc pm an cdv ct) ["self"] sp) (b : BindW m qual st ["self"]) : GMeth P w K mg base k C m sp := by
  obtain ⟨f, fd, h1, h2, F⟩ := A.ex
  have F' := F
  have kp := F.kp
  obtain ⟨oc, od, kV, doc, pm, an, cdv, ct, osl, rfl, lk, hcd⟩ := F.ex
  exact ⟨f, _, ⟨h1, h2, kp⟩, ok f _ _ _ _ _ _ _ _ _ lk hcd, F'.binds b⟩
end
theorem fam2 {K : PySem.W.Frag} {a b : Addr} (oa : Own K a) (ob : Own K b) (ab : PySem.W.kitOne K (.ref a) (.ref b) = some false ∧ PySem.W.notFirst K b (.ref a) = true) (ba : PySem.W.kitOne K (.ref b) (.ref a) = some false ∧ PySem.W.notFirst K a (.ref b) = true) : Fam K [a, b] := by
  refine ⟨fun C hC => ?_, fun C hC D hD ne => ?_⟩
  · simp only [List.mem_cons, List.mem_nil_iff, or_false] at hC
    rcases hC with rfl | rfl <;> assumption
  · simp only [List.mem_cons, List.mem_nil_iff, or_false] at hC hD
    rcases hC with rfl | rfl <;> rcases hD with rfl | rfl
    · exact absurd rfl ne
    · exact ab
    · exact ba
    · exact absurd rfl ne
theorem nm2_what_most : Sup.Nm2 "what" "most" := ⟨by decide, by decide, by decide, by decide, by decide, by decide, by decide, by decide, by decide, by decide, fun _ _ _ _ _ _ _ _ _ _ _ _ _ _ => rfl⟩
section
variable {K : PySem.W.Frag} {h : Heap} {mg : Str → Option Value}
theorem hasPM {C : Addr} {x qual : Str} {st : Stmt} (e : fv K (pAt K C x) = some (x, qual, defArgs st, .stmts (defBody st), defScope st)) (c : (propB K C x && fdB K (pAt K C x) qual []) = true) : HasP K C x qual st := by
  obtain ⟨c1, c2⟩ := ba c
  obtain ⟨fd, F⟩ := funM e c2
  exact ⟨_, _, fd, propB_ok c1, F⟩
/-- an error of two fields -/
def err2B (P : Program) (K : PySem.W.Frag) (x f g qual : Str) : Bool := err1B P K x f qual && eqO (PySem.W.findIn K (.ref (ga K x)) g) (some none)
theorem err2_ok {P : Program} (X : K.In h) (G : h.Ns mainGlobals mg) {x f g qual : Str} {st : Stmt} (nm : Sup.Nm2 f g) (c : err2B P K x f g qual = true) (e : fv K (ma K (ga K x) "__init__") = (some (("__init__" : Str), qual, defArgs st, FuncBody.stmts (defBody st), defScope st) : FV))
    (ha : ∃ p1 p2 p3, defArgs st = Sup.a2 f g p1 p2 p3) (hb : ∃ q1 q2 q3 q4 q7 q5 q6 r1 r2 r3 r4 t1 t2 t3 t4, defBody st = Sup.b2 f g q1 q2 q3 q4 q7 q5 q6 r1 r2 r3 r4 t1 t2 t3 t4 ∧ (q3.endLine == q5.line) = true) (hs : defScope st = Sup.s2 f g) (top : (P.main.scope.names.lookup ("super" : Str)).isSome = false) :
    Sup.Err2 P K mg x f g (ga K x) (ma K (ga K x) "__init__") := by
  obtain ⟨c, c0⟩ := ba c
  obtain ⟨c1, c⟩ := ba c
  obtain ⟨c2, c⟩ := ba c
  obtain ⟨c3, c⟩ := ba c
  obtain ⟨c4, c⟩ := ba c
  obtain ⟨c5, c⟩ := ba c
  obtain ⟨c6, c⟩ := ba c
  obtain ⟨c7, c⟩ := ba c
  obtain ⟨c8, c⟩ := ba c
  obtain ⟨c9, c⟩ := ba c
  obtain ⟨c10, c⟩ := ba c
  obtain ⟨c11, c⟩ := ba c
  obtain ⟨c12, c13⟩ := ba c
  obtain ⟨oc, od, doc, pm, an, cda, ct, cc, osl, lk, hcd, hcell⟩ := fdC_ok e c7
  obtain ⟨p1, p2, p3, ha⟩ := ha
  obtain ⟨q1, q2, q3, q4, q7, q5, q6, r1, r2, r3, r4, t1, t2, t3, t4, hb, hq⟩ := hb
  have hf := fileB_ok c8
  rw [cAt_eq lk rfl] at hf
  rw [ha, hb, hs] at lk
  obtain ⟨ccl, cdd, vs, ccs, file, tf, f1, f2, f3⟩ := hf
  exact ⟨glo_ok X G c1, excO_ok c2, xfB_ok c3, eqO_ok c4, eqO_ok c0, nm, eqO_ok c5, of_decide_eq_true c6, ⟨qual, oc, od, doc, pm, an, cda, ct, cc, osl, p1, p2, p3, q1, q2, q3, q4, q7, q5, q6, r1, r2, r3, r4, t1, t2, t3, t4, lk, hcd, hcell, ccl, cdd, vs, ccs, file, tf, f1, f2, f3, hq⟩, eqO_ok c9, of_decide_eq_true c10, of_decide_eq_true c11, free_ok X G c12, eqO_ok c13, top⟩
/-- C.f is this constant -/
theorem valM1 {C : Addr} {f : Str} {v : Dv} (c : (creadB K C && cvalB K C f v) = true) : ∃ mc u, ClX.CRead K C mc ∧ ClX.CVal K C mc f (v.v K) u := by
  obtain ⟨c1, c2⟩ := ba c
  obtain ⟨u, h⟩ := cvalB_ok c2
  exact ⟨_, u, creadB_ok c1, h⟩
end
end My
namespace My
open PySem PySem.Spec PyProof.Rows L2
def topS (i : Nat) : Stmt := PySem.Challenge.pw_clipfades_k23_texts_of_clips.main.body.getD i (.Pass ⟨0, 0, 0, 0⟩)
abbrev s_pen : Stmt := topS 35
abbrev s_draw : Stmt := topS 36
abbrev s_pick : Stmt := topS 37
theorem sc_pen : FnScope ["_law_script"] ["_law_script"] (defScope s_pen) := ⟨rfl, rfl, rfl, by decide +kernel, rfl, by decide +kernel, by decide +kernel⟩
theorem sc_draw : FnScope ["_law_pen_here", "_law_many", "_law_digit", "_law_at", "_law_cell", "_law_great", "_law_mixed"] ["_law_pen_here", "_law_many"] (defScope s_draw) := ⟨rfl, rfl, rfl, by decide +kernel, rfl, by decide +kernel, by decide +kernel⟩
theorem sc_pick : FnScope ["_law_pen_here", "_law_some"] ["_law_pen_here", "_law_some"] (defScope s_pick) := ⟨rfl, rfl, rfl, by decide +kernel, rfl, by decide +kernel, by decide +kernel⟩
/-- the pen, its cells at cl -/
def PenC (H : Hp) (pn cl : Addr) (n : Nat) : Prop := ∃ (ns : List Int) (at_ rest : Int), H pn = some (.lst [.ref cl, .int at_, .int rest]) ∧ H cl = some (.lst (ns.map V.int)) ∧ ns.length ≤ 63 ∧ 0 ≤ at_ ∧ at_ ≤ n
theorem PenC.pen {H : Hp} {pn cl : Addr} {n : Nat} (h : PenC H pn cl n) : PenAt H pn n := by
  obtain ⟨ns, a, r, h⟩ := h
  exact ⟨cl, ns, a, r, h⟩
theorem PenAt.cells {H : Hp} {pn : Addr} {n : Nat} (h : PenAt H pn n) : ∃ cl, PenC H pn cl n := by
  obtain ⟨cl, ns, a, r, h⟩ := h
  exact ⟨cl, ns, a, r, h⟩
theorem PenC.put {H : Hp} {pn cl p : Addr} {n : Nat} {o : HO} (h : PenC H pn cl n) (h1 : pn ≠ p) (h2 : cl ≠ p) : PenC (upd H p o) pn cl n := by
  obtain ⟨ns, a, r, e1, e2, h3⟩ := h
  exact ⟨ns, a, r, by rw [upd_ne h1]; exact e1, by rw [upd_ne h2]; exact e2, h3⟩
theorem PenC.same {H H' : Hp} {pn cl : Addr} {n : Nat} (h : PenC H pn cl n) (s : Same H H') : PenC H' pn cl n := by
  obtain ⟨ns, a, r, e1, e2, h3⟩ := h
  exact ⟨ns, a, r, s _ _ e1, s _ _ e2, h3⟩
def spDrawC : Sp := fun vs H Q _ => ∃ (pn cl : Addr) (m : Int) (n : Nat), vs = [.ref pn, .int m] ∧ 0 < m ∧ m.natAbs.log2 < 9000 ∧ PenC H pn cl n ∧ n < 100000 ∧
  ∀ (d : Int) (H' : Hp), 0 ≤ d → d < m → PenC H' pn cl (n + 1) → But pn H H' → Q (.int d) H'
section
variable {P : Program} {w : World} {K : PySem.W.Frag} {mg : Str → Option Value} {base : Heap}
theorem ok_pen {f : Addr} {fd : FuncData} (F : Fun K "_law_pen" "_law_pen" s_pen f fd) (T : BI mg) : FnOk P w K mg base CX0 1 f fd ["_law_script"] (spPen K) := by
  refine F.ok sc_pen (fun vs H Q E h => ?_) (fun cdv A outer s H vs Q E hr h => ?_)
  · obtain ⟨a, ns, rfl, _⟩ := h
    rfl
  · obtain ⟨a, ns, rfl, hS, k⟩ := h
    refine ⟨_, (pss_one (ps_ret (pe_lst (pa_cons (pe_callTy call_list_of (by rfl) T.z_list boot_list (pa_cons (pe_slice sl_list (pv 0) po_none (po_some pe_int)) pa_nil)) (pa_cons pe_int (pa_cons pe_int pa_nil)))))), ?_⟩
    refine ⟨_, rfl, 63, rfl, a, _, rfl, hS, fun p hp => ?_⟩
    refine ⟨p, _, rfl, .inl (SqL.of upd_same), fun l hl => ?_⟩
    refine ⟨(by show 3 ≤ sizeLine; decide), fun pn hpn => ?_⟩
    have npl : p ≠ l := ne_of_none upd_same hl
    have hlp : l ≠ pn := ne_of_none upd_same hpn
    have e1 : cutV (ns.map V.int) none (some 63) = (ns.take 63).map V.int := cut_ints ns 63
    have s0 : Same H (upd (upd (upd H p (.lst (cutV (ns.map V.int) none (some 63)))) l (.lst (cutV (ns.map V.int) none (some 63)))) pn (.lst [.ref l, .int 0, .int 0])) := fun b o z => by
      have z1 : (upd H p (.lst (cutV (ns.map V.int) none (some 63)))) b = some o := by rw [upd_ne (ne_of_none z hp)]; exact z
      have z2 : (upd (upd H p (.lst (cutV (ns.map V.int) none (some 63)))) l (.lst (cutV (ns.map V.int) none (some 63)))) b = some o := by rw [upd_ne (ne_of_none z1 hl)]; exact z1
      rw [upd_ne (ne_of_none z2 hpn)]
      exact z2
    have n1 : H pn = none := by
      cases z : H pn with
      | none => rfl
      | some o =>
        rw [upd_ne (Ne.symm hlp)] at hpn
        by_cases y : pn = p
        · rw [y, hp] at z
          cases z
        · rw [upd_ne y, z] at hpn
          cases hpn
    refine k pn _ n1 ⟨l, ns.take 63, 0, 0, upd_same, ?_, ?_, Int.le_refl _, Int.le_refl _⟩ s0
    · rw [upd_ne hlp, upd_same, e1]
    · rw [List.length_take]
      omega
theorem ok_drawC {f : Addr} {fd : FuncData} (F : Fun K "_law_draw" "_law_draw" s_draw f fd) (T : BI mg) : FnOk P w K mg base CX0 1 f fd ["_law_pen_here", "_law_many"] spDrawC := by
  refine F.ok sc_draw (fun vs H Q E h => ?_) (fun cdv A outer s H vs Q E hr h => ?_)
  · obtain ⟨pn, cl, m, n, rfl, _⟩ := h
    rfl
  · obtain ⟨pn, cl, m, n, rfl, hm, hml, ⟨ns, at_, rest, h1, h2, h3, h4, h5⟩, hn, k⟩ := h
    refine ⟨_, (pss_cons (ps_if (pt_cmpR op_gt (pe_ix ix_list (pv 0) pe_int (fun _ _ => rfl)) pe_int (nomark _)) (pss_cons (ps_set (i := 2) sc_draw.nd rfl (Or.inl rfl) (pe_op op_mod (pe_callTy call_int1 (by rfl) T.z_int boot_int (pa_cons (pe_ix ix_list (pv 0) pe_int (fun _ _ => rfl)) pa_nil)) (pv 1)))
      (pss_cons (ps_asg (pe_op op_fdivW (pe_callTy call_int1 (by rfl) T.z_int boot_int (pa_cons (pe_ix ix_list (pv 0) pe_int (fun _ _ => rfl)) pa_nil)) (pv 1)) (pg_sub (pv 0) pe_int set_list))
      (pss_one (ps_ret (pv 2))))) pss_nil)
      (pss_cons (ps_set (i := 3) sc_draw.nd rfl (Or.inl rfl) (pe_ix ix_list (pv 0) pe_int (fun _ _ => rfl)))
      (pss_cons (ps_asg (pe_op op_add (pv 3) pe_int) (pg_sub (pv 0) pe_int set_list))
      (pss_cons (ps_set (i := 4) sc_draw.nd rfl (Or.inl rfl) (pe_op op_add (pe_op op_mul pe_int (pv 3)) pe_int))
      (C8.pss_cut (ps_if (pt_cmpR (op_neD hr.units) (pe_ix ix_list (pv 0) pe_int (fun _ _ => rfl)) (pe_lst pa_nil) (nomark _)) (pss_one (ps_set (i := 4) sc_draw.nd rfl (Or.inl rfl) (pe_ix ix_list (pe_ix ix_list (pv 0) pe_int (fun _ _ => rfl)) (pe_op op_mod (pe_callTy call_int1 (by rfl) T.z_int boot_int (pa_cons (pv 3) pa_nil)) (pe_callB call_len (by rfl) T.z_len PySem.boot_len (pa_cons (pe_ix ix_list (pv 0) pe_int (fun _ _ => rfl)) pa_nil))) (fun _ _ => rfl)))) pss_nil)
      (C8.pss_cut (ps_if (PW.pt (pw_and (pt_cmpR op_lt (pv 3) (pe_callB call_len (by rfl) T.z_len PySem.boot_len (pa_cons (pe_ix ix_list (pv 0) pe_int (fun _ _ => rfl)) pa_nil)) (nomark _)) (pw_and1 (pt_cmpR op_ge (pe_callB call_abs (by rfl) T.z_abs boot_abs (pa_cons (pv 4) pa_nil)) (pe_op op_pow pe_int pe_int) (nomark _))))) (pss_cons (ps_set (i := 5) sc_draw.nd rfl (Or.inl rfl) (pe_op op_add (pe_op op_mul pe_int (pe_op op_sub (pe_callB call_abs (by rfl) T.z_abs boot_abs (pa_cons (pv 4) pa_nil)) (pe_op op_pow pe_int pe_int))) (pe_callTy call_int1 (by rfl) T.z_int boot_int (pa_cons (pe_cmpR op_lt (pv 4) pe_int (nomark _)) pa_nil))))
      (pss_cons (ps_asg (pe_op op_fdivW (pe_callTy call_int1 (by rfl) T.z_int boot_int (pa_cons (pv 5) pa_nil)) (pv 1)) (pg_sub (pv 0) pe_int set_list))
      (pss_one (ps_ret (pe_op op_mod (pe_callTy call_int1 (by rfl) T.z_int boot_int (pa_cons (pv 5) pa_nil)) (pv 1)))))) pss_nil)
      (pss_cons (ps_set (i := 6) sc_draw.nd rfl (Or.inl rfl) (pe_op op_mod (pe_callTy call_int1 (by rfl) T.z_int boot_int (pa_cons (pe_op op_pow (pe_op op_add (pe_op op_add (pe_op op_mod (pe_callTy call_int1 (by rfl) T.z_int boot_int (pa_cons (pv 4) pa_nil)) pe_int) (pe_op op_mul pe_int (pv 3))) pe_int) pe_int) pa_nil)) pe_int))
      (pss_cons (ps_set (i := 6) sc_draw.nd rfl (Or.inl rfl) (pe_op op_add (pe_op op_add (pe_op op_mul (pv 6) (pe_op op_add (pe_op op_mul pe_int (pv 3)) pe_int)) (pe_op op_mul (pe_op op_mul pe_int (pv 3)) (pv 3))) pe_int))
      (pss_one (ps_ret (pe_op op_mod (pe_callTy call_int1 (by rfl) T.z_int boot_int (pa_cons (pe_op op_fdivW (pe_op op_mod (pe_callTy call_int1 (by rfl) T.z_int boot_int (pa_cons (pe_op op_pow (pv 6) pe_int) pa_nil)) pe_int) pe_int) pa_nil)) (pv 1)))))))))))), ?_⟩
    have i2 : atI [V.ref cl, V.int at_, V.int rest] 2 = some (V.int rest) := rfl
    have i1 : atI [V.ref cl, V.int at_, V.int rest] 1 = some (V.int at_) := rfl
    have i0 : atI [V.ref cl, V.int at_, V.int rest] 0 = some (V.ref cl) := rfl
    refine ⟨_, rfl, pn, _, _, _, rfl, rfl, SqL.of h1, i2, _, _, rfl, rfl, _, rfl, ?_⟩
    have npc : cl ≠ pn := ne_of h2 h1 (by
      intro z
      injection z with z
      cases ns with
      | nil => cases z
      | cons a l => cases z)
    refine ite2 (fun c => ?_) (fun c => ?_)
    · refine ⟨_, rfl, pn, _, _, _, rfl, rfl, SqL.of h1, i2, .inl ⟨rest, rfl, _, rfl, _, _, rfl, rfl, hm, ?_⟩⟩
      first
        | refine ⟨_, rfl, pn, _, _, _, rfl, rfl, SqL.of h1, i2, .inl ⟨rest, rfl, _, rfl, _, _, rfl, rfl, ⟨hm, hml⟩, _, rfl, pn, _, _, 2, rfl, rfl, h1, rfl, ?_⟩⟩
        | refine ⟨_, rfl, pn, _, _, _, rfl, rfl, SqL.of h1, i2, _, rfl, _, _, rfl, rfl, ⟨hm, hml⟩, _, rfl, pn, _, _, 2, rfl, rfl, h1, rfl, ?_⟩
      refine ⟨_, rfl, k _ _ (Int.emod_nonneg _ (by omega)) (Int.emod_lt_of_pos _ hm) ?_ But.put⟩
      exact ⟨ns, at_, rest / m, upd_same, by rw [upd_ne npc]; exact h2, h3, h4, by omega⟩
    · refine ⟨_, rfl, pn, _, _, _, rfl, rfl, SqL.of h1, i1, ?_⟩
      refine ⟨_, rfl, _, _, rfl, rfl, _, rfl, pn, _, _, 1, rfl, rfl, h1, rfl, ?_⟩
      refine ⟨_, rfl, _, _, rfl, rfl, .inl ⟨by decide, by decide⟩, _, _, rfl, rfl, ?_⟩
      have i0' : atI [V.ref cl, V.int (at_ + 1), V.int rest] 0 = some (V.ref cl) := rfl
      refine ⟨fun σ H2 => ∃ (cell : Int) (v5 v6 : Option V), σ = [some (.ref pn), some (.int m), none, some (.int at_), some (.int cell), v5, v6] ∧ H2 pn = some (.lst [.ref cl, .int (at_ + 1), .int rest]) ∧ H2 cl = some (.lst (ns.map V.int)) ∧ But pn H H2, ?_, ?_⟩
      · refine ⟨_, rfl, pn, _, _, _, rfl, rfl, SqL.of upd_same, i0', (by show 0 ≤ sizeLine; decide), fun l hl => ?_⟩
        have nlp : pn ≠ l := ne_of_none (upd_same (H := H) (a := pn)) hl
        have nlc : cl ≠ l := ne_of_none (by rw [upd_ne npc]; exact h2) hl
        have w1 : (upd (upd H pn (.lst [.ref cl, .int (at_ + 1), .int rest])) l (.lst [])) pn = some (.lst [.ref cl, .int (at_ + 1), .int rest]) := by rw [upd_ne nlp, upd_same]
        have w2 : (upd (upd H pn (.lst [.ref cl, .int (at_ + 1), .int rest])) l (.lst [])) cl = some (.lst (ns.map V.int)) := by rw [upd_ne nlc, upd_ne npc]; exact h2
        have wb : But pn H (upd (upd H pn (.lst [.ref cl, .int (at_ + 1), .int rest])) l (.lst [])) := But.put.trans (But.new hl)
        refine ⟨.list (ns.map PyData.int), .list [], .lst (SqL.of w2) (dp_ints ns), .lst (SqL.of upd_same) .nil, shaped_ints ns, rfl, _, rfl, ?_⟩
        cases ns with
        | nil =>
          refine iteF ?_
          exact ⟨_, _, _, rfl, w1, w2, wb⟩
        | cons z zs =>
          refine iteT ?_
          have hl0 : (0 : Int) < (((z :: zs).map V.int).length : Int) := by
            rw [List.length_map, List.length_cons]
            omega
          obtain ⟨v, hv⟩ : ∃ v, ((z :: zs))[(at_ % (((z :: zs).map V.int).length : Int)).toNat]? = some v := by
            have g := Int.emod_lt_of_pos at_ hl0
            have g0 := Int.emod_nonneg at_ (show (((z :: zs).map V.int).length : Int) ≠ 0 by omega)
            refine ⟨_, List.getElem?_eq_getElem ?_⟩
            rw [List.length_map] at g g0 ⊢
            omega
          refine ⟨_, rfl, pn, _, _, _, rfl, rfl, SqL.of w1, i0', _, rfl, .inl ⟨at_, rfl, _, rfl, pn, _, _, _, rfl, rfl, SqL.of w1, i0', _, _, rfl, .inl ⟨_, SqL.of w2, rfl⟩, _, _, rfl, rfl, hl0, cl, _, _, .int v, rfl, rfl, SqL.of w2, ?_, ?_⟩⟩
          · have g0 := Int.emod_nonneg at_ (show (((z :: zs).map V.int).length : Int) ≠ 0 by omega)
            refine at_of (j := (at_ % (((z :: zs).map V.int).length : Int)).toNat) (by omega) ?_
            rw [List.getElem?_map, hv]
            rfl
          · exact ⟨_, _, _, rfl, w1, w2, wb⟩
      · rintro σ H2 ⟨cell, v5, v6, rfl, g1, g2, hb⟩
        have pen2 : ∀ r : Int, PenC (upd H2 pn (.lst [.ref cl, .int (at_ + 1), .int r])) pn cl (n + 1) := fun r =>
          ⟨ns, at_ + 1, r, upd_same, by rw [upd_ne npc]; exact g2, h3, by omega, by omega⟩
        refine ⟨fun σ H3 => ∃ (v5 v6 : Option V), σ = [some (.ref pn), some (.int m), none, some (.int at_), some (.int cell), v5, v6] ∧ H3 = H2, ?_, ?_⟩
        · refine ⟨_, rfl, _, rfl, pn, _, _, _, rfl, rfl, SqL.of g1, i0', _, _, rfl, .inl ⟨_, SqL.of g2, rfl⟩, _, _, rfl, rfl, _, rfl, ?_⟩
          refine ite2 (fun c1 => ?_) (fun c1 => iteF ⟨_, _, rfl, rfl⟩)
          refine ⟨_, rfl, _, rfl, _, _, rfl, rfl, ⟨by decide, by decide, by decide⟩, _, _, rfl, rfl, _, rfl, ?_⟩
          refine ite2 (fun c2 => ?_) (fun c2 => ⟨_, _, rfl, rfl⟩)
          refine ⟨_, rfl, _, rfl, _, _, rfl, rfl, ⟨by decide, by decide, by decide⟩, _, _, rfl, rfl, _, _, rfl, rfl, .inl ⟨by decide, by decide⟩, _, rfl, _, _, rfl, rfl, .inr ⟨_, rfl, _, _, rfl, rfl, ?_⟩⟩
          first
            | refine ⟨_, rfl, .inl ⟨_, rfl, _, rfl, _, _, rfl, rfl, ⟨hm, hml⟩, _, rfl, pn, _, _, 2, rfl, rfl, g1, rfl, ?_⟩⟩
            | refine ⟨_, rfl, _, rfl, _, _, rfl, rfl, ⟨hm, hml⟩, _, rfl, pn, _, _, 2, rfl, rfl, g1, rfl, ?_⟩
          refine ⟨_, rfl, .inl ⟨_, rfl, _, rfl, _, _, rfl, rfl, hm, ?_⟩⟩
          exact k _ _ (Int.emod_nonneg _ (by omega)) (Int.emod_lt_of_pos _ hm) (pen2 _) (hb.trans But.put)
        · rintro σ H3 ⟨v5, v6, rfl, rfl⟩
          have ea : at_ < 100000 := by omega
          refine ⟨_, rfl, .inl ⟨_, rfl, _, _, rfl, rfl, (by show (0 : Int) < _; decide), _, rfl, _, _, rfl, rfl, .inl ⟨by decide, by decide⟩, _, _, rfl, rfl, _, _, rfl, rfl, _, _, rfl, rfl, ⟨by decide, by decide, ?_⟩, .inl ⟨_, rfl, _, _, rfl, rfl, (by show (0 : Int) < _; decide), ?_⟩⟩⟩
          · have e1 := Int.emod_nonneg cell (show (2147483587 : Int) ≠ 0 by decide)
            have e2 := Int.emod_lt_of_pos cell (show (0 : Int) < 2147483587 by decide)
            refine pow_lt (by omega) (by omega)
          have x0 := Int.emod_nonneg ((cell % 2147483587 + 47891 * at_ + 313) ^ Int.toNat 5) (show (2147483629 : Int) ≠ 0 by decide)
          have x1 := Int.emod_lt_of_pos ((cell % 2147483587 + 47891 * at_ + 313) ^ Int.toNat 5) (show (0 : Int) < 2147483629 by decide)
          refine ⟨_, rfl, _, rfl, _, _, rfl, rfl, .inl ⟨by decide, by decide⟩, _, _, rfl, rfl, _, _, rfl, rfl, .inl ⟨Int.lt_of_lt_of_le (by decide) x0, Int.lt_trans x1 (by decide)⟩, _, rfl, _, _, rfl, rfl, .inl ⟨by decide, by decide⟩, _, rfl, _, _, rfl, rfl, .inr ⟨by omega, by omega⟩, _, _, rfl, rfl, _, _, rfl, rfl, _, rfl, _, _, rfl, rfl, ⟨by decide, by decide, ?_⟩, .inl ⟨_, rfl, _, _, rfl, rfl, (by show (0 : Int) < _; decide), _, _, rfl, rfl, ⟨by decide, by decide⟩, .inl ⟨_, rfl, _, rfl, _, _, rfl, rfl, hm, ?_⟩⟩⟩
          · exact mix_lt x0 (Int.lt_trans x1 (by decide)) h4 ea (by decide) (by decide) (by decide) (by decide) (by decide) (by decide)
          exact k _ _ (Int.emod_nonneg _ (by omega)) (Int.emod_lt_of_pos _ hm) ⟨ns, at_ + 1, rest, g1, g2, h3, by omega, by omega⟩ hb
theorem ok_draw {f : Addr} {fd : FuncData} (F : Fun K "_law_draw" "_law_draw" s_draw f fd) (T : BI mg) : FnOk P w K mg base CX0 1 f fd ["_law_pen_here", "_law_many"] spDraw := by
  have G := ok_drawC (P := P) (w := w) (base := base) F T
  have to : ∀ vs H Q E, spDraw vs H Q E → spDrawC vs H Q E := fun vs H Q E h => by
    obtain ⟨pn, m, n, e, hm, hml, hp, hn, k⟩ := h
    obtain ⟨cl, hc⟩ := hp.cells
    exact ⟨pn, cl, m, n, e, hm, hml, hc, hn, fun d H' a b c u => k d H' a b c.pen u⟩
  exact ⟨fun vs H Q E h => G.len vs H Q E (to _ _ _ _ h), fun A outer s H args us vs Q E hr e0 hb r h => G.run A outer s H args us vs Q E hr e0 hb r (to _ _ _ _ h)⟩
theorem ok_pick {f : Addr} {fd : FuncData} (F : Fun K "_law_pick" "_law_pick" s_pick f fd) (T : BI mg) (D_draw : DefAt P w K mg base CX0 1 "_law_draw" ["_law_pen_here", "_law_many"] spDraw) : FnOk P w K mg base CX0 2 f fd ["_law_pen_here", "_law_some"] spPick := by
  refine F.ok sc_pick (fun vs H Q E h => ?_) (fun cdv A outer s H vs Q E hr h => ?_)
  · obtain ⟨pn, l, n, xs, rfl, _⟩ := h
    rfl
  · obtain ⟨pn, l, n, xs, rfl, hl, nl, h0, h1, hp, hn, k⟩ := h
    refine ⟨_, (pss_one (ps_ret (pe_ix ix_list (pv 1) (My.pe_d D_draw (hr.mono (by decide)) (by rfl) pass0 (pa_cons (pv 0) (pa_cons (pe_callB call_len (by rfl) T.z_len PySem.boot_len (pa_cons (pv 1) pa_nil)) pa_nil))) (fun _ _ => rfl)))), ?_⟩
    refine ⟨_, rfl, _, rfl, _, rfl, _, _, rfl, .inl ⟨_, SqL.of hl, rfl⟩, pn, _, n, rfl, by omega, ?_, hp, hn, fun d H' d0 d1 hp' hb => ?_⟩
    · refine Nat.lt_of_lt_of_le (PySem.Flt.log2_lt_of (k := 10) (by decide) ?_) (by decide)
      show xs.length < 1024
      omega
    · obtain ⟨v, hv⟩ : ∃ v, xs[d.toNat]? = some v := ⟨_, List.getElem?_eq_getElem (by omega)⟩
      refine ⟨l, _, _, v, rfl, rfl, SqL.of (hb l _ hl nl), at_of (j := d.toNat) (by omega) hv, ?_⟩
      exact k v H' (List.mem_of_getElem? hv) hp' hb
end
end My
namespace My
/-! ### fractions in lowest terms -/
def sgcd (t b : Int) : Int := if b < 0 then -(Int.gcd t b : Int) else (Int.gcd t b : Int)
def lowT (t b : Int) : Int := t.fdiv (sgcd t b)
def lowB (t b : Int) : Int := b.fdiv (sgcd t b)
theorem gcd_posI {t b : Int} (h : b ≠ 0) : 0 < (Int.gcd t b : Int) := by
  have : 0 < Int.gcd t b := Int.gcd_pos_of_ne_zero_right t h
  omega
theorem sgcd_ne {t b : Int} (h : b ≠ 0) : sgcd t b ≠ 0 := by
  have := gcd_posI (t := t) h
  unfold sgcd
  split <;> omega
theorem sgcd_dvd_l (t b : Int) : sgcd t b ∣ t := by
  unfold sgcd
  split
  · exact Int.neg_dvd.mpr (Int.gcd_dvd_left ..)
  · exact Int.gcd_dvd_left ..
theorem sgcd_dvd_r (t b : Int) : sgcd t b ∣ b := by
  unfold sgcd
  split
  · exact Int.neg_dvd.mpr (Int.gcd_dvd_right ..)
  · exact Int.gcd_dvd_right ..
theorem fdiv_mul_of {a c : Int} (h : c ∣ a) : c * a.fdiv c = a := Int.mul_fdiv_cancel' h
theorem low_t (t b : Int) : sgcd t b * lowT t b = t := fdiv_mul_of (sgcd_dvd_l t b)
theorem low_b (t b : Int) : sgcd t b * lowB t b = b := fdiv_mul_of (sgcd_dvd_r t b)
theorem lowB_pos {t b : Int} (h : b ≠ 0) : 0 < lowB t b := by
  have e := low_b t b
  have g := gcd_posI (t := t) h
  by_cases hb : b < 0
  · have s : sgcd t b = -(Int.gcd t b : Int) := if_pos hb
    rw [s] at e
    rcases Int.lt_trichotomy (lowB t b) 0 with q | q | q
    · exfalso
      have := Int.mul_pos (a := (Int.gcd t b : Int)) (b := -lowB t b) g (by omega)
      rw [Int.mul_neg] at this
      rw [Int.neg_mul] at e
      omega
    · rw [q] at e; omega
    · exact q
  · have s : sgcd t b = (Int.gcd t b : Int) := if_neg hb
    rw [s] at e
    rcases Int.lt_trichotomy (lowB t b) 0 with q | q | q
    · exfalso
      have := Int.mul_pos (a := (Int.gcd t b : Int)) (b := -lowB t b) g (by omega)
      rw [Int.mul_neg] at this
      omega
    · rw [q] at e; omega
    · exact q
theorem sgcd_abs (t b : Int) : (sgcd t b).natAbs = Int.gcd t b := by
  unfold sgcd
  split <;> simp
theorem low_cop {t b : Int} (h : b ≠ 0) : Int.gcd (lowT t b) (lowB t b) = 1 := by
  have e1 := low_t t b
  have e2 := low_b t b
  have e3 : Int.gcd (sgcd t b * lowT t b) (sgcd t b * lowB t b) = (sgcd t b).natAbs * Int.gcd (lowT t b) (lowB t b) := Int.gcd_mul_left ..
  rw [e1, e2, sgcd_abs] at e3
  have g := gcd_posI (t := t) h
  have g' : 0 < Int.gcd t b := by omega
  exact Nat.eq_of_mul_eq_mul_left g' (by rw [Nat.mul_one]; exact e3.symm)
/-- the law's own way: by the sign and the divisor -/
theorem sgnT {t b : Int} (h : b ≠ 0) : ((if b > 0 then 1 else -1) * t).fdiv (Int.gcd t b : Int) = lowT t b := by
  have g := gcd_posI (t := t) h
  have e := low_t t b
  have key : ((if b > 0 then 1 else -1) * t) = (Int.gcd t b : Int) * lowT t b := by
    conv => lhs; rw [← e]
    unfold sgcd
    by_cases hb : b < 0
    · rw [if_pos hb, if_neg (show ¬ b > 0 by omega), Int.neg_mul, Int.neg_mul, Int.mul_neg, Int.neg_neg, Int.one_mul]
    · rw [if_neg hb, if_pos (show b > 0 by omega), Int.one_mul]
  rw [key, Int.mul_fdiv_cancel_left _ (by omega)]
theorem sgnB {t b : Int} (h : b ≠ 0) : ((if b > 0 then 1 else -1) * b).fdiv (Int.gcd t b : Int) = lowB t b := by
  have g := gcd_posI (t := t) h
  have e := low_b t b
  have key : ((if b > 0 then 1 else -1) * b) = (Int.gcd t b : Int) * lowB t b := by
    have e' : sgcd t b = (if b > 0 then 1 else -1) * (Int.gcd t b : Int) := by
      unfold sgcd
      by_cases hb : b < 0
      · rw [if_pos hb, if_neg (show ¬ b > 0 by omega), Int.neg_mul, Int.one_mul]
      · rw [if_neg hb, if_pos (show b > 0 by omega), Int.one_mul]
    rw [e'] at e
    by_cases hb : b < 0
    · rw [if_neg (show ¬ b > 0 by omega)] at e ⊢
      rw [Int.neg_mul, Int.one_mul] at e ⊢
      rw [Int.neg_mul] at e
      omega
    · rw [if_pos (show b > 0 by omega)] at e ⊢
      rw [Int.one_mul] at e ⊢
      omega
  rw [key, Int.mul_fdiv_cancel_left _ (by omega)]
theorem cop_dvd {n d m : Int} (h : Int.gcd n d = 1) (k : d ∣ n * m) : d ∣ m := by
  have h1 : d.natAbs ∣ n.natAbs * m.natAbs := by
    rw [← Int.natAbs_mul]
    exact Int.natAbs_dvd_natAbs.mpr k
  have h2 : Nat.Coprime d.natAbs n.natAbs := by
    show Nat.gcd _ _ = 1
    rw [Nat.gcd_comm]
    exact h
  exact Int.natAbs_dvd_natAbs.mp (h2.dvd_of_dvd_mul_left h1)
theorem low_only {n1 d1 n2 d2 : Int} (p1 : 0 < d1) (p2 : 0 < d2) (c1 : Int.gcd n1 d1 = 1) (c2 : Int.gcd n2 d2 = 1) (h : n1 * d2 = n2 * d1) : n1 = n2 ∧ d1 = d2 := by
  have e1 : d1 ∣ d2 := cop_dvd c1 (by rw [h]; exact Int.dvd_mul_left ..)
  have e2 : d2 ∣ d1 := cop_dvd c2 (by rw [← h]; exact Int.dvd_mul_left ..)
  have e : d1 = d2 := Int.le_antisymm (Int.le_of_dvd p2 e1) (Int.le_of_dvd p1 e2)
  subst e
  exact ⟨Int.eq_of_mul_eq_mul_right (by omega) h, rfl⟩
theorem low_cross {t b : Int} : lowT t b * b = lowB t b * t := by
  have e1 := low_t t b
  have e2 := low_b t b
  calc lowT t b * b = lowT t b * (sgcd t b * lowB t b) := by rw [e2]
    _ = lowB t b * (sgcd t b * lowT t b) := by simp only [Int.mul_comm, Int.mul_left_comm]
    _ = lowB t b * t := by rw [e1]
/-- equal fractions have the same lowest terms -/
theorem low_eq {t1 b1 t2 b2 : Int} (h1 : b1 ≠ 0) (h2 : b2 ≠ 0) (h : t1 * b2 = t2 * b1) : lowT t1 b1 = lowT t2 b2 ∧ lowB t1 b1 = lowB t2 b2 := by
  refine low_only (lowB_pos h1) (lowB_pos h2) (low_cop h1) (low_cop h2) ?_
  have s1 := sgcd_ne (t := t1) h1
  have s2 := sgcd_ne (t := t2) h2
  have a1 := low_t t1 b1
  have a2 := low_b t1 b1
  have a3 := low_t t2 b2
  have a4 := low_b t2 b2
  have q : (sgcd t1 b1 * sgcd t2 b2) * (lowT t1 b1 * lowB t2 b2) = (sgcd t1 b1 * sgcd t2 b2) * (lowT t2 b2 * lowB t1 b1) := by
    calc (sgcd t1 b1 * sgcd t2 b2) * (lowT t1 b1 * lowB t2 b2) = (sgcd t1 b1 * lowT t1 b1) * (sgcd t2 b2 * lowB t2 b2) := by grind
      _ = t1 * b2 := by rw [a1, a4]
      _ = t2 * b1 := h
      _ = (sgcd t2 b2 * lowT t2 b2) * (sgcd t1 b1 * lowB t1 b1) := by rw [a3, a2]
      _ = _ := by grind
  exact Int.eq_of_mul_eq_mul_left (Int.mul_ne_zero s1 s2) q
theorem low_self {n d : Int} (p : 0 < d) (c : Int.gcd n d = 1) : lowT n d = n ∧ lowB n d = d := by
  have h : d ≠ 0 := by omega
  exact low_only (lowB_pos h) p (low_cop h) c (by rw [low_cross, Int.mul_comm])
theorem lowT_abs {t b : Int} (h : b ≠ 0) : (lowT t b).natAbs ≤ t.natAbs := by
  have e := congrArg Int.natAbs (low_t t b)
  rw [Int.natAbs_mul] at e
  have s : 0 < (sgcd t b).natAbs := Int.natAbs_pos.mpr (sgcd_ne h)
  rw [← e]
  exact Nat.le_mul_of_pos_left _ s
theorem lowB_abs {t b : Int} (h : b ≠ 0) : (lowB t b).natAbs ≤ b.natAbs := by
  have e := congrArg Int.natAbs (low_b t b)
  rw [Int.natAbs_mul] at e
  have s : 0 < (sgcd t b).natAbs := Int.natAbs_pos.mpr (sgcd_ne h)
  rw [← e]
  exact Nat.le_mul_of_pos_left _ s
theorem sgcd_le {t b : Int} (h : b ≠ 0) : (sgcd t b).natAbs ≤ b.natAbs := by
  have e := congrArg Int.natAbs (low_b t b)
  rw [Int.natAbs_mul] at e
  have s : 0 < (lowB t b).natAbs := Int.natAbs_pos.mpr (by have := lowB_pos (t := t) h; omega)
  rw [← e]
  exact Nat.le_mul_of_pos_right _ s
theorem gcd_le_r {t b : Int} (h : b ≠ 0) : Int.gcd t b ≤ b.natAbs := by
  rw [← sgcd_abs]
  exact sgcd_le h
theorem lowT_zero {t b : Int} (h : b ≠ 0) : lowT t b = 0 ↔ t = 0 := by
  constructor
  · intro e
    have := low_t t b
    rw [e, Int.mul_zero] at this
    exact this.symm
  · rintro rfl
    have := low_t 0 b
    rcases Int.mul_eq_zero.mp this with q | q
    · exact absurd q (sgcd_ne h)
    · exact q
/-- a fraction turned over that equals itself -/
theorem turned {n d : Int} (p : 0 < d) (c : Int.gcd n d = 1) (hn : n ≠ 0) (e2 : lowB d n = d) : n.natAbs = d.natAbs := by
  have g : Int.gcd d n = 1 := by rw [Int.gcd_comm]; exact c
  have b := low_b d n
  have s : (sgcd d n).natAbs = 1 := by rw [sgcd_abs, g]
  have := congrArg Int.natAbs b
  rw [Int.natAbs_mul, s, Nat.one_mul, e2] at this
  exact this.symm
/-- one turn of Euclid's way -/
theorem gcd_turn {a b : Int} (ha : 0 ≤ a) (hb : 0 ≤ b) : Int.gcd b (a.fmod b) = Int.gcd a b := by
  rw [Int.fmod_eq_emod_of_nonneg _ hb]
  unfold Int.gcd
  rw [Int.natAbs_emod_of_nonneg ha, Nat.gcd_comm, Nat.gcd_comm a.natAbs, ← Nat.gcd_rec]
theorem fmod_bd {a b : Int} (hb : 0 < b) : 0 ≤ a.fmod b ∧ a.fmod b < b := by
  rw [Int.fmod_eq_emod_of_nonneg _ (by omega)]
  exact ⟨Int.emod_nonneg _ (by omega), Int.emod_lt_of_pos _ hb⟩
theorem gcd_absI (a b : Int) : Int.gcd (if a < 0 then -a else a) (if b < 0 then -b else b) = Int.gcd a b := by
  unfold Int.gcd
  congr 1 <;> split <;> simp
end My
set_option pp.maxSteps 1500
set_option pp.deepTerms.threshold 8
/-! ### numbers -/
namespace My
open PySem PySem.Spec PyProof.Rows L2
abbrev s_whole0 : Stmt := topS 16
theorem sc_whole0 : FnScope ["value"] ["value"] (defScope s_whole0) := ⟨rfl, rfl, rfl, by decide +kernel, rfl, by decide +kernel, by decide +kernel⟩
abbrev s_cd : Stmt := topS 17
theorem sc_cd : FnScope ["one", "other"] ["one", "other"] (defScope s_cd) := ⟨rfl, rfl, rfl, by decide +kernel, rfl, by decide +kernel, by decide +kernel⟩
abbrev s_partsof : Stmt := topS 19
theorem sc_partsof : FnScope ["number"] ["number"] (defScope s_partsof) := ⟨rfl, rfl, rfl, by decide +kernel, rfl, by decide +kernel, by decide +kernel⟩
abbrev s_rinit : Stmt := inClass (topS 21) 0
theorem sc_rinit : FnScope ["self", "top", "bottom", "shared"] ["self", "top", "bottom"] (defScope s_rinit) := ⟨rfl, rfl, rfl, by decide +kernel, rfl, by decide +kernel, by decide +kernel⟩
abbrev s_isnum : Stmt := inClass (topS 21) 1
theorem sc_isnum : FnScope ["thing"] ["thing"] (defScope s_isnum) := ⟨rfl, rfl, rfl, by decide +kernel, rfl, by decide +kernel, by decide +kernel⟩
abbrev s_of : Stmt := inClass (topS 21) 2
theorem sc_of : FnScope ["number", "top", "bottom"] ["number"] (defScope s_of) := ⟨rfl, rfl, rfl, by decide +kernel, rfl, by decide +kernel, by decide +kernel⟩
def rfs (a b : Int) : List (Str × V) := putF "bottom" (.int b) (putF "top" (.int a) [])
theorem rsm : ¬ (("top" : Str) = "bottom") := by decide +kernel
theorem rfs_top (a b : Int) : (rfs a b).lookup ("top" : Str) = some (.int a) := by
  unfold rfs
  rw [lookup_putF, if_neg rsm, lookup_putF, if_pos rfl]
theorem rfs_bot (a b : Int) : (rfs a b).lookup ("bottom" : Str) = some (.int b) := by
  unfold rfs
  rw [lookup_putF, if_pos rfl]
theorem rfs_no (a b : Int) {m : Str} (h1 : ¬ m = "bottom") (h2 : ¬ m = "top") : (rfs a b).lookup m = none := by
  unfold rfs
  rw [lookup_putF, if_neg h1, lookup_putF, if_neg h2]
  rfl
/-- at p: a Ratio with this top and this bottom -/
def RatAt (C : Addr) (H : Hp) (p : Addr) (a b : Int) : Prop := ∃ dx, H p = some (.ins C dx (rfs a b))
theorem RatAt.same {C : Addr} {H H' : Hp} {p : Addr} {a b : Int} (h : RatAt C H p a b) (k : Same H H') : RatAt C H' p a b := by
  obtain ⟨dx, e⟩ := h
  exact ⟨dx, k _ _ e⟩
theorem RatAt.ext {C : Addr} {H H' : Hp} {p : Addr} {a b : Int} (h : RatAt C H p a b) (k : LamX.ExtN H H') : RatAt C H' p a b := by
  obtain ⟨dx, e⟩ := h
  exact ⟨dx, k _ _ e (by intro ps z; cases z)⟩
/-- what the top has written of Ratio -/
structure RTx (K : PySem.W.Frag) (mg : Str → Option Value) (Cs : List Addr) (CR : Addr) : Prop extends BI mg where
  fam : Fam K Cs
  inn : CR ∈ Cs
  cl : Cls K CR
  nT : NoAttr K CR "top"
  nB : NoAttr K CR "bottom"
  gR : mg "Ratio" = some (.ref CR)
  z_str : mg "str" = none
  z_tuple : mg "tuple" = none
theorem RTx.own {K : PySem.W.Frag} {mg : Str → Option Value} {Cs : List Addr} {CR : Addr} (T : RTx K mg Cs CR) : Own K CR := T.fam.own CR T.inn
/-- a number: a Ratio, or an int -/
def NumAt (C : Addr) (H : Hp) (v : V) (a b : Int) : Prop := (∃ p, v = .ref p ∧ RatAt C H p a b) ∨ (v = .int a ∧ b = 1)
theorem NumAt.same {C : Addr} {H H' : Hp} {v : V} {c d : Int} (h : NumAt C H v c d) (s : Same H H') : NumAt C H' v c d := by
  rcases h with ⟨p, e, l⟩ | h
  · exact .inl ⟨p, e, l.same s⟩
  · exact .inr h
def spCd : Sp := fun vs H Q _ => ∃ (a b : Int), vs = [.int a, .int b] ∧ Q (.int (Int.gcd a b : Int)) H
def spParts0 (C : Addr) : Sp := fun vs H Q _ => ∃ (v : V) (a b : Int), vs = [v] ∧ NumAt C H v a b ∧ ∀ t, H t = none → Q (.ref t) (upd H t (.tup [.int a, .int b]))
/-- Ratio.__init__ of ints -/
def spRinit (C : Addr) : Sp := fun vs H Q _ => ∃ (p dx : Addr) (t b : Int), vs = [.ref p, .int t, .int b] ∧ H p = some (.ins C dx []) ∧ b ≠ 0 ∧ b.natAbs.log2 < 9000 ∧
  ∀ H', H' p = some (.ins C dx (rfs (lowT t b) (lowB t b))) → (∀ c o, H c = some o → c ≠ p → H' c = some o) → Q .non H'
/-- Ratio.is_number(v) -/
def notIns (C : Addr) (H : Hp) (v : V) : Prop := ∀ a dx fs, v = .ref a → H a ≠ some (.ins C dx fs)
def IsNum (Cs : List Addr) (C : Addr) (H : Hp) (v : V) (b : Bool) : Prop := (b = true ∧ ∃ p n d, v = .ref p ∧ RatAt C H p n d) ∨ (AnyF Cs H v ∧ notIns C H v ∧ b = isI v)
theorem IsNum.num {Cs : List Addr} {C : Addr} {H : Hp} {v : V} {c d : Int} (h : NumAt C H v c d) : IsNum Cs C H v true := by
  rcases h with ⟨p, rfl, l⟩ | ⟨rfl, _⟩
  · exact .inl ⟨rfl, p, _, _, rfl, l⟩
  · exact .inr ⟨AnyF.int Cs H c, (fun _ _ _ z => nomatch z), rfl⟩
theorem IsNum.odd {Cs : List Addr} {C : Addr} {H : Hp} {v : V} (h : AnyF Cs H v) (n : notIns C H v) (i : isI v = false) : IsNum Cs C H v false := .inr ⟨h, n, i.symm⟩
def spIsnum (Cs : List Addr) (C : Addr) : Sp := fun vs H Q _ => ∃ (v : V) (b : Bool), vs = [v] ∧ IsNum Cs C H v b ∧ Q (.bl b) H
def spOf (C : Addr) : Sp := fun vs H Q _ => ∃ (v : V) (a b : Int), vs = [v] ∧ NumAt C H v a b ∧ b ≠ 0 ∧ b.natAbs.log2 < 9000 ∧ ∀ (q : Addr) (H' : Hp), RatAt C H' q (lowT a b) (lowB a b) → Same H H' → Q (.ref q) H'
theorem log_le {x y : Nat} (h : x ≤ y) (k : y.log2 < 9000) (hx : x ≠ 0) : x.log2 < 9000 := by
  have h1 : y < 2 ^ 9000 := (Nat.log2_lt (by omega)).mp k
  exact (Nat.log2_lt hx).mpr (Nat.lt_of_le_of_lt h h1)
theorem rinit_at {C : Addr} {H : Hp} {x dx : Addr} {a b : Int} {R : Hp → Prop} {E : XK} (hb : b ≠ 0) (lb : b.natAbs.log2 < 9000) (hx : H x = none) (hd : H dx = none) (ne : dx ≠ x) (k : ∀ H', RatAt C H' x (lowT a b) (lowB a b) → Same H H' → R H') :
    spRinit C (.ref x :: ([.int a, .int b] ++ [])) (upd (upd H dx (.own x)) x (.ins C dx [])) (fun v H2 => v = .non ∧ R H2) E := by
  refine ⟨x, dx, a, b, rfl, upd_same, hb, lb, fun H' h1 h2 => ⟨rfl, k H' ⟨dx, h1⟩ fun c o e => h2 c o ?_ (ne_of_none e hx)⟩⟩
  rw [upd_ne (ne_of_none e hx), upd_ne (ne_of_none e hd)]
  exact e
section
variable {P : Program} {w : World} {K : PySem.W.Frag} {mg : Str → Option Value} {base : Heap} {Cs : List Addr} {CR : Addr}
theorem ok_whole0 {f : Addr} {fd : FuncData} (F : Fun K "is_whole" "is_whole" s_whole0 f fd) (T : BI mg) (fam : Fam K Cs) : FnOk P w K mg base CX0 1 f fd ["value"] (spWh Cs) := by
  refine F.ok sc_whole0 (fun vs H Q E h => ?_) (fun cdv A outer s H vs Q E hr h => ?_)
  · obtain ⟨v, rfl, _⟩ := h
    rfl
  · obtain ⟨v, rfl, ty, q⟩ := h
    refine ⟨_, (pss_one (ps_ret (pe_and (pe_callB call_isi (by rfl) T.z_isinstance boot_isinstance (pa_cons (pv 0) (pa_cons (pe_bltn (v := .ty "int") (by rfl) T.z_int boot_int rfl) pa_nil))) (pe_one (pe_not (pe_callB call_isi (by rfl) T.z_isinstance boot_isinstance (pa_cons (pv 0) (pa_cons (pe_bltn (v := .ty "bool") (by rfl) T.z_bool boot_bool rfl) pa_nil)))))))), ?_⟩
    obtain ⟨t, b, tx, e1, e2, e3⟩ := fam.kint ty
    refine ⟨_, rfl, v, _, _, _, b, rfl, .ty _, tx, e1, _, rfl, ?_⟩
    cases b with
    | false =>
      refine iteF ?_
      rw [e3 rfl] at q
      exact q
    | true =>
      refine iteT ?_
      obtain ⟨c, e4, e5⟩ := e2 rfl
      refine ⟨_, rfl, v, _, _, _, c, rfl, .ty _, tx, e4, _, rfl, ?_⟩
      rw [e5] at q
      exact q
theorem ok_cd {f : Addr} {fd : FuncData} (F : Fun K "common_divisor" "common_divisor" s_cd f fd) (T : BI mg) : FnOk P w K mg base CX0 1 f fd ["one", "other"] spCd := by
  refine F.ok sc_cd (fun vs H Q E h => ?_) (fun cdv A outer s H vs Q E hr h => ?_)
  · obtain ⟨a, b, rfl, _⟩ := h
    rfl
  · obtain ⟨a, b, rfl, q⟩ := h
    refine ⟨_, (pss_cons (ps_par (i := 0) (j := 1) (by rfl) sc_cd.nd rfl rfl (by decide) rfl rfl (pa_cons (pe_callB call_abs (by rfl) T.z_abs boot_abs (pa_cons (pv 0) pa_nil)) (pa_cons (pe_callB call_abs (by rfl) T.z_abs boot_abs (pa_cons (pv 1) pa_nil)) pa_nil)) (by rfl))
      (pss_cons (ps_while PassesOwn.never (pt_cmpR op_ne (pv 1) pe_int (nomark _)) (pss_one (ps_par (i := 0) (j := 1) (by rfl) sc_cd.nd rfl rfl (by decide) rfl rfl (pa_cons (pv 1) (pa_cons (pe_op op_modN (pv 0) (pv 1)) pa_nil)) (by rfl))))
      (pss_one (ps_ret (pv 0))))), ?_⟩
    refine ⟨_, rfl, a, rfl, _, rfl, b, rfl, _, _, rfl, ?_⟩
    refine while_by (fun σ Hz => Hz = H ∧ ∃ x y : Int, σ = [some (.int x), some (.int y)] ∧ 0 ≤ x ∧ 0 ≤ y ∧ Int.gcd x y = Int.gcd a b) (fun σ _ => match σ with | [_, some (.int y)] => y.toNat | _ => 0) ?_ ?_ ?_
    · exact ⟨rfl, _, _, rfl, by split <;> omega, by split <;> omega, gcd_absI a b⟩
    · rintro σ Hz ⟨rfl, x, y, rfl, hx, hy, hg⟩
      refine ⟨_, rfl, rfl, _, rfl, ?_⟩
      refine ite2 (fun c => ?_) (fun c => ?_)
      · have y0 : y ≠ 0 := by
          rintro rfl
          simp at c
        obtain ⟨m1, m2⟩ := fmod_bd (a := x) (b := y) (by omega)
        refine ⟨_, rfl, _, rfl, _, rfl, _, _, rfl, rfl, y0, _, _, rfl, ⟨rfl, y, x.fmod y, rfl, hy, m1, ?_⟩, ?_⟩
        · rw [gcd_turn hx hy]
          exact hg
        · show (x.fmod y).toNat < y.toNat
          omega
      · have y0 : y = 0 := by
          by_cases z : y = 0
          · exact z
          · exfalso
            apply c
            simp [z]
        subst y0
        have e : x = (Int.gcd a b : Int) := by
          rw [← hg]
          show x = ((Nat.gcd x.natAbs 0 : Nat) : Int)
          rw [Nat.gcd_zero_right]
          omega
        rw [← e] at q
        exact ⟨_, rfl, q⟩
    · rintro σ Hz Q1 Q2 hm ⟨v, e, h1, h2⟩
      exact ⟨v, e, h1, by obtain ⟨b, e2, h3⟩ := h2; exact ⟨b, e2, hm _ _ h3⟩⟩
theorem ok_partsof {f : Addr} {fd : FuncData} (F : Fun K "parts_of" "parts_of" s_partsof f fd) (T : RTx K mg Cs CR) : FnOk P w K mg base CX0 1 f fd ["number"] (spParts0 CR) := by
  refine F.ok sc_partsof (fun vs H Q E h => ?_) (fun cdv A outer s H vs Q E hr h => ?_)
  · obtain ⟨v, a, b, rfl, _⟩ := h
    rfl
  · obtain ⟨v, a, b, rfl, hv, q⟩ := h
    refine ⟨_, (pss_one (ps_ret (pe_ifExp (pt_val (pe_callB call_isi (by rfl) T.z_isinstance boot_isinstance (pa_cons (pv 0) (pa_cons (pe_glob (v := .ref CR) (by rfl) T.gR rfl) pa_nil)))) (pe_tup (pa_cons (pe_fld (pv 0) rfl) (pa_cons (pe_fld (pv 0) rfl) pa_nil))) (pe_tup (pa_cons (pv 0) (pa_cons pe_int pa_nil)))))), ?_⟩
    rcases hv with ⟨p, rfl, hl⟩ | ⟨rfl, rfl⟩
    · obtain ⟨dx, e⟩ := id hl
      refine ⟨_, rfl, _, _, _, _, true, rfl, .own _, T.own.ty e, T.own.me, _, rfl, iteT ?_⟩
      exact ⟨_, rfl, p, CR, dx, _, _, rfl, e, T.cl, T.nT, rfs_top _ _, _, rfl, p, CR, dx, _, _, rfl, e, T.cl, T.nB, rfs_bot _ _, (by show 2 ≤ sizeLine; decide), fun t ht => q t ht⟩
    · refine ⟨_, rfl, _, _, _, _, false, rfl, .own _, (Ty0.int a).tyx, (T.own.kn _ (.head _)).1, _, rfl, iteF ?_⟩
      exact ⟨_, rfl, (by show 2 ≤ sizeLine; decide), fun t ht => q t ht⟩
theorem ok_rinit {f : Addr} {fd : FuncData} (F : FunD K "__init__" "Ratio.__init__" (defArgs s_rinit) (defBody s_rinit) (defScope s_rinit) [.int 1] [] f fd) (T : RTx K mg Cs CR)
    (D_whole0 : DefAt P w K mg base CX0 1 "is_whole" ["value"] (spWh Cs)) (D_cd : DefAt P w K mg base CX0 1 "common_divisor" ["one", "other"] spCd) : FnOk P w K mg base (L2.CX P w) 3 f fd ["self", "top", "bottom"] (spRinit CR) := by
  refine F.ok sc_rinit (fun vs H Q E h => ?_) (fun cdv A outer s H vs Q E hr h => ?_)
  · obtain ⟨p, dx, t, b, rfl, _⟩ := h
    rfl
  · obtain ⟨p, dx, t, b, rfl, hp, b0, lb, kQ⟩ := h
    refine ⟨_, (pss_cons (ps_if (pt_not (pt_val (My.pe_d D_whole0 (hr.mono (by decide)) (by rfl) pass0 (pa_cons (pv 1) pa_nil)))) (pss_one ps_never) pss_nil)
      (pss_cons (ps_if (pt_not (pt_val (My.pe_d D_whole0 (hr.mono (by decide)) (by rfl) pass0 (pa_cons (pv 2) pa_nil)))) (pss_one ps_never) pss_nil)
      (pss_cons (ps_if (pt_cmpR op_eq (pv 2) pe_int (nomark _)) (pss_one ps_never) pss_nil)
      (pss_cons (ps_set (i := 3) sc_rinit.nd rfl (Or.inl rfl) (My.pe_d D_cd (hr.mono (by decide)) (by rfl) pass0 (pa_cons (pv 1) (pa_cons (pv 2) pa_nil))))
      (C8.pss_cut (ps_if (pt_cmpR op_lt (pv 2) pe_int (nomark _)) (pss_one (ps_set (i := 3) sc_rinit.nd rfl (Or.inl rfl) (pe_un un_neg (pv 3)))) pss_nil)
      (pss_cons (ps_fld (pv 0) (pe_op My.op_fdivX (pv 1) (pv 3)) rfl)
      (pss_one (ps_fld (pv 0) (pe_op My.op_fdivX (pv 2) (pv 3)) rfl)))))))), ?_⟩
    refine ⟨_, rfl, .int t, rfl, AnyF.int Cs H t, _, rfl, iteF ?_⟩
    refine ⟨_, rfl, .int b, rfl, AnyF.int Cs H b, _, rfl, iteF ?_⟩
    refine ⟨_, rfl, rfl, _, rfl, ?_⟩
    refine ite2 (fun c => ?_) (fun c => ?_)
    · exact absurd (V.int.inj (of_decide_eq_true c)) b0
    refine ⟨_, rfl, _, rfl, t, b, rfl, ?_⟩
    refine ⟨fun σ Hz => Hz = H ∧ σ = [some (.ref p), some (.int t), some (.int b), some (.int (sgcd t b))], ?_, ?_⟩
    · refine ⟨_, rfl, _, _, rfl, rfl, _, rfl, ?_⟩
      refine ite2 (fun c => ?_) (fun c => ?_)
      · have c' : b < 0 := of_decide_eq_true c
        refine ⟨_, rfl, _, rfl, rfl, ?_⟩
        unfold sgcd
        rw [if_pos c']
        rfl
      · have c' : ¬ b < 0 := fun z => c (decide_eq_true z)
        refine ⟨rfl, ?_⟩
        unfold sgcd
        rw [if_neg c']
        rfl
    · rintro σ Hz ⟨rfl, rfl⟩
      have sn := sgcd_ne (t := t) b0
      have sl : (sgcd t b).natAbs.log2 < 9000 := log_le (sgcd_le b0) lb (Int.natAbs_ne_zero.mpr sn)
      refine ⟨_, rfl, _, rfl, _, _, rfl, rfl, ⟨sn, sl⟩, _, rfl, p, CR, dx, _, rfl, hp, T.cl, T.nT, (by show 0 < 1000; decide), ?_⟩
      refine ⟨_, rfl, _, rfl, _, _, rfl, rfl, ⟨sn, sl⟩, _, rfl, p, CR, dx, _, rfl, upd_same, T.cl, T.nB, (by show 1 < 1000; decide), ?_⟩
      refine kQ _ upd_same fun c o z nc => ?_
      rw [upd_ne nc, upd_ne nc]
      exact z
theorem ok_isnum {f : Addr} {fd : FuncData} (F : Fun K "is_number" "Ratio.is_number" s_isnum f fd) (T : RTx K mg Cs CR) (D_whole0 : DefAt P w K mg base CX0 1 "is_whole" ["value"] (spWh Cs)) : FnOk P w K mg base CX0 2 f fd ["thing"] (spIsnum Cs CR) := by
  refine F.ok sc_isnum (fun vs H Q E h => ?_) (fun cdv A outer s H vs Q E hr h => ?_)
  · obtain ⟨v, b, rfl, _⟩ := h
    rfl
  · obtain ⟨v, b, rfl, hv, q⟩ := h
    refine ⟨_, (pss_one (ps_ret (pe_or (pe_callB call_isi (by rfl) T.z_isinstance boot_isinstance (pa_cons (pv 0) (pa_cons (pe_glob (v := .ref CR) (by rfl) T.gR rfl) pa_nil))) (pe_one (My.pe_d D_whole0 (hr.mono (by decide)) (by rfl) pass0 (pa_cons (pv 0) pa_nil)))))), ?_⟩
    rcases hv with ⟨rfl, p, n, d, rfl, ⟨dx, e⟩⟩ | ⟨hv, no, rfl⟩
    · exact ⟨_, rfl, _, _, _, _, true, rfl, .own _, T.own.ty e, T.own.me, _, rfl, iteT q⟩
    · obtain ⟨t, tx, k1, _⟩ := T.fam.isi T.inn hv no
      exact ⟨_, rfl, _, _, _, _, false, rfl, .own _, tx, k1, _, rfl, iteF ⟨_, rfl, _, rfl, hv, q⟩⟩
theorem ok_of {f : Addr} {fd : FuncData} (F : Fun K "of" "Ratio.of" s_of f fd) (T : RTx K mg Cs CR) (S_is_number : StatAt P w K mg base CX0 2 CR "is_number" ["thing"] (spIsnum Cs CR)) (D_partsof : DefAt P w K mg base CX0 1 "parts_of" ["number"] (spParts0 CR))
    (M_Ratio : MakeAt P w K mg base (L2.CX P w) 3 "Ratio" CR ["self", "top", "bottom"] (spRinit CR) []) : FnOk P w K mg base CX0 5 f fd ["number"] (spOf CR) := by
  refine F.ok sc_of (fun vs H Q E h => ?_) (fun cdv A outer s H vs Q E hr h => ?_)
  · obtain ⟨v, a, b, rfl, _⟩ := h
    rfl
  · obtain ⟨v, a, b, rfl, hv, b0, lb, q⟩ := h
    refine ⟨_, (pss_cons (ps_if (pt_not (pt_val (My.pe_st S_is_number (hr.mono (by decide)) pass0 (pe_glob (v := .ref CR) (by rfl) T.gR rfl) (pa_cons (pv 0) pa_nil)))) (pss_one ps_never) pss_nil)
      (pss_cons (ps_asg (My.pe_d D_partsof (hr.mono (by decide)) (by rfl) pass0 (pa_cons (pv 0) pa_nil)) (pg_tup rfl (pgs_cons (pg_name (i := 1) sc_of.nd rfl (Or.inl rfl)) (pgs_cons (pg_name (i := 2) sc_of.nd rfl (Or.inl rfl)) pgs_nil))))
      (pss_one (ps_ret (My.pe_mk M_Ratio (hr.mono (by decide)) (by rfl) passL (pa_cons (pv 1) (pa_cons (pv 2) pa_nil))))))), ?_⟩
    rcases hv with ⟨p, rfl, hl⟩ | ⟨rfl, rfl⟩
    · refine ⟨rfl, _, rfl, .ref p, true, rfl, .inl ⟨rfl, p, a, b, rfl, hl⟩, _, rfl, iteF ?_⟩
      refine ⟨_, rfl, .ref p, a, b, rfl, .inl ⟨p, rfl, hl⟩, fun t ht => ?_⟩
      refine ⟨t, _, rfl, SqT.of upd_same, rfl, _, _, rfl, _, _, rfl, rfl, ?_⟩
      exact ⟨_, rfl, _, rfl, fun x dx hx hd ne => rinit_at b0 lb hx hd ne fun H' l s => q x H' l ((same_new ht).trans s)⟩
    · refine ⟨rfl, _, rfl, .int a, true, rfl, .inr ⟨AnyF.int Cs H a, (fun _ _ _ z => nomatch z), rfl⟩, _, rfl, iteF ?_⟩
      refine ⟨_, rfl, .int a, a, 1, rfl, .inr ⟨rfl, rfl⟩, fun t ht => ?_⟩
      refine ⟨t, _, rfl, SqT.of upd_same, rfl, _, _, rfl, _, _, rfl, rfl, ?_⟩
      exact ⟨_, rfl, _, rfl, fun x dx hx hd ne => rinit_at b0 lb hx hd ne fun H' l s => q x H' l ((same_new ht).trans s)⟩
end
end My
/-! == of two tuples whose items are compared by their own ==, either answer. -/
namespace My
open PySem PySem.SeqAt
open AutoSeq1 (wpAny_loadPart')
open MeetsSeq MeetsSeq2 MeetsSeq3 SeqRoads2 GQ
section
variable {prog : Program} {w : World} {A : Around} {R : Result → Shared → Prop}
theorem tuple_eqB (l b : Addr) (items items2 : Array Value) (n n2 : Nat) (dd dd2 : Option Addr) (sl sl2 : Array (Option Value)) (I : Nat → Shared → Prop)
    (turn : ∀ i (h1 : i < items.size) (h2 : i < items2.size) s, I i s → wpAny (model prog w) A.in1 (eqBool items[i] items2[i]) (fun r s' => (r = true ∧ I (i + 1) s') ∨ (r = false ∧ R (.ok (.ret (.bool false))) s')) (fun e s' => R (.error e) s') s)
    (fin : ∀ s, I (min items.size items2.size) s → R (.ok (.ret (.bool (items.size == items2.size)))) s) {s : Shared} (hl1 : s.heap.get? l = some { cls := .type "tuple", dict := dd, data := .seq items n, slots := sl }) (hb1 : s.heap.get? b = some { cls := .type "tuple", dict := dd2, data := .seq items2 n2, slots := sl2 }) (h : I 0 s) :
    wpAny (model prog w) A.in1 (Builtin.«tuple.__eq__» ⟨[.ref l, .ref b], []⟩) (FinOf prog w A R) (fun e s' => R (.error e) s') s := by
  have f2 := AutoSeq1.sub_tuple_tuple
  have hZ : (items.toList.zip items2.toList).length = min items.size items2.size := by simp
  have h0 := h
  obtain ⟨hp, g, d, tk, os⟩ := s
  wp_walk using wpAny_loadPart' hl1, wpAny_loadPart' hb1, wpAny_forIn_list _ (fun rest b s' => b.1 = none ∧ ∃ i, rest = (items.toList.zip items2.toList).drop i ∧ i ≤ min items.size items2.size ∧ I i s') _
  case turn =>
    rintro ⟨y, x⟩ rest b s' ⟨hb', i, hz, hi, hI⟩
    have hlt : i < (items.toList.zip items2.toList).length := by
      rcases Nat.lt_or_ge i (items.toList.zip items2.toList).length with h' | h'
      · exact h'
      · rw [List.drop_of_length_le h'] at hz; cases hz
    have h1 : i < items.size := by rw [hZ] at hlt; omega
    have h2 : i < items2.size := by rw [hZ] at hlt; omega
    rw [List.drop_eq_getElem_cons hlt] at hz
    injection hz with hyx hrest
    have hy : y = items[i] := by have := congrArg Prod.fst hyx; simpa using this
    have hx : x = items2[i] := by have := congrArg Prod.snd hyx; simpa using this
    subst hy hx
    refine wpAny_bind (wpAny_mono (turn i h1 h2 s' hI) (fun r s2 q2 => ?_) fun _ _ x => x)
    rcases q2 with ⟨hr, q2⟩ | ⟨hr, q2⟩
    · subst hr
      wp_walk
      exact ⟨rfl, i + 1, hrest, by rw [hZ] at hlt; omega, q2⟩
    · subst hr
      wp_walk
      exact q2
  case fin =>
    rintro ⟨b1, b2⟩ s' ⟨hb', i, hz, hi, hI⟩
    simp only at hb'
    subst hb'
    have hge : min items.size items2.size ≤ i := by
      rcases Nat.lt_or_ge i (items.toList.zip items2.toList).length with h' | h'
      · rw [List.drop_eq_getElem_cons h'] at hz; cases hz
      · exact hZ ▸ h'
    have hi' : i = min items.size items2.size := by omega
    have hR := fin s' (hi' ▸ hI)
    wp_walk
    simpa [Builtin.Tuple.tupleCompareSizes] using hR
  case h =>
    exact ⟨rfl, 0, rfl, Nat.zero_le _, h0⟩
end
section
variable {prog : Program} {w : World} {A : Around} {E : Value → Shared → Prop} {s : Shared}
theorem rc_tupB {l b : Addr} {items items2 : Array Value} {Q : Value → Shared → Prop} (hu : A.units < cLine) (I : Nat → Shared → Prop) (hl : s.heap.IsTuple l items) (hb : s.heap.IsTuple b items2)
    (turn : ∀ i (h1 : i < items.size) (h2 : i < items2.size) s, I i s → wpAny (model prog w) A.in1 (eqBool items[i] items2[i]) (fun r s' => (r = true ∧ I (i + 1) s') ∨ (r = false ∧ Q (.bool false) s')) E s)
    (fin : ∀ s, I (min items.size items2.size) s → Q (.bool (items.size == items2.size)) s) (h : I 0 s) : wpAny (model prog w) A (richCompare .Eq (.ref l) (.ref b)) Q E s := by
  obtain ⟨⟨cls, dd, data, sl⟩, ho, hc, n, hd⟩ := id hl
  obtain ⟨⟨cls2, dd2, data2, sl2⟩, ho2, hc2, n2, hd2⟩ := id hb
  simp only at hc hd hc2 hd2
  subst hc hd hc2 hd2
  refine wpAny_richCompare_same_room (op := .Eq) ⟨_, ho, rfl⟩ ⟨_, ho2, rfl⟩ F.slot_tuple_eq (call_here F.slot_tuple_eq ⟨_, ho, rfl⟩ F.entry_tuple_eq (F.args_tuple_eq_2 _ _) ?_) hu
  refine tuple_eqB (R := wants (fun v s' => v ≠ .notImplemented ∧ Q v s') E) l b items items2 n n2 dd dd2 sl sl2 I (fun i h1 h2 s' hI => wpAny_mono (turn i h1 h2 s' hI) (fun r s2 q => ?_) fun _ _ x => x) (fun s' q => ⟨(fun x => nomatch x), fin s' q⟩) ho ho2 h
  rcases q with ⟨e, q⟩ | ⟨e, q⟩
  · exact .inl ⟨e, q⟩
  · exact .inr ⟨e, (fun x => nomatch x), q⟩
end
section
open PySem.Spec PyProof.Rows L2
abbrev EqvB := V → V → Bool → Hp → Prop
def MonB (D : EqvB) : Prop := ∀ x y b H H', Ext H H' → D x y b H → D x y b H'
/-- == inside a builtin gives what D says -/
def EqB (X : Cx) (n : Nat) (D : EqvB) : Prop :=
  ∀ (A : Around) (pins : List (Addr × Obj)) (s : Shared) (σ : L2.St) (H : Hp) (x y : V) (u v : Value) (b : Bool), Sub X n A → Inv X pins σ H s → RelV x u → RelV y v → D x y b H →
    wpAny (model X.prog X.w) A (eqBool u v) (fun r s' => r = b ∧ ∃ H', Inv X pins σ H' s' ∧ Ext H H') X.xe s
def RcB (X : Cx) (n : Nat) (D : EqvB) : Prop :=
  ∀ (A : Around) (pins : List (Addr × Obj)) (s : Shared) (σ : L2.St) (H : Hp) (x y : V) (u v : Value) (b : Bool), Sub X n A → Inv X pins σ H s → RelV x u → RelV y v → D x y b H →
    wpAny (model X.prog X.w) A (richCompare .Eq u v) (fun r s' => r = .bool b ∧ ∃ H', Inv X pins σ H' s' ∧ Ext H H') X.xe s
variable {X : Cx} {n : Nat} {D : EqvB}
theorem RcB.eqB (h : RcB X n D) (hr : ∀ x y b H, D x y b H → ∃ p q, x = .ref p ∧ y = .ref q ∧ (p = q → b = true)) : EqB X n D := by
  intro A pins s σ H x y u v b sb I rx ry d
  obtain ⟨p, q, rfl, rfl, he⟩ := hr _ _ _ _ d
  cases rx
  cases ry
  by_cases hab : p = q
  · subst hab
    rw [he rfl]
    exact SeqAt.EqAt.same (A := A) (s := s) (.ref p) X.prog X.w X.xe _ ⟨rfl, H, I, Ext.rfl'⟩
  · refine GQ.eqBool_refG hab (wpAny_mono (h A pins s σ H (.ref p) (.ref q) _ _ b sb I rfl rfl d) (fun r s' z => ?_) fun _ _ x => x)
    obtain ⟨hr', z⟩ := z
    exact ⟨b, hr', rfl, z⟩
/-- tuples, item by item -/
def DTupB (K : PySem.W.Frag) (D : EqvB) : EqvB := fun x y b H => ∃ (p q : Addr) (xs ys : List V) (f : Nat → Bool), x = .ref p ∧ y = .ref q ∧ SqT K H p xs ∧ SqT K H q ys ∧
  (∀ (i : Nat) v u, xs[i]? = some v → ys[i]? = some u → D v u (f i) H) ∧ b = ((List.range (min xs.length ys.length)).all f && xs.length == ys.length)
theorem all_take {f : Nat → Bool} {m i : Nat} (hi : i < m) (h : f i = false) : (List.range m).all f = false := by
  rw [List.all_eq_false]
  exact ⟨i, List.mem_range.mpr hi, by rw [h]; exact Bool.false_ne_true⟩
theorem rcB_tup (hD : MonB D) (h : EqB X n D) : RcB X (n + 1) (DTupB X.K D) := by
  intro A pins s σ H x y u v b sb I rx ry d
  obtain ⟨p, q, xs, ys, f, rfl, rfl, ha, hb, hf, eb⟩ := d
  cases rx
  cases ry
  obtain ⟨its, r, e, z⟩ := I.tuple ha
  obtain ⟨its2, r2, e2, z2⟩ := I.tuple hb
  have l1 : its.toArray.size = xs.length := by rw [List.size_toArray, ← r.length]
  have l2 : its2.toArray.size = ys.length := by rw [List.size_toArray, ← r2.length]
  refine rc_tupB sb.room.units0 (fun i s' => (∃ H', Inv X pins σ H' s' ∧ Ext H H') ∧ ∀ j, j < i → f j = true) e e2 (fun i h1 h2 s' hq => ?_) (fun s' hq => ?_) ⟨⟨H, I, Ext.rfl'⟩, fun j hj => absurd hj (Nat.not_lt_zero _)⟩
  · obtain ⟨⟨H1, I1, e1⟩, hj⟩ := hq
    have g1 : its[i]? = some its.toArray[i] := by
      have h1' : i < its.length := by simpa using h1
      rw [List.getElem?_eq_getElem h1'] <;> simp
    have g2 : its2[i]? = some its2.toArray[i] := by
      have h2' : i < its2.length := by simpa using h2
      rw [List.getElem?_eq_getElem h2'] <;> simp
    have k1 : i < xs.length := by omega
    have k2 : i < ys.length := by omega
    obtain ⟨u, hu, ru⟩ := r.get (List.getElem?_eq_getElem k1)
    obtain ⟨v, hv, rv⟩ := r2.get (List.getElem?_eq_getElem k2)
    rw [g1] at hu
    rw [g2] at hv
    rw [Option.some.inj hu, Option.some.inj hv]
    refine wpAny_mono (h A.in1 pins s' σ H1 _ _ u v (f i) sb.in1 I1 ru rv (hD _ _ _ _ _ e1 (hf i _ _ (List.getElem?_eq_getElem k1) (List.getElem?_eq_getElem k2)))) (fun r s2 q => ?_) fun _ _ x => x
    obtain ⟨hr, H2, I2, e2⟩ := q
    cases hfi : f i with
    | true =>
      refine .inl ⟨hr.trans hfi, ⟨H2, I2, e1.trans e2⟩, fun j hj' => ?_⟩
      rcases Nat.lt_or_ge j i with z | z
      · exact hj j z
      · have : j = i := by omega
        rw [this]; exact hfi
    | false =>
      refine .inr ⟨hr.trans hfi, ?_, H2, I2, e1.trans e2⟩
      rw [eb, all_take (i := i) (by omega) hfi]; rfl
  · obtain ⟨⟨H1, I1, e1⟩, hj⟩ := hq
    refine ⟨?_, H1, I1, e1⟩
    rw [eb, l1, l2]
    have : (List.range (min xs.length ys.length)).all f = true := by
      rw [List.all_eq_true]
      intro j hm
      exact hj j (by have := List.mem_range.mp hm; rw [l1, l2]; exact this)
    rw [this]; rfl
/-- instances of C by their own == -/
def DOwnB (C : Addr) (sp : Sp) (E : XK) : EqvB := fun x y b H => ∃ p q dx dy fs gs, x = .ref p ∧ y = .ref q ∧ H p = some (.ins C dx fs) ∧ H q = some (.ins C dy gs) ∧ (p = q → b = true) ∧ ∀ H1, Ext H H1 → sp [x, y] H1 (fun v H' => v = .bl b ∧ Ext H1 H') E
theorem mon_ownB {C : Addr} {sp : Sp} {E : XK} : MonB (DOwnB C sp E) := by
  rintro x y b H H' e ⟨p, q, dx, dy, fs, gs, hx, hy, h1, h2, h3, h4⟩
  exact ⟨p, q, dx, dy, fs, gs, hx, hy, e _ _ h1, e _ _ h2, h3, fun H1 e1 => h4 H1 (e.trans e1)⟩
theorem rcB_own {CX : CXT} {k : Nat} {C : Addr} {ps : List Str} {sp : Sp} {E : XK} (M : CmpAt X.prog X.w X.K X.mg X.base CX k C "__eq__" ps sp) (hx : Passes CX X E) : RcB X k (DOwnB C sp E) := by
  intro A pins s σ H x y u v b sb I rx ry d
  obtain ⟨p, q, dx, dy, fs, gs, rfl, rfl, ha, hb', _, hsp⟩ := d
  obtain ⟨f, fd, hs, hf, F, hb⟩ := M.ex
  cases rx
  cases ry
  obtain ⟨ox, od, J, _⟩ := ins_plain I ha
  obtain ⟨ox', od', J', _⟩ := ins_plain I hb'
  obtain ⟨m, hF⟩ := I.fr
  refine PySem.W.cmp_K (op := .Eq) (tb := .ref C) sb.room.units0 hF I.ok.mod.kin J J'.type (by simp [PySem.W.notFirst]) hs hf ?_
  refine wpAny_mono (run_at (vs := [.ref p, .ref q]) F hb hx ⟨sb.room, sb.fr⟩ I (.cons rfl (.cons rfl .nil)) (hsp H Ext.rfl')) (fun r s' z => ?_) fun _ _ z => z
  obtain ⟨zv, H', I', rz, rfl, ex⟩ := z
  cases rz
  exact ⟨rfl, H', I', ex⟩
/-- x == y of two tuples of instances -/
def rEqB (D : EqvB) : R2 := fun x y H Q => ∃ b, D x y b H ∧ ∀ H', Ext H H' → Q (.bl b) H'
theorem op_eqB (h : RcB X n D) (hr : Room n X.A) : OpR X (compareOp .Eq) (rEqB D) := by
  intro pins s σ H x y v u Q I rx ry hq
  obtain ⟨b, d, q⟩ := hq
  show wpAny (model X.prog X.w) X.A (richCompare .Eq v u) (EP X pins σ Q) X.xe s
  refine wpAny_mono (h X.A pins s σ H x y v u b ⟨hr, rfl⟩ I rx ry d) (fun r s' z => ?_) fun _ _ x => x
  obtain ⟨hr', H', I', e⟩ := z
  subst hr'
  exact ⟨.bl b, H', I', rfl, q H' e⟩
/-- tuples of instances of C -/
theorem op_eqTO {CX : CXT} {k : Nat} {C : Addr} {ps : List Str} {sp : Sp} {E : XK} (M : CmpAt X.prog X.w X.K X.mg X.base CX k C "__eq__" ps sp) (hr : Room (k + 1) X.A) (hx : Passes CX X E) : OpR X (compareOp .Eq) (rEqB (DTupB X.K (DOwnB C sp E))) :=
  op_eqB (rcB_tup mon_ownB ((rcB_own M hx).eqB fun x y b H d => by
    obtain ⟨p, q, _, _, _, _, h1, h2, _, _, h3, _⟩ := d
    exact ⟨p, q, h1, h2, h3⟩)) hr
end
end My
set_option pp.maxSteps 1500
set_option pp.deepTerms.threshold 8
/-! ### numbers compared, their sizes -/
namespace My
open PySem PySem.Spec PyProof.Rows L2
abbrev s_rgt : Stmt := inClass (topS 21) 23
theorem sc_rgt : FnScope ["self", "other", "top", "bottom"] ["self", "other"] (defScope s_rgt) := ⟨rfl, rfl, rfl, by decide +kernel, rfl, by decide +kernel, by decide +kernel⟩
abbrev s_rabs : Stmt := inClass (topS 21) 18
theorem sc_rabs : FnScope ["self"] ["self"] (defScope s_rabs) := ⟨rfl, rfl, rfl, by decide +kernel, rfl, by decide +kernel, by decide +kernel⟩
abbrev s_req : Stmt := inClass (topS 21) 20
theorem sc_req : FnScope ["self", "other"] ["self", "other"] (defScope s_req) := ⟨rfl, rfl, rfl, by decide +kernel, rfl, by decide +kernel, by decide +kernel⟩
/-- in lowest terms -/
def Lw (a b : Int) : Prop := 0 < b ∧ Int.gcd a b = 1
theorem Lw.low {a b : Int} (h : Lw a b) : lowT a b = a ∧ lowB a b = b := low_self h.1 h.2
theorem Lw.abs {a b : Int} (h : Lw a b) : Lw (if a < 0 then -a else a) b := by
  refine ⟨h.1, ?_⟩
  have := h.2
  split
  · rw [Int.neg_gcd]; exact this
  · exact this
/-- p > v -/
def spGtR (C : Addr) : Sp := fun vs H Q _ => ∃ (p : Addr) (a b : Int) (v : V) (c d : Int), vs = [.ref p, v] ∧ RatAt C H p a b ∧ NumAt C H v c d ∧ Sm a ∧ Sm b ∧ Sm c ∧ Sm d ∧ ∀ H', Same H H' → Q (.bl (decide (c * b < a * d))) H'
def spAbsR (C : Addr) : Sp := fun vs H Q _ => ∃ (p : Addr) (a b : Int), vs = [.ref p] ∧ RatAt C H p a b ∧ Lw a b ∧ b.natAbs.log2 < 9000 ∧ ∀ q H', RatAt C H' q (if a < 0 then -a else a) b → Same H H' → Q (.ref q) H'
def spEqR (Cs : List Addr) (C : Addr) : Sp := fun vs H Q _ => ∃ (p : Addr) (a b : Int) (v : V), vs = [.ref p, v] ∧ RatAt C H p a b ∧
  ((∃ c d, NumAt C H v c d ∧ ∀ H', Same H H' → Q (.bl (decide (a = c ∧ b = d))) H') ∨ (AnyF Cs H v ∧ notIns C H v ∧ isI v = false ∧ Q (.bl false) H))
theorem eqv_two (a b c d : Int) : PyData.eqv (.tuple [.int a, .int b]) (.tuple [.int c, .int d]) = decide (a = c ∧ b = d) := by
  show (a == c && (b == d && true)) = decide (a = c ∧ b = d)
  rw [Bool.and_true, Bool.decide_and]
  rfl
theorem NumAt.any {Cs : List Addr} {C : Addr} (inn : C ∈ Cs) {H : Hp} {v : V} {a b : Int} (h : NumAt C H v a b) : AnyF Cs H v := by
  rcases h with ⟨p, e, dx, g⟩ | ⟨e, _⟩
  · exact .inr ⟨C, inn, p, dx, _, e, g⟩
  · rw [e]; exact AnyF.int Cs H a
section
variable {P : Program} {w : World} {K : PySem.W.Frag} {mg : Str → Option Value} {base : Heap} {Cs : List Addr} {CR : Addr}
theorem ok_rgt {f : Addr} {fd : FuncData} (F : Fun K "__gt__" "Ratio.__gt__" s_rgt f fd) (T : RTx K mg Cs CR) (S_is_number : StatAt P w K mg base CX0 2 CR "is_number" ["thing"] (spIsnum Cs CR)) (D_partsof : DefAt P w K mg base CX0 1 "parts_of" ["number"] (spParts0 CR)) : FnOk P w K mg base CX0 3 f fd ["self", "other"] (spGtR CR) := by
  refine F.ok sc_rgt (fun vs H Q E h => ?_) (fun cdv A outer s H vs Q E hr h => ?_)
  · obtain ⟨p, a, b, v, c, d, rfl, _⟩ := h
    rfl
  · obtain ⟨p, a, b, v, c, d, rfl, hp, hv, sa, sb, sc, sd, k⟩ := h
    refine ⟨_, (pss_cons (ps_if (pt_not (pt_val (My.pe_st S_is_number (hr.mono (by decide)) pass0 (pe_glob (v := .ref CR) (by rfl) T.gR rfl) (pa_cons (pv 1) pa_nil)))) (pss_one ps_never) pss_nil)
      (pss_cons (ps_asg (My.pe_d D_partsof (hr.mono (by decide)) (by rfl) pass0 (pa_cons (pv 1) pa_nil)) (pg_tup rfl (pgs_cons (pg_name (i := 2) sc_rgt.nd rfl (Or.inl rfl)) (pgs_cons (pg_name (i := 3) sc_rgt.nd rfl (Or.inl rfl)) pgs_nil))))
      (pss_one (ps_ret (pe_cmpR op_gt (pe_op op_mulW (pe_fld (pv 0) rfl) (pv 3)) (pe_op op_mulW (pv 2) (pe_fld (pv 0) rfl)) (nomark _)))))), ?_⟩
    obtain ⟨dx, e⟩ := id hp
    refine ⟨rfl, _, rfl, v, true, rfl, .num hv, _, rfl, iteF ?_⟩
    refine ⟨_, rfl, v, c, d, rfl, hv, fun t ht => ?_⟩
    have s1 := same_new (o := .tup [.int c, .int d]) ht
    have e1 := s1 _ _ e
    refine ⟨t, _, rfl, SqT.of upd_same, rfl, _, _, rfl, _, _, rfl, rfl, ?_⟩
    refine ⟨_, rfl, p, CR, dx, _, _, rfl, e1, T.cl, T.nT, rfs_top _ _, _, rfl, _, _, rfl, rfl, Sm.mul sa sd, _, rfl, _, rfl, p, CR, dx, _, _, rfl, e1, T.cl, T.nB, rfs_bot _ _, _, _, rfl, rfl, Sm.mul sc sb, _, _, rfl, rfl, ?_⟩
    exact k _ s1
theorem ok_rabs {f : Addr} {fd : FuncData} (F : Fun K "__abs__" "Ratio.__abs__" s_rabs f fd) (T : RTx K mg Cs CR) (M_Ratio : MakeAt P w K mg base (L2.CX P w) 3 "Ratio" CR ["self", "top", "bottom"] (spRinit CR) []) : FnOk P w K mg base CX0 5 f fd ["self"] (spAbsR CR) := by
  refine F.ok sc_rabs (fun vs H Q E h => ?_) (fun cdv A outer s H vs Q E hr h => ?_)
  · obtain ⟨p, a, b, rfl, _⟩ := h
    rfl
  · obtain ⟨p, a, b, rfl, hp, lw, lb, k⟩ := h
    refine ⟨_, (pss_one (ps_ret (My.pe_mk M_Ratio (hr.mono (by decide)) (by rfl) passL (pa_cons (pe_callB call_abs (by rfl) T.z_abs boot_abs (pa_cons (pe_fld (pv 0) rfl) pa_nil)) (pa_cons (pe_fld (pv 0) rfl) pa_nil))))), ?_⟩
    obtain ⟨dx, e⟩ := id hp
    refine ⟨_, rfl, p, CR, dx, _, _, rfl, e, T.cl, T.nT, rfs_top _ _, a, rfl, _, rfl, p, CR, dx, _, _, rfl, e, T.cl, T.nB, rfs_bot _ _, fun x dx' hx hd ne => ?_⟩
    have l2 := lw.abs.low
    refine rinit_at (by have := lw.1; omega) lb hx hd ne fun H' l s' => ?_
    rw [l2.1, l2.2] at l
    exact k x H' l s'
theorem ok_req {f : Addr} {fd : FuncData} (F : Fun K "__eq__" "Ratio.__eq__" s_req f fd) (T : RTx K mg Cs CR) (S_is_number : StatAt P w K mg base CX0 2 CR "is_number" ["thing"] (spIsnum Cs CR)) (D_partsof : DefAt P w K mg base CX0 1 "parts_of" ["number"] (spParts0 CR)) : FnOk P w K mg base CX0 3 f fd ["self", "other"] (spEqR Cs CR) := by
  refine F.ok sc_req (fun vs H Q E h => ?_) (fun cdv A outer s H vs Q E hr h => ?_)
  · obtain ⟨p, a, b, v, rfl, _⟩ := h
    rfl
  · obtain ⟨p, a, b, v, rfl, hp, h⟩ := h
    refine ⟨_, (pss_one (ps_ret (pe_and (My.pe_st S_is_number (hr.mono (by decide)) pass0 (pe_glob (v := .ref CR) (by rfl) T.gR rfl) (pa_cons (pv 1) pa_nil)) (pe_one (pe_cmpR (op_eqD hr.units) (pe_tup (pa_cons (pe_fld (pv 0) rfl) (pa_cons (pe_fld (pv 0) rfl) pa_nil))) (My.pe_d D_partsof (hr.mono (by decide)) (by rfl) pass0 (pa_cons (pv 1) pa_nil)) (nomark _)))))), ?_⟩
    obtain ⟨dx, e⟩ := id hp
    rcases h with ⟨c, d, hv, k⟩ | ⟨hv, no, ni, k⟩
    · refine ⟨rfl, _, rfl, v, true, rfl, .num hv, _, rfl, iteT ?_⟩
      refine ⟨_, rfl, p, CR, dx, _, _, rfl, e, T.cl, T.nT, rfs_top _ _, _, rfl, p, CR, dx, _, _, rfl, e, T.cl, T.nB, rfs_bot _ _, (by show 2 ≤ sizeLine; decide), fun t1 h1 => ?_⟩
      refine ⟨_, rfl, v, c, d, rfl, hv.same (same_new h1), fun t2 h2 => ?_⟩
      have w1 := same_new (o := .tup [.int c, .int d]) h2 _ _ (upd_same (H := H) (a := t1) (o := .tup [.int a, .int b]))
      refine ⟨.tuple [.int a, .int b], .tuple [.int c, .int d], .tup (SqT.of w1) (.cons (.int a) (.cons (.int b) .nil)), .tup (SqT.of upd_same) (.cons (.int c) (.cons (.int d) .nil)), rfl, rfl, ?_⟩
      rw [eqv_two]
      exact k _ ((same_new h1).trans (same_new h2))
    · exact ⟨rfl, _, rfl, v, false, rfl, .odd hv no ni, _, rfl, iteF k⟩
end
end My
set_option pp.maxSteps 1500
set_option pp.deepTerms.threshold 8
/-! ### clips: made of numbers -/
namespace My
open PySem PySem.Spec PyProof.Rows L2
abbrev s_isint : Stmt := topS 23
theorem sc_isint : FnScope ["value"] ["value"] (defScope s_isint) := ⟨rfl, rfl, rfl, by decide +kernel, rfl, by decide +kernel, by decide +kernel⟩
abbrev s_isbtw : Stmt := topS 24
theorem sc_isbtw : FnScope ["value", "least", "most"] ["value", "least", "most"] (defScope s_isbtw) := ⟨rfl, rfl, rfl, by decide +kernel, rfl, by decide +kernel, by decide +kernel⟩
abbrev s_needplc : Stmt := topS 28
theorem sc_needplc : FnScope ["place", "length"] ["place", "length"] (defScope s_needplc) := ⟨rfl, rfl, rfl, by decide +kernel, rfl, by decide +kernel, by decide +kernel⟩
abbrev s_isstr : Stmt := topS 29
theorem sc_isstr : FnScope ["at"] ["at"] (defScope s_isstr) := ⟨rfl, rfl, rfl, by decide +kernel, rfl, by decide +kernel, by decide +kernel⟩
abbrev s_ratof : Stmt := topS 31
theorem sc_ratof : FnScope ["number"] ["number"] (defScope s_ratof) := ⟨rfl, rfl, rfl, by decide +kernel, rfl, by decide +kernel, by decide +kernel⟩
abbrev s_cinit : Stmt := inClass (topS 33) 1
theorem sc_cinit : FnScope ["self", "samples", "at", "sample"] ["self", "samples"] (defScope s_cinit) := ⟨rfl, rfl, rfl, by decide +kernel, rfl, by decide +kernel, by decide +kernel⟩
abbrev s_cof : Stmt := inClass (topS 33) 2
theorem sc_cof : FnScope ["cls", "items"] ["cls", "items"] (defScope s_cof) := ⟨rfl, rfl, rfl, by decide +kernel, rfl, by decide +kernel, by decide +kernel⟩
abbrev s_clen : Stmt := inClass (topS 33) 15
theorem sc_clen : FnScope ["self"] ["self"] (defScope s_clen) := ⟨rfl, rfl, rfl, by decide +kernel, rfl, by decide +kernel, by decide +kernel⟩
/-- an error of the class C with two fields -/
def Errs2 (E : XK) (C : Addr) (f g : Str) (v u : V) (H : Hp) : Prop := ∀ (d : Addr) (H' : Hp), H d = none → H' d = some (.xd [(f, v), (g, u)]) → Same H H' → E (.ref C) (some d) H'
theorem Errs2.go {E : XK} {C : Addr} {f g : Str} {v u : V} {H : Hp} (h : Errs2 E C f g v u H) {d : Addr} (hd : H d = none) : E (.ref C) (some d) (upd H d (.xd [(f, v), (g, u)])) := h d _ hd upd_same (same_new hd)
theorem Errs2.up {E : XK} {C : Addr} {f g : Str} {v u : V} {H H1 : Hp} (h : Errs2 E C f g v u H) (s : Same H H1) : Errs2 E C f g v u H1 := fun d H' hd hx s' => h d H' (s.free hd) hx (s.trans s')
/-- what the top has written of clips -/
structure CTx (P : Program) (K : PySem.W.Frag) (mg : Str → Option Value) (Cs : List Addr) (CR CC CL fL CP fP CS fS CM fM : Addr) : Prop extends RTx K mg Cs CR where
  inC : CC ∈ Cs
  clC : Cls K CC
  nS : NoAttr K CC "samples"
  gC : mg "Clip" = some (.ref CC)
  ne : CR ≠ CC
  e_BadLength : Sup.Err1 P K mg "BadLength" "value" CL fL
  e_BadPlace : Sup.Err1 P K mg "BadPlace" "value" CP fP
  e_BadSample : Sup.Err1 P K mg "BadSample" "at" CS fS
  e_TooMany : Sup.Err2 P K mg "TooMany" "what" "most" CM fM
  rd : ∃ mc u, ClX.CRead K CC mc ∧ ClX.CVal K CC mc "LONGEST" (.int 2000) u
  z_enumerate : mg "enumerate" = none
  z_zip : mg "zip" = none
theorem CTx.ownC {P : Program} {K : PySem.W.Frag} {mg : Str → Option Value} {Cs : List Addr} {CR CC CL fL CP fP CS fS CM fM : Addr} (T : CTx P K mg Cs CR CC CL fL CP fP CS fS CM fM) : Own K CC := T.fam.own CC T.inC
def cfs (t : Addr) : List (Str × V) := [("samples", .ref t)]
theorem cfs_get (t : Addr) : (cfs t).lookup ("samples" : Str) = some (.ref t) := by
  unfold cfs
  rw [List.lookup_cons]
  rfl
theorem cfs_put0 (t : Addr) : putF "samples" (.ref t) [] = cfs t := rfl
theorem cfs_put (t t' : Addr) : putF "samples" (.ref t') (cfs t) = cfs t' := by
  show putF "samples" (.ref t') [(("samples" : Str), .ref t)] = _
  unfold putF
  first | rfl | (simp [cfs]; done) | decide
/-- these stand for these fractions -/
def Rats (C : Addr) (H : Hp) (vs : List V) (rs : List (Int × Int)) : Prop := vs.length = rs.length ∧ ∀ (i : Nat) (r : Int × Int), rs[i]? = some r → ∃ q, vs[i]? = some (.ref q) ∧ RatAt C H q r.1 r.2
theorem Rats.same {C : Addr} {H H' : Hp} {vs : List V} {rs : List (Int × Int)} (h : Rats C H vs rs) (s : Same H H') : Rats C H' vs rs := ⟨h.1, fun i r e => by obtain ⟨q, e1, e2⟩ := h.2 i r e; exact ⟨q, e1, e2.same s⟩⟩
theorem Rats.nil {C : Addr} {H : Hp} : Rats C H [] [] := ⟨rfl, fun i r e => by simp at e⟩
theorem Rats.snoc {C : Addr} {H : Hp} {vs : List V} {rs : List (Int × Int)} {q : Addr} {r : Int × Int} (h : Rats C H vs rs) (l : RatAt C H q r.1 r.2) : Rats C H (vs ++ [.ref q]) (rs ++ [r]) := by
  refine ⟨by rw [List.length_append, List.length_append, h.1]; rfl, fun i x e => ?_⟩
  by_cases hi : i < rs.length
  · rw [List.getElem?_append_left hi] at e
    obtain ⟨q', e1, e2⟩ := h.2 i x e
    exact ⟨q', by rw [List.getElem?_append_left (by rw [h.1]; exact hi)]; exact e1, e2⟩
  · rw [List.getElem?_append_right (by omega)] at e
    have hz : i - rs.length = 0 := by
      rcases Nat.eq_zero_or_pos (i - rs.length) with z | z
      · exact z
      · rw [List.getElem?_eq_none (by show 1 ≤ _; omega)] at e
        cases e
    rw [hz] at e
    simp at e
    subst e
    refine ⟨q, ?_, l⟩
    rw [List.getElem?_append_right (by rw [h.1]; omega), h.1, hz]
    rfl
theorem Rats.get {C : Addr} {H : Hp} {vs : List V} {rs : List (Int × Int)} {i : Nat} {v : V} (h : Rats C H vs rs) (e : vs[i]? = some v) : ∃ q r, v = .ref q ∧ rs[i]? = some r ∧ RatAt C H q r.1 r.2 := by
  have hi := (List.getElem?_eq_some_iff.mp e).1
  have hr : i < rs.length := by rw [← h.1]; exact hi
  obtain ⟨q, e1, e2⟩ := h.2 i rs[i] (List.getElem?_eq_getElem hr)
  rw [e] at e1
  cases e1
  exact ⟨q, _, rfl, List.getElem?_eq_getElem hr, e2⟩
/-- at p: a clip with these samples, in the tuple at t -/
def ClipT (CC CR : Addr) (H : Hp) (p t : Addr) (vs : List V) (rs : List (Int × Int)) : Prop := (∃ dx, H p = some (.ins CC dx (cfs t))) ∧ H t = some (.tup vs) ∧ Rats CR H vs rs ∧ rs.length ≤ 2000
def ClipAt (CC CR : Addr) (H : Hp) (p : Addr) (rs : List (Int × Int)) : Prop := ∃ t vs, ClipT CC CR H p t vs rs
theorem ClipT.same {CC CR : Addr} {H H' : Hp} {p t : Addr} {vs : List V} {rs : List (Int × Int)} (h : ClipT CC CR H p t vs rs) (s : Same H H') : ClipT CC CR H' p t vs rs := by
  obtain ⟨⟨dx, e⟩, e2, r, l⟩ := h
  exact ⟨⟨dx, s _ _ e⟩, s _ _ e2, r.same s, l⟩
theorem ClipAt.same {CC CR : Addr} {H H' : Hp} {p : Addr} {rs : List (Int × Int)} (h : ClipAt CC CR H p rs) (s : Same H H') : ClipAt CC CR H' p rs := by
  obtain ⟨t, vs, h⟩ := h
  exact ⟨t, vs, h.same s⟩
/-- an int from lo to hi -/
def btw (v : V) (lo hi : Int) : Bool := match v with
  | .int i => decide (lo ≤ i) && decide (i ≤ hi)
  | _ => false
theorem btw_val (i lo hi : Int) : btw (.int i) lo hi = (decide (lo ≤ i) && decide (i ≤ hi)) := rfl
theorem btw_int {v : V} {lo hi : Int} (h : btw v lo hi = true) : ∃ i, v = .int i ∧ lo ≤ i ∧ i ≤ hi := by
  cases v with
  | int i =>
    have h' := (btw_val i lo hi).symm.trans h
    rw [Bool.and_eq_true] at h'
    exact ⟨i, rfl, of_decide_eq_true h'.1, of_decide_eq_true h'.2⟩
  | _ => cases h
theorem btw_of {i lo hi : Int} (h1 : lo ≤ i) (h2 : i ≤ hi) : btw (.int i) lo hi = true := by
  rw [btw_val, decide_eq_true h1, decide_eq_true h2]; rfl
/-- a pair -/
def strB (H : Hp) (v : V) : Bool := match v with
  | .ref a => match H a with
    | some (.tup xs) => decide (V.int (xs.length : Int) = .int 2)
    | _ => false
  | _ => false
theorem strB_tup {H : Hp} {a : Addr} {xs : List V} (e : H a = some (.tup xs)) : strB H (.ref a) = decide (V.int (xs.length : Int) = .int 2) := by
  unfold strB
  simp only [e]
theorem strB_lst {H : Hp} {a : Addr} {xs : List V} (e : H a = some (.lst xs)) : strB H (.ref a) = false := by
  unfold strB
  simp only [e]
theorem strB_dK {H : Hp} {a : Addr} {xs} (e : H a = some (.dK xs)) : strB H (.ref a) = false := by
  unfold strB
  simp only [e]
def spIsbtw (Cs : List Addr) : Sp := fun vs H Q _ => ∃ (v : V) (lo hi : Int), vs = [v, .int lo, .int hi] ∧ AnyF Cs H v ∧ Q (.bl (btw v lo hi)) H
def spNeedLen (Cs : List Addr) (CL : Addr) : Sp := fun vs H Q E => ∃ (v : V), vs = [v] ∧ AnyF Cs H v ∧ (btw v 0 2000 = true → Q .non H) ∧ (btw v 0 2000 = false → Errs E CL "value" v H)
def spNeedPlc (Cs : List Addr) (CP : Addr) : Sp := fun vs H Q E => ∃ (v : V) (n : Int), vs = [v, .int n] ∧ AnyF Cs H v ∧ (btw v 0 (n - 1) = true → Q .non H) ∧ (btw v 0 (n - 1) = false → Errs E CP "value" v H)
def spIsstr : Sp := fun vs H Q _ => ∃ (v : V), vs = [v] ∧ (∃ t, Ty0 H v t) ∧ Q (.bl (strB H v)) H
def spRatof (CR : Addr) : Sp := fun vs H Q _ => ∃ (v : V) (a b : Int), vs = [v] ∧ NumAt CR H v a b ∧ ∀ q H', RatAt CR H' q a b → Same H H' → Q (.ref q) H'
/-- numbers, by their fractions -/
def Nums (C : Addr) (H : Hp) (xs : List V) (rs : List (Int × Int)) : Prop := xs.length = rs.length ∧ ∀ (i : Nat) (v : V) (r : Int × Int), xs[i]? = some v → rs[i]? = some r → NumAt C H v r.1 r.2
theorem Nums.same {C : Addr} {H H' : Hp} {xs : List V} {rs : List (Int × Int)} (h : Nums C H xs rs) (s : Same H H') : Nums C H' xs rs := ⟨h.1, fun i v r e1 e2 => (h.2 i v r e1 e2).same s⟩
theorem Rats.nums {C : Addr} {H : Hp} {xs : List V} {rs : List (Int × Int)} (h : Rats C H xs rs) : Nums C H xs rs := ⟨h.1, fun i v r e1 e2 => by
  obtain ⟨q, e3, l⟩ := h.2 i r e2
  rw [e1] at e3
  cases e3
  exact .inl ⟨q, rfl, l⟩⟩
theorem notIns.same {Cs : List Addr} {C : Addr} {H H' : Hp} {v : V} (a : AnyF Cs H v) (h : notIns C H v) (s : Same H H') : notIns C H' v := by
  intro p dx fs e z
  subst e
  rcases a with ⟨t, a⟩ | ⟨D, hD, p', dx', fs', e, g⟩
  · cases a with
    | lst e => rw [s _ _ e] at z; cases z
    | tup e => rw [s _ _ e] at z; cases z
    | dK e => rw [s _ _ e] at z; cases z
  · cases e
    have := s _ _ g
    rw [z] at this
    cases this
    exact h p dx fs rfl g
theorem IsNum.same {Cs : List Addr} {C : Addr} {H H' : Hp} {v : V} {b : Bool} (h : IsNum Cs C H v b) (s : Same H H') : IsNum Cs C H' v b := by
  rcases h with ⟨e, p, n, d, rfl, l⟩ | ⟨a, n, e⟩
  · exact .inl ⟨e, p, n, d, rfl, l.same s⟩
  · exact .inr ⟨a.same s, n.same a s, e⟩
theorem IsNum.at {Cs : List Addr} {C : Addr} {H : Hp} {v : V} (h : IsNum Cs C H v true) : ∃ a b, NumAt C H v a b := by
  rcases h with ⟨e, p, n, d, rfl, l⟩ | ⟨a, n, e⟩
  · exact ⟨n, d, .inl ⟨p, rfl, l⟩⟩
  · obtain ⟨i, rfl⟩ := isI_int e.symm
    exact ⟨i, 1, .inr ⟨rfl, rfl⟩⟩
theorem isnum_eq {Cs : List Addr} {C : Addr} {H : Hp} {v : V} {b b' : Bool} (h : IsNum Cs C H v b) (h' : IsNum Cs C H v b') : b = b' := by
  rcases h with ⟨e, p, n, d, rfl, dx, l⟩ | ⟨a, n, e⟩
  · rcases h' with ⟨e', _⟩ | ⟨_, n', e'⟩
    · rw [e, e']
    · exact absurd l (n' p dx _ rfl)
  · rcases h' with ⟨e', p', _, _, rfl, dx', l'⟩ | ⟨_, n', e'⟩
    · exact absurd l' (n p' dx' _ rfl)
    · rw [e, e']
theorem nums_of {Cs : List Addr} {C : Addr} {H : Hp} : ∀ (xs : List V), (∀ v ∈ xs, IsNum Cs C H v true) → ∃ rs, Nums C H xs rs
  | [], _ => ⟨[], rfl, fun i v r e => by simp at e⟩
  | x :: xs, h => by
    obtain ⟨rs, h1, h2⟩ := nums_of xs fun v hv => h v (.tail _ hv)
    obtain ⟨a, b, hx⟩ := (h x (.head _)).at
    refine ⟨(a, b) :: rs, by rw [List.length_cons, List.length_cons, h1], fun i v r e1 e2 => ?_⟩
    cases i with
    | zero =>
      cases e1
      cases e2
      exact hx
    | succ i => exact h2 i v r e1 e2
/-- what making a clip of these does -/
def ClipMk (Cs : List Addr) (CR CC CS CM : Addr) (H : Hp) (p : Addr) (xs : List V) (Q : VK) (E : XK) : Prop := xs.length ≤ 100000 ∧ (∀ v ∈ xs, ∃ b, IsNum Cs CR H v b) ∧
  (2000 < xs.length → Errs2 E CM "what" "most" (.str "samples") (.int 2000) H) ∧
  (xs.length ≤ 2000 → ∀ rs, Nums CR H xs rs → ∀ H', ClipAt CC CR H' p rs → (∀ c o, H c = some o → c ≠ p → H' c = some o) → Q .non H') ∧
  (xs.length ≤ 2000 → ∀ (i : Nat) (v : V), xs[i]? = some v → IsNum Cs CR H v false → (∀ (j : Nat) (u : V), j < i → xs[j]? = some u → IsNum Cs CR H u true) → Errs E CS "at" (.int (i : Nat)) H)
/-- Clip.__init__(self, *samples) -/
def spCinit (Cs : List Addr) (CR CC CS CM : Addr) : Sp := fun vs H Q E => ∃ (p dx tt : Addr) (xs : List V), vs = [.ref p, .ref tt] ∧ H p = some (.ins CC dx []) ∧ H tt = some (.tup xs) ∧ ClipMk Cs CR CC CS CM H p xs Q E
def spClip (Cs : List Addr) (CR CC CS CM : Addr) : Sp := fun vs H Q E => ∃ (p dx : Addr) (xs : List V), vs = .ref p :: xs ∧ H p = some (.ins CC dx []) ∧ ClipMk Cs CR CC CS CM H p xs Q E
theorem Rats.put {C : Addr} {H : Hp} {vs : List V} {rs : List (Int × Int)} {c : Addr} {o : HO} (h : Rats C H vs rs) (n : ∀ dx fs, H c ≠ some (.ins C dx fs)) : Rats C (upd H c o) vs rs := ⟨h.1, fun i r e => by
  obtain ⟨q, e1, dx, e2⟩ := h.2 i r e
  refine ⟨q, e1, dx, ?_⟩
  rw [upd_ne (fun z => n dx (rfs r.1 r.2) (by rw [← z]; exact e2))]
  exact e2⟩
section
variable {P : Program} {w : World} {K : PySem.W.Frag} {mg : Str → Option Value} {base : Heap} {Cs : List Addr} {CR CC CL fL CP fP CS fS CM fM : Addr}
theorem ok_isint {f : Addr} {fd : FuncData} (F : Fun K "is_integer" "is_integer" s_isint f fd) (T : BI mg) (fam : Fam K Cs) : FnOk P w K mg base CX0 1 f fd ["value"] (spWh Cs) := by
  refine F.ok sc_isint (fun vs H Q E h => ?_) (fun cdv A outer s H vs Q E hr h => ?_)
  · obtain ⟨v, rfl, _⟩ := h
    rfl
  · obtain ⟨v, rfl, ty, q⟩ := h
    refine ⟨_, (pss_one (ps_ret (pe_and (pe_callB call_isi (by rfl) T.z_isinstance boot_isinstance (pa_cons (pv 0) (pa_cons (pe_bltn (v := .ty "int") (by rfl) T.z_int boot_int rfl) pa_nil))) (pe_one (pe_not (pe_callB call_isi (by rfl) T.z_isinstance boot_isinstance (pa_cons (pv 0) (pa_cons (pe_bltn (v := .ty "bool") (by rfl) T.z_bool boot_bool rfl) pa_nil)))))))), ?_⟩
    obtain ⟨t, b, tx, e1, e2, e3⟩ := fam.kint ty
    refine ⟨_, rfl, v, _, _, _, b, rfl, .ty _, tx, e1, _, rfl, ?_⟩
    cases b with
    | false =>
      refine iteF ?_
      rw [e3 rfl] at q
      exact q
    | true =>
      refine iteT ?_
      obtain ⟨c, e4, e5⟩ := e2 rfl
      refine ⟨_, rfl, v, _, _, _, c, rfl, .ty _, tx, e4, _, rfl, ?_⟩
      rw [e5] at q
      exact q
theorem ok_isbtw {f : Addr} {fd : FuncData} (F : Fun K "is_between" "is_between" s_isbtw f fd) (T : BI mg) (D_isint : DefAt P w K mg base CX0 1 "is_integer" ["value"] (spWh Cs)) : FnOk P w K mg base CX0 2 f fd ["value", "least", "most"] (spIsbtw Cs) := by
  refine F.ok sc_isbtw (fun vs H Q E h => ?_) (fun cdv A outer s H vs Q E hr h => ?_)
  · obtain ⟨v, lo, hi, rfl, _⟩ := h
    rfl
  · obtain ⟨v, lo, hi, rfl, ty, q⟩ := h
    refine ⟨_, (pss_one (ps_ret (pe_and (My.pe_d D_isint (hr.mono (by decide)) (by rfl) pass0 (pa_cons (pv 0) pa_nil)) (pe_one (pe_chain op_le op_le (pv 1) (pv 0) (pv 2)))))), ?_⟩
    refine ⟨_, rfl, v, rfl, ty, _, rfl, ?_⟩
    cases e : isI v with
    | false =>
      refine iteF ?_
      have : btw v lo hi = false := by cases v <;> first | rfl | cases e
      rw [this] at q
      exact q
    | true =>
      refine iteT ?_
      obtain ⟨i, rfl⟩ := isI_int e
      refine ⟨_, rfl, _, rfl, _, _, rfl, rfl, _, rfl, ?_⟩
      rw [btw_val] at q
      refine ite2 (fun c => ?_) (fun c => ?_)
      · rw [c, Bool.true_and] at q
        exact ⟨_, rfl, _, _, rfl, rfl, q⟩
      · have c' : decide (lo ≤ i) = false := by simpa using c
        rw [c', Bool.false_and] at q
        exact q
theorem ok_needplc {f : Addr} {fd : FuncData} (F : Fun K "need_place" "need_place" s_needplc f fd) (T : CTx P K mg Cs CR CC CL fL CP fP CS fS CM fM) (D_isbtw : DefAt P w K mg base CX0 2 "is_between" ["value", "least", "most"] (spIsbtw Cs)) : FnOk P w K mg base (L2.CX P w) 3 f fd ["place", "length"] (spNeedPlc Cs CP) := by
  refine F.okX sc_needplc (fun vs H Q E h => ?_) (fun cdv A outer s H vs Q E hr h => ?_)
  · obtain ⟨v, n, rfl, _⟩ := h
    rfl
  · obtain ⟨v, n, rfl, ty, k1, k2⟩ := h
    refine ⟨_, (pss_one (ps_if (pt_not (pt_val (My.pe_d D_isbtw (hr.mono (by decide)) (by rfl) pass0 (pa_cons (pv 0) (pa_cons pe_int (pa_cons (pe_op op_sub (pv 1) pe_int) pa_nil)))))) (pss_one (ps_raise1 rfl T.e_BadPlace (hr.mono (by decide) : Room 0 _) (takes_of rfl rfl rfl rfl) (pa_cons (pv 0) pa_nil))) pss_nil)), ?_⟩
    refine ⟨_, rfl, _, rfl, _, _, rfl, rfl, v, 0, n - 1, rfl, ty, _, rfl, ?_⟩
    cases e : btw v 0 (n - 1) with
    | false => exact iteT ⟨_, rfl, _, rfl, fun d hd => (k2 e).go hd⟩
    | true => exact iteF (k1 e)
theorem ok_isstr {f : Addr} {fd : FuncData} (F : Fun K "is_stretch" "is_stretch" s_isstr f fd) (T : RTx K mg Cs CR) : FnOk P w K mg base CX0 1 f fd ["at"] spIsstr := by
  refine F.ok sc_isstr (fun vs H Q E h => ?_) (fun cdv A outer s H vs Q E hr h => ?_)
  · obtain ⟨v, rfl, _⟩ := h
    rfl
  · obtain ⟨v, rfl, ⟨t, ty⟩, q⟩ := h
    refine ⟨_, (pss_one (ps_ret (pe_and (pe_callB call_isi (by rfl) T.z_isinstance boot_isinstance (pa_cons (pv 0) (pa_cons (pe_bltn (v := .ty "tuple") (by rfl) T.z_tuple boot_tuple rfl) pa_nil))) (pe_one (pe_cmpR op_eq (pe_callB call_len (by rfl) T.z_len PySem.boot_len (pa_cons (pv 0) pa_nil)) pe_int (nomark _)))))), ?_⟩
    cases ty with
    | tup e =>
      refine ⟨_, rfl, _, _, _, _, true, rfl, .ty _, (Ty0.tup e).tyx, kit_ty (by decide +kernel), _, rfl, iteT ?_⟩
      rw [strB_tup e] at q
      exact ⟨_, rfl, _, _, rfl, .inr ⟨_, SqT.of e, rfl⟩, rfl, q⟩
    | lst e =>
      rw [strB_lst e] at q
      exact ⟨_, rfl, _, _, _, _, false, rfl, .ty _, (Ty0.lst e).tyx, kit_ty (by decide +kernel), _, rfl, iteF q⟩
    | dK e =>
      rw [strB_dK e] at q
      exact ⟨_, rfl, _, _, _, _, false, rfl, .ty _, (Ty0.dK e).tyx, kit_ty (by decide +kernel), _, rfl, iteF q⟩
    | non => exact ⟨_, rfl, _, _, _, _, false, rfl, .ty _, (Ty0.non).tyx, kit_ty (by decide +kernel), _, rfl, iteF q⟩
    | bl b => exact ⟨_, rfl, _, _, _, _, false, rfl, .ty _, (Ty0.bl b).tyx, kit_ty (by decide +kernel), _, rfl, iteF q⟩
    | int b => exact ⟨_, rfl, _, _, _, _, false, rfl, .ty _, (Ty0.int b).tyx, kit_ty (by decide +kernel), _, rfl, iteF q⟩
    | str b => exact ⟨_, rfl, _, _, _, _, false, rfl, .ty _, (Ty0.str b).tyx, kit_ty (by decide +kernel), _, rfl, iteF q⟩
theorem ok_ratof {f : Addr} {fd : FuncData} (F : Fun K "ratio_of" "ratio_of" s_ratof f fd) (T : RTx K mg Cs CR) (M_Ratio1 : MakeAt P w K mg base (L2.CX P w) 3 "Ratio" CR ["self", "top", "bottom"] (spRinit CR) [.int 1]) : FnOk P w K mg base CX0 5 f fd ["number"] (spRatof CR) := by
  refine F.ok sc_ratof (fun vs H Q E h => ?_) (fun cdv A outer s H vs Q E hr h => ?_)
  · obtain ⟨v, a, b, rfl, _⟩ := h
    rfl
  · obtain ⟨v, a, b, rfl, hv, q⟩ := h
    refine ⟨_, (pss_one (ps_ret (pe_ifExp (pt_val (pe_callB call_isi (by rfl) T.z_isinstance boot_isinstance (pa_cons (pv 0) (pa_cons (pe_glob (v := .ref CR) (by rfl) T.gR rfl) pa_nil)))) (pv 0) (My.pe_mk M_Ratio1 (hr.mono (by decide)) (by rfl) passL (pa_cons (pv 0) pa_nil))))), ?_⟩
    rcases hv with ⟨p, rfl, hl⟩ | ⟨rfl, rfl⟩
    · obtain ⟨dx, e⟩ := id hl
      exact ⟨_, rfl, _, _, _, _, true, rfl, .own _, T.own.ty e, T.own.me, _, rfl, iteT ⟨_, rfl, q p H hl fun _ _ e => e⟩⟩
    · refine ⟨_, rfl, _, _, _, _, false, rfl, .own _, (Ty0.int a).tyx, (T.own.kn _ (.head _)).1, _, rfl, iteF ?_⟩
      refine ⟨_, rfl, fun x dx' hx hd ne => ?_⟩
      have l2 : lowT a 1 = a ∧ lowB a 1 = 1 := low_self (by decide) (Int.gcd_one_right ..)
      refine rinit_at (by decide) (by decide +kernel) hx hd ne fun H' l s' => ?_
      rw [l2.1, l2.2] at l
      exact q x H' l s'
theorem ok_clen {f : Addr} {fd : FuncData} (F : Fun K "__len__" "Clip.__len__" s_clen f fd) (T : CTx P K mg Cs CR CC CL fL CP fP CS fS CM fM) : FnOk P w K mg base CX0 1 f fd ["self"] (fun vs H Q _ => ∃ (p t : Addr) (zs : List V) (rs : List (Int × Int)), vs = [.ref p] ∧ ClipT CC CR H p t zs rs ∧ Q (.int rs.length) H) := by
  refine F.ok sc_clen (fun vs H Q E h => ?_) (fun cdv A outer s H vs Q E hr h => ?_)
  · obtain ⟨p, t, zs, rs, rfl, _⟩ := h
    rfl
  · obtain ⟨p, t, zs, rs, rfl, ⟨⟨dx, e⟩, e2, r, l⟩, q⟩ := h
    refine ⟨_, (pss_one (ps_ret (pe_callB call_len (by rfl) T.z_len PySem.boot_len (pa_cons (pe_fld (pv 0) rfl) pa_nil)))), ?_⟩
    rw [← r.1] at q
    exact ⟨_, rfl, p, CC, dx, _, _, rfl, e, T.clC, T.nS, cfs_get t, _, _, rfl, .inr ⟨_, SqT.of e2, rfl⟩, q⟩
end
end My
set_option pp.maxSteps 1500
set_option pp.deepTerms.threshold 8
/-! ### clips: made -/
namespace My
open PySem PySem.Spec PyProof.Rows L2
/-- for at, x in enumerate(t) -/
theorem for_enumT {K : PySem.W.Frag} {a : Addr} {xs : List V} {g : TG} {tb : TS} {D : Ends} {σ : L2.St} {H : Hp} (Pv : Nat → L2.St → Hp → Prop) (h0 : Pv 0 σ H) (hl : ∀ i σ H, i ≤ xs.length → Pv i σ H → SqT K H a xs)
    (hs : ∀ i x σ H T, xs[i]? = some x → Pv i σ H → H T = none → g (.ref T) σ (upd H T (.tup [.int (i : Nat), x])) fun σ2 H2 => tb { D with nx := Pv (i + 1), ct := Pv (i + 1), bk := D.nx } σ2 H2) (hd : ∀ σ H, Pv xs.length σ H → D.nx σ H) :
    ∃ W : Nat → Nat → L2.St → Hp → Prop, (∃ m, W 0 m σ H) ∧ ∀ i m σ H, W i m σ H →
      ((IteT K a).stop i H ∧ D.nx σ H) ∨ ((IteT K a).go i H ∧ ∃ N : L2.St → Hp → Prop, (∀ σ' H', N σ' H' → ∃ m', m' < m ∧ W (i + 1) m' σ' H') ∧ ∀ x H', (IteT K a).yld i H x H' → g x σ H' fun σ2 H2 => tb { D with nx := N, ct := N, bk := D.nx } σ2 H2) := by
  refine ⟨fun i m σ H => m = xs.length - i ∧ i ≤ xs.length ∧ Pv i σ H, ⟨xs.length, by simp, Nat.zero_le _, h0⟩, ?_⟩
  rintro i m σ H ⟨rfl, hi, p⟩
  have q := hl i σ H hi p
  by_cases hlt : i < xs.length
  · refine .inr ⟨⟨xs, xs[i], q, by simp [hlt]⟩, Pv (i + 1), fun σ' H' p' => ⟨xs.length - (i + 1), by omega, rfl, hlt, p'⟩, fun x H' y => ?_⟩
    obtain ⟨T, x0, rfl, hT, rfl, y⟩ := y
    exact hs i x0 σ H T (y xs q) p hT
  · have e : i = xs.length := by omega
    subst e
    exact .inl ⟨⟨xs, q, rfl⟩, hd σ H p⟩
section
variable {P : Program} {w : World} {K : PySem.W.Frag} {mg : Str → Option Value} {base : Heap} {Cs : List Addr} {CR CC CL fL CP fP CS fS CM fM : Addr}
theorem ok_cinit {f : Addr} {fd : FuncData} {oc : Value} {od : Option Addr} {kV doc pm : Value} {an : Option Addr} {cdv ct : Value} {osl : Array (Option Value)} (lk : K.lookup f = some ⟨oc, od, .func (PySem.W.fnOf "__init__" "Clip.__init__" (defArgs s_cinit) (defBody s_cinit) (defScope s_cinit) .none kV doc pm an cdv ct), osl⟩) (hcd : PySem.W.codeIn K cdv "Clip.__init__" = true)
    (T : CTx P K mg Cs CR CC CL fL CP fP CS fS CM fM) (S_is_number : StatAt P w K mg base CX0 2 CR "is_number" ["thing"] (spIsnum Cs CR)) (D_ratof : DefAt P w K mg base CX0 5 "ratio_of" ["number"] (spRatof CR)) : FnR P w K mg base (L2.CX P w) 6 f (spClip Cs CR CC CS CM) := by
  have R := StX.fn_star (CX := L2.CX P w) (P := P) (w := w) (mg := mg) (base := base) (k := 5) (ps := ["self"]) (sp := spCinit Cs CR CC CS CM) lk hcd sc_cinit StX.cxUp (StX.bind_star1 (B := fun us => bindArgs (PySem.W.fnOf "__init__" "Clip.__init__" (defArgs s_cinit) (defBody s_cinit) (defScope s_cinit) .none kV doc pm an cdv ct) ⟨us, []⟩) (p1 := "self") (pv := "samples") (fun _ => rfl) (fun _ _ _ => rfl)) (fun A outer s H vs Q E hr h => ?_)
  · refine R.imp fun vs H Q E h => ?_
    obtain ⟨p, dx, xs, rfl, hp, hl, ty, k0, k1, k2⟩ := h
    refine ⟨[.ref p], xs, rfl, rfl, by rw [sizeLine_eq]; omega, fun tt htt => ?_⟩
    have st := same_new (o := .tup xs) htt
    refine ⟨p, dx, tt, xs, rfl, st _ _ hp, upd_same, hl, fun v hv => (ty v hv).imp fun b z => z.same st, fun z => (k0 z).up st, fun z rs e H' po kp => k1 z rs ⟨e.1, fun i v r e1 e2 => by
      obtain ⟨b, hb⟩ := ty v (List.mem_of_getElem? e1)
      rcases e.2 i v r e1 e2 with ⟨q, rfl, dq, hq⟩ | h2
      · by_cases z : q = tt
        · rw [z, upd_same] at hq
          cases hq
        · rw [upd_ne z] at hq
          exact .inl ⟨q, rfl, dq, hq⟩
      · exact .inr h2⟩ H' po fun c o e' n => kp c o (st _ _ e') n, fun z i v e1 e2 e3 => ?_⟩
    have back : ∀ (u : V) (j : Nat) (b : Bool), xs[j]? = some u → IsNum Cs CR (upd H tt (.tup xs)) u b → IsNum Cs CR H u b := fun u j b hu hb => by
      obtain ⟨b', hb'⟩ := ty u (List.mem_of_getElem? hu)
      have := hb'.same st
      have eb : b' = b := isnum_eq this hb
      rw [← eb]
      exact hb'
    exact (k2 z i v e1 (back v i false e1 e2) fun j u hj hu => back u j true hu (e3 j u hj hu)).up st
  · obtain ⟨p, dx, tt, xs, rfl, hp, htt, hl, ty, k0, k1, k2⟩ := h
    refine ⟨_, (pss_cons (ps_if (pt_cmpR op_gt (pe_callB call_len (by rfl) T.z_len PySem.boot_len (pa_cons (pv 1) pa_nil)) (ClX.pe_cval (pe_glob (v := .ref CC) (by rfl) T.gC rfl)) (nomark _)) (pss_one (ps_raise2 rfl T.e_TooMany (hr.mono (by decide) : Room 0 _) (takes_of rfl rfl rfl rfl) (pa_cons pe_str (pa_cons (ClX.pe_cval (pe_glob (v := .ref CC) (by rfl) T.gC rfl)) pa_nil)))) pss_nil)
      (pss_cons (ps_for (passes_of rfl) rfl (My.pi_enumT (by rfl) T.z_enumerate (pa_cons (pv 1) pa_nil)) (pg_tup rfl (pgs_cons (pg_name (i := 2) sc_cinit.nd rfl (Or.inl rfl)) (pgs_cons (pg_name (i := 3) sc_cinit.nd rfl (Or.inl rfl)) pgs_nil))) (pss_one (ps_if (pt_not (pt_val (My.pe_st S_is_number (hr.mono (by decide)) pass0 (pe_glob (v := .ref CR) (by rfl) T.gR rfl) (pa_cons (pv 3) pa_nil)))) (pss_one (ps_raise1 rfl T.e_BadSample (hr.mono (by decide) : Room 0 _) (takes_of rfl rfl rfl rfl) (pa_cons (pv 2) pa_nil))) pss_nil)))
      (pss_one (ps_fld (pv 0) (pe_callTy call_tuple_of (by rfl) T.z_tuple boot_tuple (pa_cons (pe_lc (own := [("sample", 3)]) rfl sc_cinit.nd (pi_tup (pv 1)) (blkOk_by (by show blkC ["self", "samples", "at", "sample"] (defScope s_cinit) _ _ = true; decide +kernel)) (fun _ _ _ _ _ => (pg_name (i := 3) sc_cinit.nd rfl (Or.inl rfl))) (fun _ _ _ _ _ => pts_nil) (fun _ _ _ _ _ => (My.pe_d D_ratof (hr.mono (by decide)) (by rfl) pass0 (pa_cons (pv 3) pa_nil)))) pa_nil)) rfl)))), ?_⟩
    obtain ⟨mc, u, r1, r2⟩ := T.rd
    refine ⟨_, rfl, .ref tt, xs.length, rfl, .inr ⟨_, SqT.of htt, rfl⟩, CC, mc, _, u, rfl, r1, r2, _, _, rfl, rfl, _, rfl, ?_⟩
    refine ite2 (fun c => ?_) (fun c => ?_)
    · have c' : 2000 < xs.length := by have := of_decide_eq_true c; omega
      exact ⟨CC, mc, _, u, rfl, r1, r2, _, _, rfl, fun d hd => (k0 c').go hd⟩
    have c' : xs.length ≤ 2000 := by
      have : ¬ (2000 : Int) < xs.length := fun z => c (decide_eq_true z)
      omega
    refine ⟨_, rfl, tt, _, rfl, SqT.of htt, for_enumT (K := K) (a := tt) (xs := xs) (fun i σ H' => ∃ v2 v3, σ = [some (.ref p), some (.ref tt), v2, v3] ∧ Same H H' ∧ ∀ (j : Nat) (u : V), j < i → xs[j]? = some u → IsNum Cs CR H u true) ⟨none, none, rfl, fun _ _ e => e, fun j u z => absurd z (Nat.not_lt_zero _)⟩ (fun i σ H' _ hh => by obtain ⟨_, _, _, s, _⟩ := hh; exact SqT.of (s _ _ htt)) ?_ ?_⟩
    · rintro i x σ H' T' hx ⟨v2, v3, rfl, sh, al⟩ hT
      have s2 := sh.trans (same_new (o := .tup [.int (i : Nat), x]) hT)
      refine ⟨T', _, rfl, SqT.of upd_same, rfl, _, _, rfl, _, _, rfl, rfl, ?_⟩
      obtain ⟨b, hb⟩ := ty x (List.mem_of_getElem? hx)
      refine ⟨rfl, _, rfl, x, b, rfl, hb.same s2, _, rfl, ?_⟩
      cases b with
      | false => exact iteT ⟨_, rfl, _, rfl, fun d hd => ((k2 c' i x hx hb al).up s2).go hd⟩
      | true =>
        refine iteF ⟨_, _, rfl, s2, fun j u hj hu => ?_⟩
        by_cases z : j = i
        · rw [z, hx] at hu
          cases hu
          exact hb
        · exact al j u (by omega) hu
    · rintro σ H' ⟨v2, v3, rfl, sh, al⟩
      obtain ⟨rs, hrs⟩ := nums_of xs fun v hv => by
        obtain ⟨j, hj⟩ := List.getElem?_of_mem hv
        exact al j v (List.getElem?_eq_some_iff.mp hj).1 hj
      have t1 := sh _ _ htt
      refine ⟨_, rfl, tt, rfl, ⟨_, SqT.of t1⟩, fun D hD => ?_⟩
      refine lc_it walk_tup (fun i Hh => ∃ vs, Hh D = some (.lst vs) ∧ Rats CR Hh vs (rs.take i) ∧ Same H' Hh) ⟨[], upd_same, Rats.nil, same_new hD⟩ (fun i Hh _ hh => by obtain ⟨_, _, _, s2⟩ := hh; exact SqT.of (s2 _ _ t1)) ?_ ?_
      · rintro i v Hh H2 hi ⟨vs, g1, g2, g3⟩ ⟨rfl, hv⟩
        obtain ⟨r, hr⟩ : ∃ r, rs[i]? = some r := ⟨_, List.getElem?_eq_getElem (by rw [← hrs.1]; exact hi)⟩
        refine ⟨rfl, yes_go ⟨_, rfl, v, r.1, r.2, rfl, (hrs.2 i v r hv hr).same (sh.trans g3), fun q H3 l s3 => ?_⟩⟩
        refine ⟨vs, s3 _ _ g1, ?_, vs ++ [.ref q], upd_same, ?_, ?_⟩
        · rw [g2.1, List.length_take, sizeLine_eq]
          omega
        · rw [List.take_add_one, hr]
          refine Rats.put ((g2.same s3).snoc l) fun dx fs z => ?_
          rw [s3 _ _ g1] at z
          cases z
        · intro c o e
          rw [upd_ne (ne_of_none e hD)]
          exact s3 _ _ (g3 _ _ e)
      rintro H2 ⟨vs, g1, g2, g3⟩
      rw [List.take_of_length_le (by rw [← hrs.1]; exact Nat.le_refl _)] at g2
      refine ⟨D, vs, rfl, .inl ⟨SqL.of g1, fun l hl2 => ?_⟩⟩
      have s3 := (sh.trans g3).trans (same_new (o := .tup vs) hl2)
      have hp3 := s3 _ _ hp
      refine ⟨_, rfl, p, CC, dx, _, rfl, hp3, T.clC, T.nS, (by show 0 < 1000; decide), ?_⟩
      have lp : l ≠ p := fun z => by
        rw [z, upd_same] at hp3
        cases hp3
      refine k1 c' rs hrs _ ⟨l, vs, ⟨dx, upd_same⟩, ?_, ?_, by rw [← hrs.1]; exact c'⟩ fun c o e n => ?_
      · rw [upd_ne lp]
        exact upd_same
      · refine Rats.put (Rats.put g2 fun dx fs z => ?_) fun dx' fs z => ?_
        · rw [hl2] at z
          cases z
        · rw [hp3] at z
          cases z
          exact T.ne rfl
      · rw [upd_ne n]
        exact s3 _ _ e
end
end My
set_option pp.maxSteps 1500
set_option pp.deepTerms.threshold 8
/-! ### clips: made from others -/
namespace My
open PySem PySem.Spec PyProof.Rows L2
theorem Nums.back {Cs : List Addr} {C : Addr} {H H0 : Hp} {xs : List V} {rs : List (Int × Int)} (e : Nums C H0 xs rs) (ty : ∀ v ∈ xs, ∃ b, IsNum Cs C H v b) (s : Same H H0) : Nums C H xs rs := ⟨e.1, fun i v r e1 e2 => by
  obtain ⟨b, hb⟩ := ty v (List.mem_of_getElem? e1)
  rcases e.2 i v r e1 e2 with ⟨q, rfl, dq, hq⟩ | h2
  · rcases hb with ⟨_, p, n, d, ep, dp, hp⟩ | ⟨a, no, _⟩
    · cases ep
      have z := s _ _ hp
      rw [hq] at z
      rw [← z] at hp
      exact .inl ⟨q, rfl, dq, hp⟩
    · exact absurd hq (no.same a s q dq _ rfl)
  · exact .inr h2⟩
/-- what a new clip of these does -/
def ClipTo (Cs : List Addr) (CR CC CS CM : Addr) (H : Hp) (xs : List V) (R : Addr → Hp → Prop) (E : XK) : Prop := xs.length ≤ 100000 ∧ (∀ v ∈ xs, ∃ b, IsNum Cs CR H v b) ∧
  (2000 < xs.length → Errs2 E CM "what" "most" (.str "samples") (.int 2000) H) ∧
  (xs.length ≤ 2000 → ∀ rs, Nums CR H xs rs → ∀ c H', ClipAt CC CR H' c rs → H c = none → Same H H' → R c H') ∧
  (xs.length ≤ 2000 → ∀ (i : Nat) (v : V), xs[i]? = some v → IsNum Cs CR H v false → (∀ (j : Nat) (u : V), j < i → xs[j]? = some u → IsNum Cs CR H u true) → Errs E CS "at" (.int (i : Nat)) H)
theorem ClipTo.up {Cs : List Addr} {CR CC CS CM : Addr} {H H0 : Hp} {xs : List V} {R : Addr → Hp → Prop} {E : XK} (h : ClipTo Cs CR CC CS CM H xs R E) (s : Same H H0) : ClipTo Cs CR CC CS CM H0 xs R E := by
  obtain ⟨hl, ty, k0, k1, k2⟩ := h
  have back : ∀ (u : V) (j : Nat) (b : Bool), xs[j]? = some u → IsNum Cs CR H0 u b → IsNum Cs CR H u b := fun u j b hu hb => by
    obtain ⟨b', hb'⟩ := ty u (List.mem_of_getElem? hu)
    have eb : b' = b := isnum_eq (hb'.same s) hb
    rw [← eb]
    exact hb'
  exact ⟨hl, fun v hv => (ty v hv).imp fun b z => z.same s, fun z => (k0 z).up s, fun z rs e c H' po hc s' => k1 z rs (e.back ty s) c H' po (s.free hc) (s.trans s'), fun z i v e1 e2 e3 => (k2 z i v e1 (back v i false e1 e2) fun j u hj hu => back u j true hu (e3 j u hj hu)).up s⟩
theorem clip_at {Cs : List Addr} {CR CC CS CM : Addr} {H : Hp} {x dx : Addr} {xs : List V} {R : Addr → Hp → Prop} {E : XK} (h : ClipTo Cs CR CC CS CM H xs R E) (hx : H x = none) (hd : H dx = none) (ne : dx ≠ x) :
    spClip Cs CR CC CS CM (.ref x :: xs) (upd (upd H dx (.own x)) x (.ins CC dx [])) (fun v H2 => v = .non ∧ R x H2) E := by
  have s0 : Same H (upd (upd H dx (.own x)) x (.ins CC dx [])) := fun b o e => by
    rw [upd_ne (ne_of_none e hx), upd_ne (ne_of_none e hd)]
    exact e
  obtain ⟨_, _, _, k1, _⟩ := id h
  obtain ⟨hl, ty, k0, _, k2⟩ := h.up s0
  obtain ⟨_, ty0, _⟩ := id h
  exact ⟨x, dx, xs, rfl, upd_same, hl, ty, k0, fun z rs e H' po kp => ⟨rfl, k1 z rs (e.back ty0 s0) x H' po hx fun c o e' => kp c o (s0 _ _ e') (ne_of_none e' hx)⟩, k2⟩
/-- all of them numbers, not too many -/
theorem clip_to {Cs : List Addr} {CR CC CS CM : Addr} (inn : CR ∈ Cs) {H : Hp} {xs : List V} {rs : List (Int × Int)} {R : Addr → Hp → Prop} {E : XK} (hn : ∀ rs', Nums CR H xs rs' → rs' = rs) (h : Nums CR H xs rs) (l : xs.length ≤ 2000) (k : ∀ c H', ClipAt CC CR H' c rs → H c = none → Same H H' → R c H') :
    ClipTo Cs CR CC CS CM H xs R E := by
  have nu : ∀ (i : Nat) (v : V), xs[i]? = some v → IsNum Cs CR H v true := fun i v e => by
    have hi := (List.getElem?_eq_some_iff.mp e).1
    have hr : i < rs.length := by rw [← h.1]; exact hi
    exact IsNum.num (h.2 i v rs[i] e (List.getElem?_eq_getElem hr))
  refine ⟨by omega, fun v hv => ?_, fun z => by omega, fun _ rs' e c H' po hc s => ?_, fun _ i v e1 e2 _ => ?_⟩
  · obtain ⟨j, hj⟩ := List.getElem?_of_mem hv
    exact ⟨true, nu j v hj⟩
  · rw [hn rs' e] at po
    exact k c H' po hc s
  · cases isnum_eq (nu i v e1) e2
def spCof (Cs : List Addr) (CR CC CS CM : Addr) : Sp := fun vs H Q E => ∃ (t : Addr) (xs : List V), vs = [.ref CC, .ref t] ∧ (H t = some (.tup xs) ∨ H t = some (.lst xs)) ∧ ClipTo Cs CR CC CS CM H xs (fun c H' => Q (.ref c) H') E
def spCsil (Cs : List Addr) (CR CC CL : Addr) : Sp := fun vs H Q E => ∃ (v : V), vs = [v] ∧ AnyF Cs H v ∧ (∀ n : Nat, v = .int n → n ≤ 2000 → ∀ c H', ClipAt CC CR H' c (List.replicate n (0, 1)) → H c = none → Same H H' → Q (.ref c) H') ∧ (btw v 0 2000 = false → Errs E CL "value" v H)
def spCsing (Cs : List Addr) (CR CC CL CP : Addr) : Sp := fun vs H Q E => ∃ (v u : V), vs = [v, u] ∧ AnyF Cs H v ∧ AnyF Cs H u ∧
  (∀ n p : Nat, v = .int n → u = .int p → n ≤ 2000 → p < n → ∀ c H', ClipAt CC CR H' c ((List.replicate n ((0, 1) : Int × Int)).set p (1, 1)) → H c = none → Same H H' → Q (.ref c) H') ∧ (btw v 0 2000 = false → Errs E CL "value" v H) ∧ (∀ n : Nat, v = .int n → n ≤ 2000 → btw u 0 (n - 1) = false → Errs E CP "value" u H)
def spCcopy (CR CC : Addr) : Sp := fun vs H Q _ => ∃ (p : Addr) (rs : List (Int × Int)), vs = [.ref p] ∧ ClipAt CC CR H p rs ∧ ∀ c H', ClipAt CC CR H' c rs → H c = none → Same H H' → Q (.ref c) H'
theorem none_back {H H' : Hp} {c : Addr} (s : Same H H') (h : H' c = none) : H c = none := by
  cases e : H c with
  | none => rfl
  | some o => rw [s _ _ e] at h; cases h
theorem rfs_inj {a b c d : Int} (h : rfs a b = rfs c d) : a = c ∧ b = d := by
  have e1 : (rfs a b).lookup ("top" : Str) = (rfs c d).lookup ("top" : Str) := by rw [h]
  have e2 : (rfs a b).lookup ("bottom" : Str) = (rfs c d).lookup ("bottom" : Str) := by rw [h]
  rw [rfs_top, rfs_top] at e1
  rw [rfs_bot, rfs_bot] at e2
  cases e1
  cases e2
  exact ⟨rfl, rfl⟩
theorem NumAt.eq {C : Addr} {H : Hp} {v : V} {a b c d : Int} (h : NumAt C H v a b) (k : NumAt C H v c d) : a = c ∧ b = d := by
  rcases h with ⟨p, rfl, dx, e⟩ | ⟨rfl, rfl⟩
  · rcases k with ⟨q, z, dy, e'⟩ | ⟨z, _⟩
    · cases z
      rw [e] at e'
      have : rfs a b = rfs c d := by injection e' with e'; injection e'
      exact rfs_inj this
    · cases z
  · rcases k with ⟨q, z, _⟩ | ⟨z, rfl⟩
    · cases z
    · cases z
      exact ⟨rfl, rfl⟩
theorem Nums.eq {C : Addr} {H : Hp} {xs : List V} {rs rs' : List (Int × Int)} (h : Nums C H xs rs) (k : Nums C H xs rs') : rs' = rs := by
  refine List.ext_getElem? fun i => ?_
  by_cases hi : i < xs.length
  · have h1 : i < rs.length := by rw [← h.1]; exact hi
    have h2 : i < rs'.length := by rw [← k.1]; exact hi
    have e := NumAt.eq (h.2 i xs[i] rs[i] (List.getElem?_eq_getElem hi) (List.getElem?_eq_getElem h1)) (k.2 i xs[i] rs'[i] (List.getElem?_eq_getElem hi) (List.getElem?_eq_getElem h2))
    rw [List.getElem?_eq_getElem h1, List.getElem?_eq_getElem h2]
    exact congrArg some (Prod.ext e.1.symm e.2.symm)
  · rw [List.getElem?_eq_none (by rw [← k.1]; omega), List.getElem?_eq_none (by rw [← h.1]; omega)]
/-- 1 at m, 0 elsewhere -/
def bitV (m i : Nat) : V := .int (if i = m then 1 else 0)
theorem bitV_eq (m i : Nat) : [bitV m i] = [V.int (if decide (V.int (0 + ((i : Nat) : Int)) = V.int (m : Nat)) = true then 1 else 0)] := by
  unfold bitV
  by_cases h : i = m
  · subst h
    rw [if_pos rfl, if_pos (decide_eq_true (by rw [Int.zero_add]))]
  · rw [if_neg h, if_neg]
    intro z
    have := of_decide_eq_true z
    injection this with this
    omega
theorem bits_num {C : Addr} {H : Hp} {m n : Nat} (hm : m < n) : Nums C H ((List.range n).map (bitV m)) ((List.replicate n ((0, 1) : Int × Int)).set m (1, 1)) := by
  refine ⟨by rw [List.length_map, List.length_range, List.length_set, List.length_replicate], fun i v r e1 e2 => ?_⟩
  rw [List.getElem?_map] at e1
  have hi : i < n := by
    by_cases z : i < n
    · exact z
    · rw [List.getElem?_eq_none (by rw [List.length_range]; omega)] at e1
      cases e1
  rw [List.getElem?_range hi] at e1
  cases e1
  rw [List.getElem?_set] at e2
  by_cases h : m = i
  · rw [if_pos h, if_pos (by rw [List.length_replicate]; omega)] at e2
    cases e2
    refine .inr ⟨?_, rfl⟩
    show V.int _ = _
    rw [if_pos h.symm]
  · rw [if_neg h, List.getElem?_replicate, if_pos hi] at e2
    cases e2
    refine .inr ⟨?_, rfl⟩
    show V.int _ = _
    rw [if_neg (fun z => h z.symm)]
section
variable {P : Program} {w : World} {K : PySem.W.Frag} {mg : Str → Option Value} {base : Heap} {Cs : List Addr} {CR CC CL fL CP fP CS fS CM fM : Addr}
theorem ok_cof {f : Addr} {fd : FuncData} (F : Fun K "of" "Clip.of" s_cof f fd) (T : CTx P K mg Cs CR CC CL fL CP fP CS fS CM fM) (M_Clip : MakeR P w K mg base (L2.CX P w) 6 "Clip" CC (spClip Cs CR CC CS CM)) : FnOk P w K mg base (L2.CX P w) 8 f fd ["cls", "items"] (spCof Cs CR CC CS CM) := by
  refine F.okX sc_cof (fun vs H Q E h => ?_) (fun cdv A outer s H vs Q E hr h => ?_)
  · obtain ⟨t, xs, rfl, _⟩ := h
    rfl
  · obtain ⟨t, xs, rfl, ht, k⟩ := h
    refine ⟨_, (pss_cons (ps_if (pt_not (pt_val (pe_callB call_isiT (by rfl) T.z_isinstance boot_isinstance (pa_cons (pv 1) (pa_cons (pe_tup (pa_cons (pe_bltn (v := .ty "list") (by rfl) T.z_list boot_list rfl) (pa_cons (pe_bltn (v := .ty "tuple") (by rfl) T.z_tuple boot_tuple rfl) pa_nil))) pa_nil))))) (pss_one (ps_raise1 rfl T.e_BadSample (hr.mono (by decide) : Room 0 _) (takes_of rfl rfl rfl rfl) (pa_cons pe_non pa_nil))) pss_nil)
      (pss_one (ps_ret (My.pe_mkS M_Clip (hr.mono (by decide)) (by rfl) (passes_call (takes_of rfl rfl rfl rfl) (fun _ _ _ _ h => h)) (pv 1))))), ?_⟩
    refine ⟨_, rfl, (by show 2 ≤ sizeLine; decide), fun tp htp => ?_⟩
    have s0 := same_new (o := .tup [.ty "list", .ty "tuple"]) htp
    rcases ht with ht | ht
    · refine ⟨.ref t, tp, _, _, _, true, rfl, upd_same, .cons (.ty _) (.cons (.ty _) .nil), (Ty0.tup (s0 _ _ ht)).tyx, kitAny_cons (b := false) (kit_ty (by decide +kernel)) (fun _ => kitAny_cons (b := true) (kit_ty (by decide +kernel)) (fun z => nomatch z) fun _ => rfl) (fun z => nomatch z), _, rfl, iteF ?_⟩
      exact ⟨_, rfl, t, xs, rfl, .inl (SqT.of (s0 _ _ ht)), fun x dx hx hd ne => clip_at (k.up s0) hx hd ne⟩
    · refine ⟨.ref t, tp, _, _, _, true, rfl, upd_same, .cons (.ty _) (.cons (.ty _) .nil), (Ty0.lst (s0 _ _ ht)).tyx, kitAny_cons (b := true) (kit_ty (by decide +kernel)) (fun z => nomatch z) (fun _ => rfl), _, rfl, iteF ?_⟩
      exact ⟨_, rfl, t, xs, rfl, .inr (SqL.of (s0 _ _ ht)), fun x dx hx hd ne => clip_at (k.up s0) hx hd ne⟩
end
end My
set_option pp.maxSteps 1500
set_option pp.deepTerms.threshold 8
/-! ### clips: handed out one by one -/
namespace My
open PySem PySem.Spec PyProof.Rows L2 GenW
abbrev s_ceach : Stmt := inClass (topS 33) 7
/-- tuples stay -/
def Tk (H H' : Hp) : Prop := ∀ (q : Addr) (xs : List V), H q = some (.tup xs) → H' q = some (.tup xs)
theorem Tk.of {H H' : Hp} (s : Same H H') : Tk H H' := fun q xs e => s q _ e
theorem Tk.trans {H H1 H2 : Hp} (a : Tk H H1) (b : Tk H1 H2) : Tk H H2 := fun q xs e => b q xs (a q xs e)
/-- it hands out a tuple's items from the end -/
def revG (S0 : Hp → Prop) (t : Addr) (zs : List V) : GSpec := ⟨fun H => S0 H ∧ H t = some (.tup zs), fun i Hw x H' => Same Hw H' ∧ zs.reverse[i]? = some x, fun _ H' H'' => Tk H' H'', fun i Hw H' => Same Hw H' ∧ i = zs.length⟩
/-- the reading of «for x in t[::-1]: yield x» -/
theorem for_revG {K : PySem.W.Frag} {t q : Addr} {zs : List V} {S0 : Hp → Prop} {D : GEn} {σ : L2.St} {H0 H : Hp} (ix : Nat) (h0 : H q = some (.tup zs.reverse)) (s0 : Same H0 H) (nx : ∀ σ Hw H, Same Hw H → D.nx zs.length Hw σ H) (hl : ix < σ.length) :
    ∃ W : Nat → Nat → Nat → Hp → L2.St → Hp → Prop, (∃ m, W 0 m 0 H0 σ H) ∧ ∀ j m i Hw σ H, W j m i Hw σ H →
      ((Itt K q).stop j H ∧ D.nx i Hw σ H) ∨ ((Itt K q).go j H ∧ ∃ N : Nat → Hp → L2.St → Hp → Prop, (∀ i' Hw' σ' H', N i' Hw' σ' H' → ∃ m', m' < m ∧ W (j + 1) m' i' Hw' σ' H') ∧ ∀ x H', (Itt K q).yld j H x H' → gName ix x σ H' fun σ2 H2 =>
        (tG1then (tG1yield (revG S0 t zs).prt zs.length (tVar ix)) tG1nil) { D with nx := N, ct := N, bk := D.nx } i Hw σ2 H2) := by
  refine ⟨fun j m i Hw σ H => m = zs.length - j ∧ j ≤ zs.length ∧ i = j ∧ Same Hw H ∧ H q = some (.tup zs.reverse) ∧ ix < σ.length, ⟨zs.length, by simp, Nat.zero_le _, rfl, s0, h0, hl⟩, ?_⟩
  intro j m i Hw σ H hw
  obtain ⟨e1, hj, e2, e3, ht, hl⟩ := hw
  subst e1 e2
  by_cases hlt : i < zs.length
  · have hlr : i < zs.reverse.length := by rw [List.length_reverse]; exact hlt
    refine .inr ⟨⟨zs.reverse, zs.reverse[i], SqT.of ht, by simp [hlt]⟩, fun i' Hw' σ' H' => i' = i + 1 ∧ Same Hw' H' ∧ H' q = some (.tup zs.reverse) ∧ ix < σ'.length, fun i' Hw' σ' H' h => ⟨zs.length - (i + 1), by omega, rfl, hlt, h.1, h.2.1, h.2.2.1, h.2.2.2⟩, fun x H' y => ?_⟩
    obtain ⟨e, y⟩ := y
    subst e
    have hx := y zs.reverse (SqT.of ht)
    refine ⟨hlt, x, ?_, ⟨e3, hx⟩, fun H2 hb => ?_⟩
    · rw [List.getElem?_set_self hl]
    · exact ⟨rfl, fun _ _ z => z, hb q _ ht, by rw [List.length_set]; exact hl⟩
  · have e : i = zs.length := by omega
    subst e
    exact .inl ⟨⟨zs.reverse, SqT.of ht, by rw [List.length_reverse]; exact Nat.le_refl _⟩, nx σ _ _ e3⟩
/-- a comprehension over it -/
theorem lcB_it {S0 : Hp → Prop} {t : Addr} {zs : List V} {g : TG} {tt : TT} {te : TE} {vs : List Nat} {σ : L2.St} {H1 : Hp} {D : Addr} {Qd : Hp → Prop} (Pv : Nat → Hp → Prop) (h0 : Pv 0 (upd H1 D (.lst []))) (st : (revG S0 t zs).start (upd H1 D (.lst []))) (up : ∀ i H H', Pv i H → Same H H' → Pv i H')
    (hs : ∀ i x H, i < zs.length → Pv i H → zs.reverse[i]? = some x → g x (wipe σ vs) H fun σ2 H2 => wipe σ2 vs = wipe σ vs ∧ tt σ2 H2 fun b H3 =>
      if b = true then te σ2 H3 fun y H4 => ∃ acc, H4 D = some (.lst acc) ∧ acc.length < sizeLine ∧ Tk H (upd H4 D (.lst (acc ++ [y]))) ∧ Pv (i + 1) (upd H4 D (.lst (acc ++ [y]))) else Tk H H3 ∧ Pv (i + 1) H3) (hd : ∀ H, Pv zs.length H → Qd H) :
    (revG S0 t zs).start (upd H1 D (.lst [])) ∧ ∃ W : Nat → Nat → Hp → Prop, (∃ m, W 0 m (upd H1 D (.lst []))) ∧ ∀ i m H, W i m H →
      (∀ H', (revG S0 t zs).fin i H H' → Qd H') ∧ ∀ x H', (revG S0 t zs).out i H x H' → ∃ Nx : Hp → Prop, (∀ H'', Nx H'' → (revG S0 t zs).back i H' H'' ∧ ∃ m', m' < m ∧ W (i + 1) m' H'') ∧ g x (wipe σ vs) H' fun σ2 H2 => wipe σ2 vs = wipe σ vs ∧ tt σ2 H2 fun b H3 =>
        if b = true then te σ2 H3 fun y H4 => ∃ acc, H4 D = some (.lst acc) ∧ acc.length < sizeLine ∧ Nx (upd H4 D (.lst (acc ++ [y]))) else Nx H3 := by
  refine ⟨st, fun i m H => m = zs.length - i ∧ i ≤ zs.length ∧ Pv i H, ⟨zs.length, by simp, Nat.zero_le _, h0⟩, ?_⟩
  rintro i m H ⟨rfl, hi, p⟩
  refine ⟨fun H' hf => ?_, fun x H' ho => ?_⟩
  · obtain ⟨s, e⟩ := hf
    subst e
    exact hd _ (up _ _ _ p s)
  · obtain ⟨s, hx⟩ := ho
    have hlt : i < zs.length := by
      have := (List.getElem?_eq_some_iff.mp hx).1
      rw [List.length_reverse] at this
      exact this
    exact ⟨fun H'' => Tk H' H'' ∧ Pv (i + 1) H'', fun H'' p' => ⟨p'.1, zs.length - (i + 1), by omega, rfl, hlt, p'.2⟩, hs i x H' hlt (up _ _ _ p s) hx⟩
def spEach (CC : Addr) : SpGn := fun vs gs => ∃ (p dx t : Addr) (zs : List V), vs = [.ref p] ∧ gs = tupG (fun H => H p = some (.ins CC dx (cfs t))) t zs
def spBack (CC : Addr) : SpGn := fun vs gs => ∃ (p dx t : Addr) (zs : List V), vs = [.ref p] ∧ gs = revG (fun H => H p = some (.ins CC dx (cfs t))) t zs
section
variable {P : Program} {w : World} {K : PySem.W.Frag} {mg : Str → Option Value} {base : Heap} {Cs : List Addr} {CR CC CL fL CP fP CS fS CM fM : Addr}
theorem gs_each : GScope ["self", "sample"] ["self"] (defScope s_ceach) := ⟨rfl, rfl, rfl, by decide +kernel, rfl, by decide +kernel, by decide +kernel⟩
theorem ok_each {f : Addr} {dV kV doc pm cdv ct oc : Value} {an od : Option Addr} {osl : Array (Option Value)} (lk : K.lookup f = some ⟨oc, od, .func (PySem.W.fnOf "each" "Clip.each" (defArgs s_ceach) (defBody s_ceach) (defScope s_ceach) dV kV doc pm an cdv ct), osl⟩) (hcd : PySem.W.codeIn K cdv "Clip.each" = true)
    (T : CTx P K mg Cs CR CC CL fL CP fP CS fS CM fM) : GDef P w K mg base 2 f (PySem.W.fnOf "each" "Clip.each" (defArgs s_ceach) (defBody s_ceach) (defScope s_ceach) dV kV doc pm an cdv ct) ["self"] (spEach CC) := by
  refine gdef_of (k := 0) lk hcd gs_each (by decide +kernel) (fun vs gs h => ?_) fun A outer L vs gs hr h => ?_
  · obtain ⟨p, dx, t, zs, rfl, _⟩ := h
    rfl
  · obtain ⟨p, dx, t, zs, rfl, rfl⟩ := h
    refine ⟨zs.length, tG1then (tG1for (iTup K (tFld K (tVar 0) "samples")) (gName 1) (tG1then (tG1yield (tupG (fun H => H p = some (.ins CC dx (cfs t))) t zs).prt zs.length (tVar 1)) tG1nil)) tG1nil, ?_, fun H h => ?_⟩
    · exact g1s_cons (g1_for (fun r => pi_tup (pe_fld (pv 0) rfl)) (fun r => pg_name (i := 1) gs_each.nd rfl (Or.inl rfl)) (g1s_cons (g1_yield (fun r => pv 1)) g1s_nil)) g1s_nil
    exact ⟨_, rfl, p, CC, dx, _, _, rfl, h.1, T.clC, T.nS, cfs_get t, t, rfl, ⟨_, SqT.of h.2⟩, for_tupG 1 h.2 (fun σ Hw => ⟨rfl, rfl⟩) (by show 1 < 2; decide)⟩
end
end My
/-! pick, the pen's cells at a known place -/
namespace My
open PySem PySem.Spec PyProof.Rows L2
def spPickC : Sp := fun vs H Q _ => ∃ (pn cl l : Addr) (n : Nat) (xs : List V), vs = [.ref pn, .ref l] ∧ H l = some (.lst xs) ∧ l ≠ pn ∧ 0 < xs.length ∧ xs.length ≤ 1000 ∧ PenC H pn cl n ∧ n < 100000 ∧
  ∀ (v : V) (H' : Hp), v ∈ xs → PenC H' pn cl (n + 1) → But pn H H' → Q v H'
section
variable {P : Program} {w : World} {K : PySem.W.Frag} {mg : Str → Option Value} {base : Heap}
theorem ok_pickC {f : Addr} {fd : FuncData} (F : Fun K "_law_pick" "_law_pick" s_pick f fd) (T : BI mg) (D_draw : DefAt P w K mg base CX0 1 "_law_draw" ["_law_pen_here", "_law_many"] spDrawC) : FnOk P w K mg base CX0 2 f fd ["_law_pen_here", "_law_some"] spPickC := by
  refine F.ok sc_pick (fun vs H Q E h => ?_) (fun cdv A outer s H vs Q E hr h => ?_)
  · obtain ⟨pn, cl, l, n, xs, rfl, _⟩ := h
    rfl
  · obtain ⟨pn, cl, l, n, xs, rfl, hl, nl, h0, h1, hp, hn, k⟩ := h
    refine ⟨_, (pss_one (ps_ret (pe_ix ix_list (pv 1) (My.pe_d D_draw (hr.mono (by decide)) (by rfl) pass0 (pa_cons (pv 0) (pa_cons (pe_callB call_len (by rfl) T.z_len PySem.boot_len (pa_cons (pv 1) pa_nil)) pa_nil))) (fun _ _ => rfl)))), ?_⟩
    refine ⟨_, rfl, _, rfl, _, rfl, _, _, rfl, .inl ⟨_, SqL.of hl, rfl⟩, pn, cl, _, n, rfl, by omega, ?_, hp, hn, fun d H' d0 d1 hp' hb => ?_⟩
    · refine Nat.lt_of_lt_of_le (PySem.Flt.log2_lt_of (k := 10) (by decide) ?_) (by decide)
      show xs.length < 1024
      omega
    · obtain ⟨v, hv⟩ : ∃ v, xs[d.toNat]? = some v := ⟨_, List.getElem?_eq_getElem (by omega)⟩
      refine ⟨l, _, _, v, rfl, rfl, SqL.of (hb l _ hl nl), at_of (j := d.toNat) (by omega) hv, ?_⟩
      exact k v H' (List.mem_of_getElem? hv) hp' hb
end
end My
/-! Texts as lists of signs: numbers written and read, slices, words. -/
namespace TX
open PySem PySem.Spec PyProof.Rows L2 TL
def isDig (c : Nat) : Bool := decide (48 ≤ c) && decide (c ≤ 57)
theorem isDig_iff {c : Nat} : isDig c = true ↔ 48 ≤ c ∧ c ≤ 57 := by
  unfold isDig
  rw [Bool.and_eq_true, decide_eq_true_iff, decide_eq_true_iff]
theorem dig_mem (c : Nat) : decide (c ∈ tl ("0123456789" : Str)) = isDig c := by
  have e : tl ("0123456789" : Str) = [48, 49, 50, 51, 52, 53, 54, 55, 56, 57] := by decide +kernel
  rw [e]
  by_cases h : 48 ≤ c ∧ c ≤ 57
  · rw [isDig_iff.mpr h]
    have : c = 48 ∨ c = 49 ∨ c = 50 ∨ c = 51 ∨ c = 52 ∨ c = 53 ∨ c = 54 ∨ c = 55 ∨ c = 56 ∨ c = 57 := by omega
    refine decide_eq_true ?_
    simpa using this
  · have h2 : isDig c = false := by
      rw [Bool.eq_false_iff]
      exact fun z => h (isDig_iff.mp z)
    rw [h2]
    refine decide_eq_false fun z => h ?_
    have z : c = 48 ∨ c = 49 ∨ c = 50 ∨ c = 51 ∨ c = 52 ∨ c = 53 ∨ c = 54 ∨ c = 55 ∨ c = 56 ∨ c = 57 := by simpa using z
    omega
/-- the signs may stand for a number of at most 60 figures -/
def okD (l : List Nat) : Bool := decide (1 ≤ l.length) && (decide (l.length ≤ 60) && l.all isDig)
/-- .. without zeros ahead -/
def dg (l : List Nat) : Option Int := if okD l = true then (if 1 < l.length ∧ l.head? = some 48 then none else some ((NumText.digitsVal l : Nat) : Int)) else none
theorem okD_all {l : List Nat} (h : okD l = true) : 1 ≤ l.length ∧ l.length ≤ 60 ∧ NumText.AllDigits l := by
  unfold okD at h
  rw [Bool.and_eq_true, Bool.and_eq_true, decide_eq_true_iff, decide_eq_true_iff, List.all_eq_true] at h
  exact ⟨h.1, h.2.1, fun c hc => isDig_iff.mp (h.2.2 c hc)⟩
theorem okD_of {l : List Nat} (h1 : 1 ≤ l.length) (h2 : l.length ≤ 60) (h3 : NumText.AllDigits l) : okD l = true := by
  unfold okD
  rw [Bool.and_eq_true, Bool.and_eq_true, decide_eq_true_iff, decide_eq_true_iff, List.all_eq_true]
  exact ⟨h1, h2, fun c hc => isDig_iff.mpr (h3 c hc)⟩
theorem int_of {x : Str} (h : okD (tl x) = true) : intText? x = some ((NumText.digitsVal (tl x) : Nat) : Int) ∧ x.length ≤ 640 := by
  obtain ⟨h1, h2, h3⟩ := okD_all h
  rw [← len_tl] at h1 h2
  refine ⟨intText_digits h3 (fun z => ?_) (by omega), by omega⟩
  rw [len_tl] at h1
  have : (tl x).length = 0 := by
    show x.cps.toList.length = 0
    rw [z]
    rfl
  omega
theorem val_lt : ∀ (l : List Nat) (a : Nat), NumText.AllDigits l → l.foldl (fun acc c => acc * 10 + (c - 48)) a < (a + 1) * 10 ^ l.length
  | [], a, _ => by
    show a < (a + 1) * 1
    omega
  | c :: l, a, h => by
    have hc := h.head
    have ih := val_lt l (a * 10 + (c - 48)) h.tail
    show l.foldl _ (a * 10 + (c - 48)) < (a + 1) * 10 ^ (l.length + 1)
    have e : (a + 1) * 10 ^ (l.length + 1) = ((a + 1) * 10) * 10 ^ l.length := by rw [Nat.pow_succ, Nat.mul_assoc, Nat.mul_comm (10 ^ l.length)]
    rw [e]
    exact Nat.lt_of_lt_of_le ih (Nat.mul_le_mul_right _ (by omega))
theorem dg_lt {l : List Nat} {z : Int} (h : dg l = some z) : 0 ≤ z ∧ z < 10 ^ 60 := by
  unfold dg at h
  split at h
  · rename_i ok
    obtain ⟨h1, h2, h3⟩ := okD_all ok
    split at h
    · cases h
    · have e := Option.some.inj h
      have v := val_lt l 0 h3
      have p : (0 + 1) * 10 ^ l.length ≤ 10 ^ 60 := by
        rw [Nat.zero_add, Nat.one_mul]
        exact Nat.pow_le_pow_right (by decide) h2
      have q : NumText.digitsVal l < 10 ^ 60 := Nat.lt_of_lt_of_le v p
      have r : ((10 ^ 60 : Nat) : Int) = (10 : Int) ^ 60 := by simp
      rw [← e, ← r]
      omega
  · cases h
theorem numL_head {n : Nat} (h : 0 < n) : (numL n).head? ≠ some 48 := by
  induction n using Nat.strongRecOn with
  | _ n ih =>
    by_cases c : n < 10
    · rw [numL_lt c]
      intro z
      have := Option.some.inj z
      omega
    · rw [numL_step (by omega)]
      have g := ih (n / 10) (by omega) (by omega)
      cases e : numL (n / 10) with
      | nil => exact absurd e (numL_ne _)
      | cons a l =>
        rw [e] at g
        exact g
theorem dg_num {n : Nat} (h : n < 10 ^ 60) : dg (numL n) = some (n : Int) := by
  have l1 : 1 ≤ (numL n).length := by
    have := numL_ne n
    cases e : numL n with
    | nil => exact absurd e this
    | cons c l => exact Nat.succ_le_succ (Nat.zero_le _)
  unfold dg
  rw [if_pos (okD_of l1 (numL_len (by decide) h) (numL_digits n)), if_neg ?_, numL_val]
  rintro ⟨g1, g2⟩
  by_cases z : 0 < n
  · exact numL_head z g2
  · have : n = 0 := by omega
    rw [this, numL_lt (by decide)] at g1
    exact absurd g1 (by decide)
/-! ### slices -/
theorem tl_S (l : List Nat) : tl (⟨l.toArray⟩ : Str) = l := rfl
theorem cut_to1 (x : Str) : tl (cutS x none (some 1)) = (tl x).take 1 := by
  show ((tl x).drop 0).take (HT.sIx x.length x.length (some ((1 : Nat) : Int)) - 0) = _
  rw [HT.sIx_nat, List.drop_zero, Nat.sub_zero, len_tl]
  by_cases h : 1 ≤ (tl x).length
  · rw [Nat.min_eq_left h]
  · rw [Nat.min_eq_right (by omega), List.take_of_length_le (Nat.le_refl _), List.take_of_length_le (by omega)]
theorem cut_from1 (x : Str) : tl (cutS x (some 1) none) = (tl x).drop 1 := by
  show ((tl x).drop (HT.sIx x.length 0 (some ((1 : Nat) : Int)))).take (HT.sIx x.length x.length none - HT.sIx x.length 0 (some ((1 : Nat) : Int))) = _
  rw [HT.sIx_nat, HT.sIx_none, len_tl]
  by_cases h : 1 ≤ (tl x).length
  · rw [Nat.min_eq_left h, List.take_of_length_le (by rw [List.length_drop]; exact Nat.le_refl _)]
  · have e : tl x = [] := List.eq_nil_of_length_eq_zero (by omega)
    rw [e]
    rfl
theorem sIx_m1 (n d : Nat) : HT.sIx n d (some (-1)) = n - 1 := by
  have e : HT.sIx n d (some (-1)) = ((-1 : Int) + (n : Int)).toNat := by
    unfold HT.sIx
    exact if_pos (by decide)
  rw [e]
  omega
theorem cut_last (x : Str) : tl (cutS x (some (-1)) none) = (tl x).drop ((tl x).length - 1) := by
  show ((tl x).drop (HT.sIx x.length 0 (some (-1)))).take (HT.sIx x.length x.length none - HT.sIx x.length 0 (some (-1))) = _
  rw [sIx_m1, HT.sIx_none, len_tl, List.take_of_length_le (by rw [List.length_drop]; exact Nat.le_refl _)]
theorem cut_but (x : Str) : tl (cutS x none (some (-1))) = (tl x).dropLast := by
  show ((tl x).drop 0).take (HT.sIx x.length x.length (some (-1)) - 0) = _
  rw [sIx_m1, List.drop_zero, Nat.sub_zero, len_tl, List.dropLast_eq_take]
theorem tl_eq {x y : Str} : x = y ↔ tl x = tl y := ⟨fun h => by rw [h], ext_tl⟩
theorem str_eq {x y : Str} : decide (V.str x = V.str y) = decide (tl x = tl y) := by
  by_cases h : tl x = tl y
  · rw [decide_eq_true h, ext_tl h, decide_eq_true rfl]
  · rw [decide_eq_false h, decide_eq_false fun z => h (by rw [V.str.inj z])]
theorem beq_str {x y : Str} : (x == y) = decide (tl x = tl y) := by
  by_cases h : tl x = tl y
  · rw [decide_eq_true h, ext_tl h, beq_self_eq_true]
  · rw [decide_eq_false h]
    rw [Bool.eq_false_iff]
    intro z
    exact h (by rw [beq_iff_eq.mp z])
/-! ### numbers written -/
theorem tl_nat (n : Nat) : tl (Str.ofString (toString ((n : Nat) : Int))) = numL n := tl_num n
theorem tl_neg (m : Nat) : tl (Str.ofString (toString (-((m + 1 : Nat) : Int)))) = 45 :: numL (m + 1) := by
  have e : (-((m + 1 : Nat) : Int)) = Int.negSucc m := rfl
  rw [e]
  have e2 : (toString (Int.negSucc m) : String) = "-" ++ toString (m + 1) := rfl
  have e3 : (toString (m + 1) : String) = toString (((m + 1 : Nat)) : Int) := rfl
  rw [e2, e3, tl_ofString, String.toList_append, List.map_append]
  show [45] ++ _ = _
  rw [← tl_ofString, tl_num]
  rfl
/-- an int as signs -/
def intL (i : Int) : List Nat := if i < 0 then 45 :: numL i.natAbs else numL i.natAbs
theorem tl_int (i : Int) : tl (Str.ofString (toString i)) = intL i := by
  unfold intL
  by_cases h : i < 0
  · obtain ⟨m, rfl⟩ : ∃ m : Nat, i = -((m + 1 : Nat) : Int) := ⟨i.natAbs - 1, by omega⟩
    rw [if_pos h, tl_neg, Int.natAbs_neg, Int.natAbs_natCast]
  · obtain ⟨m, rfl⟩ : ∃ m : Nat, i = (m : Int) := ⟨i.natAbs, by omega⟩
    rw [if_neg h, tl_num, Int.natAbs_natCast]
theorem intL_free {i : Int} {s : Nat} (h : s < 48 ∨ 57 < s) (h2 : s ≠ 45) : s ∉ intL i := by
  unfold intL
  split
  · intro z
    rcases List.mem_cons.mp z with z | z
    · exact h2 z
    · exact numL_free h z
  · exact numL_free h
end TX
/-! A text split at one sign: how many parts, how long. -/
namespace TX
open PySem PySem.Spec PyProof.Rows L2 TL
theorem split1_ne {x y : Str} {s : Nat} (ey : tl y = [s]) (hk : y.cps.all (· < 256) = true) : ∃ w ws, (Txt.split x y).map tl = w :: ws := by
  rw [split_spl x y (by rw [ey]; simp) (kind_ok hk), ey]
  have : ∀ (l acc : List Nat) (k : Nat), ∃ w ws, spl [s] k acc l = w :: ws := by
    intro l
    induction l with
    | nil => intro acc k; exact ⟨acc, [], spl_nil _ _ _⟩
    | cons c r ih =>
      intro acc k
      cases k with
      | zero =>
        by_cases h : pre [s] (c :: r) = true
        · exact ⟨acc, _, spl_hit h⟩
        · rw [spl_miss (by simpa using h)]
          exact ih _ _
      | succ k =>
        show ∃ w ws, spl [s] k acc r = w :: ws
        exact ih _ _
  exact this _ _ _
theorem spl1_len (s : Nat) : ∀ (l acc : List Nat) (k : Nat), (spl [s] k acc l).length ≤ l.length + 1 ∧ ((spl [s] k acc l).map List.length).sum ≤ acc.length + l.length
  | [], acc, k => by
    rw [spl_nil]
    show 1 ≤ 1 ∧ acc.length + 0 ≤ acc.length + 0
    omega
  | c :: r, acc, 0 => by
    by_cases h : pre [s] (c :: r) = true
    · rw [spl_hit h]
      have := spl1_len s r [] ([s].length - 1)
      show (spl [s] _ [] r).length + 1 ≤ r.length + 1 + 1 ∧ acc.length + ((spl [s] _ [] r).map List.length).sum ≤ acc.length + (r.length + 1)
      have e : ([] : List Nat).length = 0 := rfl
      omega
    · rw [spl_miss (by simpa using h)]
      have := spl1_len s r (acc ++ [c]) 0
      rw [List.length_append] at this
      have e : ([c] : List Nat).length = 1 := rfl
      rw [List.length_cons]
      omega
  | c :: r, acc, k + 1 => by
    have := spl1_len s r acc k
    show (spl [s] k acc r).length ≤ r.length + 1 + 1 ∧ ((spl [s] k acc r).map List.length).sum ≤ acc.length + (r.length + 1)
    omega
theorem mem_sum1 : ∀ {l : List Nat} {n : Nat}, n ∈ l → n ≤ l.sum
  | a :: l, n, h => by
    rw [List.sum_cons]
    rcases List.mem_cons.mp h with rfl | h
    · omega
    · have := mem_sum1 h
      omega
/-- the words of a text: how many, how long -/
theorem split1_len {x y : Str} {s : Nat} (ey : tl y = [s]) (hk : y.cps.all (· < 256) = true) : (Txt.split x y).length ≤ x.length + 1 ∧ ((Txt.split x y).map (·.length)).sum ≤ x.length ∧ ∀ z ∈ Txt.split x y, z.length ≤ x.length := by
  have e := split_spl x y (by rw [ey]; simp) (kind_ok hk)
  rw [ey] at e
  have h := spl1_len s (tl x) [] 0
  rw [← e, List.length_map, List.map_map, ← len_tl] at h
  have em : (Txt.split x y).map (List.length ∘ tl) = (Txt.split x y).map (·.length) := List.map_congr_left fun z _ => (len_tl z).symm
  rw [em] at h
  have e0 : ([] : List Nat).length = 0 := rfl
  refine ⟨h.1, by omega, fun z hy => ?_⟩
  have := mem_sum1 (List.mem_map_of_mem (f := fun z : Str => z.length) hy)
  omega
theorem split1_spl {x y : Str} {s : Nat} (ey : tl y = [s]) (hk : y.cps.all (· < 256) = true) : (Txt.split x y).map tl = spl [s] 0 [] (tl x) := by
  rw [split_spl x y (by rw [ey]; simp) (kind_ok hk), ey]
end TX
/-! xs[i] += e of a list; a class called through a local name with *e. -/
namespace My
open PySem PySem.Spec PyProof.Rows L2
theorem get_list {X : Cx} : PGet X (rIxL X.K) := by
  intro pins s σ H x y v u Q I rx ry h
  obtain ⟨p, xs, i, z, rfl, rfl, hq, he, q⟩ := h
  cases rx
  obtain ⟨t, rfl⟩ := ry
  obtain ⟨its, r, pl, hz⟩ := I.list hq
  obtain ⟨j, h1, h2, h3, h4, h5⟩ := atI_get he
  obtain ⟨w, ew, rw'⟩ := r.get h2
  have hl := r.length
  have hn := line63
  have fin : EP X pins σ Q w s := ⟨z, H, I, rw', q⟩
  by_cases h0 : 0 ≤ i
  · have hj : i.toNat = j := by
      rw [seqIndex_of h0 h5] at h1
      exact Option.some.inj h1
    exact wpAny_getItem_list pl.isList h0 (by omega) (by rw [hj]; simpa using ew) fin
  · have hj : (i + (its.toArray.size : Int)).toNat = j := by
      rw [seqIndex_neg (by omega) h4] at h1
      rw [List.size_toArray, ← hl]
      exact Option.some.inj h1
    exact wpAny_getItem_list_neg pl.isList (by omega) (by rw [List.size_toArray] <;> omega) (by omega) (by rw [hj]; simpa using ew) fin
section
variable {X : Cx} {CX : CXT} {k : Nat} {C : Addr} {sp : Sp} {E : XK} {x : Str} {e fe : Expr} {te tf : TE} {sp_ pos : Pos}
/-- f(*e), f a local name that holds the class at C -/
def tMkLS (K : PySem.W.Frag) (C : Addr) (sp : Sp) (E : XK) (tf te : TE) : TE := fun σ H Q => tf σ H fun y H1 => y = .ref C ∧ tMakeS K C sp E te σ H1 Q
theorem pe_mkLS (M : MakeR X.prog X.w X.K X.mg X.base CX k x C sp) (hr : Room (k + 1) X.A) (hx : Passes CX X E) (hf : PE X fe tf) (he : PE X e te)
    (ht : eval (.Call fe [.Starred e sp_] [] pos) X.env = (do callWith pos (← eval fe X.env) [] (backTo pos (starEach [.Starred e sp_] X.env)) (backToKw pos (keywordEach [] X.env))) := by rfl)
    (hst : starEach [.Starred e sp_] X.env = [(true, eval e X.env)] := by rfl) : PE X (.Call fe [.Starred e sp_] [] pos) (tMkLS X.K C sp E tf te) := by
  obtain ⟨f, mk, F, hm⟩ := M.ex
  refine ⟨fun pins s σ H Q I h => ?_⟩
  refine Call_ (thn (hf.run pins s σ H _ I h) fun u s0 ⟨y0, H0, I0, ry0, ey0, q0⟩ => ?_) ht
  subst ey0
  obtain rfl : u = Value.ref C := ry0
  refine PySem.W.callWith_S (h₀ := X.base) I0.ok.mod.kin mk.kp (thn (he.run pins s0 σ H0 _ I0 q0) fun v t1 ⟨y, H1, I1, ry, a, xs, ey, hxs, q⟩ => ?_) hst
  subst ey
  obtain rfl : v = Value.ref a := ry
  exact StX.star_any I1 hxs fun us t2 I2 rv => ⟨I2.kIn, StX.run_makeR mk F hr hx I2 rv q⟩
/-- .. within a lambda or a comprehension, where the reading may not name the context -/
theorem op_cmpOB {X : Cx} {K : PySem.W.Frag} {CX : CXT} {k : Nat} {C : Addr} {m : Str} {ps : List Str} {sp : Sp} {E : XK} {op : CmpOp} (hK : X.K = K) (M : CmpAt X.prog X.w X.K X.mg X.base CX k C m ps sp) (hr : Room k X.A) (hx : Passes CX X E) (hop : (cmpInfo op).2.1 = m := by rfl)
    (hco : ∀ v u, compareOp op v u = richCompare op v u := by intro _ _; rfl) : OpR X (compareOp op) (rCmpO K C sp E) := hK ▸ op_cmpO M hr hx hop hco
end
end My
/-! == and != of data with any texts. -/
namespace My
open PySem PySem.Spec PyProof.Rows L2
section
variable {X : Cx}
def rEqP (K : PySem.W.Frag) : R2 := fun x y H Q => ∃ d e, Dp K H x d ∧ Dp K H y e ∧ d.plain = true ∧ e.plain = true ∧ min d.depth e.depth ≤ 60 ∧ Q (.bl (PyData.eqv d e)) H
def rNeP (K : PySem.W.Frag) : R2 := fun x y H Q => ∃ d e, Dp K H x d ∧ Dp K H y e ∧ d.plain = true ∧ e.plain = true ∧ min d.depth e.depth ≤ 60 ∧ Q (.bl (!PyData.eqv d e)) H
theorem op_eqP (hu : X.A.units + 64 < cLine) : OpR X (compareOp .Eq) (rEqP X.K) := by
  intro pins s σ H x y v u Q I rx ry h
  obtain ⟨d, e, hd, he, sd, se, dp, q⟩ := h
  obtain ⟨as, r1⟩ := Dp.reads I d x v hd rx
  obtain ⟨bs, r2⟩ := Dp.reads I e y u he ry
  exact SeqAt.eq_plain r1 r2 sd se (by omega) ⟨.bl _, H, I, rfl, q⟩
theorem op_neP (hu : X.A.units + 64 < cLine) : OpR X (compareOp .NotEq) (rNeP X.K) := by
  intro pins s σ H x y v u Q I rx ry h
  obtain ⟨d, e, hd, he, sd, se, dp, q⟩ := h
  obtain ⟨as, r1⟩ := Dp.reads I d x v hd rx
  obtain ⟨bs, r2⟩ := Dp.reads I e y u he ry
  exact SeqAt.ne_plain r1 r2 sd se (by omega) ⟨.bl _, H, I, rfl, q⟩
theorem plain_strs : ∀ zs : List Str, PyData.plainAll (zs.map PyData.str) = true
  | [] => rfl
  | z :: zs => by
    show (true && PyData.plainAll (zs.map PyData.str)) = true
    rw [plain_strs zs]
    rfl
end
end My
/-! A class made through a local name; classmethods called by keywords. -/
namespace My
open PySem PySem.Spec PySem.Calls PyProof.Rows L2 ClX
section
variable {X : Cx} {CX : CXT} {k : Nat} {C : Addr} {ps ks : List Str} {sp : Sp} {E : XK} {x m : Str} {e o fe : Expr} {es : List Expr} {kws : List Keyword} {t tk : TA} {ta tf : TE} {p pos apos : Pos} {dvs : List V} {gV : List V → List V → List V}
/-- f(e, ..), f a local name that holds the class at C -/
def tMkL (C : Addr) (sp : Sp) (dvs : List V) (E : XK) (tf : TE) (t : TA) : TE := fun σ H Q => tf σ H fun y H1 => y = .ref C ∧ tMake C sp dvs E t σ H1 Q
theorem pe_mkL (M : MakeAt X.prog X.w X.K X.mg X.base CX k x C ps sp dvs) (hr : Room (k + 1) X.A) (hx : Passes CX X E) (hf : PE X fe tf) (ha : PA X (e :: es) t)
    (ht : eval (.Call fe (e :: es) [] pos) X.env = (do callWith pos (← eval fe X.env) [] (backTo pos (starEach (e :: es) X.env)) (backToKw pos (keywordEach [] X.env))) := by rfl)
    (hs : starEach (e :: es) X.env = (false, eval e X.env) :: starEach es X.env := by rfl) (hpl : (backTo pos (starEach es X.env)).any (·.1) = false := by rfl) : PE X (.Call fe (e :: es) [] pos) (tMkL C sp dvs E tf t) := by
  obtain ⟨f, fd, ds, mk, F, hm, b, d⟩ := M.ex
  refine ⟨fun pins s σ H Q I h => ?_⟩
  refine Call_ (thn (hf.run pins s σ H _ I h) fun u s1 ⟨y, H1, I1, ry, ey, q⟩ => ?_) ht
  subst ey
  obtain rfl : u = Value.ref C := ry
  refine PySem.W.callWith_K (first := []) (h₀ := X.base) I1.ok.mod.kin mk.kp (thn (ha.run pos pins s1 σ H1 _ I1 q) fun us s2 ⟨vs, H2, I2, r, q2⟩ => ⟨I2.kIn, ?_⟩) hs hpl
  exact run_make mk F hr b d hx I2 r q2
/-- a classmethod by keywords alone -/
structure ClsK (P : Program) (w : World) (K : PySem.W.Frag) (mg : Str → Option Value) (base : Heap) (CX : CXT) (k : Nat) (C : Addr) (m : Str) (ps ks : List Str) (sp : Sp) (gV : List V → List V → List V) : Prop where
  ex : ∃ mc p g fd gg, ClX.CRead K C mc ∧ ClX.CMet K C mc m p g ∧ FnOk P w K mg base CX k g fd ps sp ∧ KBn K fd ps 1 ks gg gV
def tClsK (C : Addr) (j : Nat) (sp : Sp) (gV : List V → List V → List V) (E : XK) (ta : TE) (tk : TA) : TE := fun σ H Q => ta σ H fun x H1 => x = .ref C ∧ tk σ H1 fun zs H2 => zs.length = j ∧ sp (gV [.ref C] zs) H2 Q E
theorem pe_cmK {pl : Sem Bool} (M : ClsK X.prog X.w X.K X.mg X.base CX k C m ps ks sp gV) (hr : Room k X.A) (hx : Passes CX X E) (he : PE X o ta) (hkw : PK X kws tk)
    (hall : (backToKw pos (keywordEach kws X.env)).all (·.1.isSome) = true := by rfl) (hks : (backToKw pos (keywordEach kws X.env)).filterMap (·.1) = ks := by rfl)
    (hpl : ((backTo pos (starEach [] X.env)).any (·.1) || (backToKw pos (keywordEach kws X.env)).any (·.1.isNone)) = false := by rfl)
    (ht : eval (.Call (.Attribute o m apos) [] kws pos) X.env = (do
      let ov ← eval o X.env
      standAt apos.atName
      let (f, first) ← holding [ov] (getMethod ov m pl)
      callWith pos f first (backTo pos (starEach [] X.env)) (backToKw pos (keywordEach kws X.env))) := by rfl) :
    PE X (.Call (.Attribute o m apos) [] kws pos) (tClsK C ks.length sp gV E ta tk) := by
  obtain ⟨mc, p, g, fd, gg, r, c, F, b⟩ := M.ex
  refine ⟨fun pins s σ H Q I h => ?_⟩
  refine PySem.W.methodCall_KW (pl := pl) (thn (he.run pins s σ H _ I h) fun u s1 ⟨x, H1, I1, rx, ex, q⟩ => ?_) ht
  subst ex
  obtain rfl : u = Value.ref C := rx
  refine getmethcm_ok I1 r c fun s2 I2 => ?_
  refine PySem.W.callWith_of (P := PySem.W.MethP X.K s1.heap.objs.size g (.ref C)) hpl (PySem.W.keeps_M c.fi) (evalArgs_kw2_nil hall (thn (hkw.run pos _ s2 σ H1 _ I2 q) fun ws s3 ⟨zs, H2, I3, rz, l2, q2⟩ => ⟨⟨pin_at I3, I3.kIn⟩, ?_⟩))
  rw [hks]
  have r2 := b.rel (vs := [V.ref C]) (us := [Value.ref C]) (.cons rfl .nil) rz
  have z : wpAny (model X.prog X.w) X.A (call (.ref s1.heap.objs.size) [] (ks.zip ws)) (EP X ((s1.heap.objs.size, PySem.W.methodObj (.ref g) (.ref C)) :: pins) σ Q) X.xe s3 :=
    wpAny_call (PySem.W.method_call (pin_at I3) (codeAny_mono (F.run X.A X.stack s3 H2 ⟨[.ref C], ks.zip ws⟩ (gg [.ref C] ws) (gV [.ref C] zs) Q E hr I3.env0 (b.to s3 [.ref C] ws I3.kIn rfl (rz.length.symm.trans l2)) r2 q2) fun r s' hq => by
      match r, hq with
      | .error e, hq => exact hx _ σ H2 s3 e s' I3 hq
      | .ok (.ret z), hq => exact I3.after hq
      | .ok .next, hq => exact False.elim hq
      | .ok .brk, hq => exact False.elim hq
      | .ok .cont, hq => exact False.elim hq))
  exact thn z fun _ _ y => unpinE y
end
theorem nm2_line_word : Sup.Nm2 "line" "word" := ⟨by decide, by decide, by decide, by decide, by decide, by decide, by decide, by decide, by decide, by decide, fun _ _ _ _ _ _ _ _ _ _ _ _ _ _ => rfl⟩
theorem clsK_at {P : Program} {w : World} {K : PySem.W.Frag} {mg : Str → Option Value} {base : Heap} {CX : CXT} {k : Nat} {m qual : Str} {st : Stmt} {ps ks : List Str} {sp : Sp} {C : Addr} {gV : List V → List V → List V} {g : List Value → List Value → List Value} (A : HasCM K C m qual st) (ok : ∀ f fd, Fun K m qual st f fd → FnOk P w K mg base CX k f fd ps sp)
    (b : ∀ (kV doc pm : Value) (an : Option Addr) (cdv ct : Value) (us ws : List Value), us.length = 1 → ws.length = ks.length → bindArgs (PySem.W.fnOf m qual (defArgs st) (defBody st) (defScope st) .none kV doc pm an cdv ct) ⟨us, ks.zip ws⟩ = pure (ps.zip (g us ws)))
    (r : ∀ {vs : List V} {us : List Value} {zs : List V} {ws : List Value}, Vals vs us → Vals zs ws → Vals (gV vs zs) (g us ws)) : ClsK P w K mg base CX k C m ps ks sp gV := by
  obtain ⟨mc, p, f, fd, h1, h2, F⟩ := A.ex
  obtain ⟨oc, od, kV, doc, pm, an, cdv, ct, osl, rfl, lk, _⟩ := id F.ex
  exact ⟨mc, p, f, _, g, h1, h2, ok f _ F, ⟨fun s us ws _ l1 l2 => .of_eq (b kV doc pm an cdv ct us ws l1 l2), r⟩⟩
end My
/-! t == (), t a tuple of any things. -/
namespace My
open PySem PySem.Spec PyProof.Rows L2
def rEqT0 (K : PySem.W.Frag) : R2 := fun x y H Q => ∃ a b xs, x = .ref a ∧ y = .ref b ∧ SqT K H a xs ∧ SqT K H b [] ∧ Q (.bl (decide (xs = []))) H
theorem op_eqT0 {X : Cx} {n : Nat} (hr : Room n X.A) : OpR X (compareOp .Eq) (rEqT0 X.K) := by
  intro pins s σ H x y v u Q I rx ry h
  obtain ⟨a, b, xs, rfl, rfl, ha, hb, q⟩ := h
  cases (show v = Value.ref a from rx)
  cases (show u = Value.ref b from ry)
  obtain ⟨us, r1, p1, _⟩ := I.tuple ha
  obtain ⟨ws, r2, p2, _⟩ := I.tuple hb
  cases r2
  refine SeqAt.eq_tupleAt (e := fun _ => true) p1 p2 hr.units0 (fun j h1 h2 => absurd h2 (Nat.not_lt_zero _)) ?_
  have e : ((List.range (min us.toArray.size ([] : List Value).toArray.size)).all (fun _ => true) && us.toArray.size == ([] : List Value).toArray.size) = decide (xs = []) := by
    cases r1 with
    | nil => rfl
    | cons p q =>
      rw [decide_eq_false (fun z => nomatch z)]
      simp
  rw [e]
  exact ⟨.bl _, H, I, rfl, q⟩
end My
/-! Static methods with *args, by the class's name. -/
namespace My
open PySem PySem.Spec PySem.Calls PyProof.Rows L2
theorem bind_star0 {B : List Value → Sem (List (Str × Value))} {pv : Str} (h0 : B [] = (newTuple [] >>= fun t => pure [(pv, t)])) (h1 : ∀ r rs, B (r :: rs) = (newTuple (r :: rs) >>= fun t => pure [(pv, t)])) :
    ∀ us rest : List Value, us.length = ([] : List Str).length → B (us ++ rest) = (newTuple rest >>= fun t => pure (([] : List Str).zip us ++ [(pv, t)]))
  | [], [], _ => h0
  | [], r :: rs, _ => h1 r rs
structure StatR (P : Program) (w : World) (K : PySem.W.Frag) (mg : Str → Option Value) (base : Heap) (CX : CXT) (k : Nat) (C : Addr) (m : Str) (sp : Sp) : Prop where
  ex : ∃ f, Stat K C m f ∧ FnR P w K mg base CX k f sp
section
variable {X : Cx} {CX : CXT} {k : Nat} {C : Addr} {sp : Sp} {E : XK} {m : Str} {e o : Expr} {es : List Expr} {t : TA} {ta : TE} {pos apos : Pos}
theorem pe_stR {pl : Sem Bool} (M : StatR X.prog X.w X.K X.mg X.base CX k C m sp) (hr : Room k X.A) (hx : Passes CX X E) (he : PE X o ta) (ha : PA X (e :: es) t)
    (hst : starEach (e :: es) X.env = (false, eval e X.env) :: starEach es X.env := by rfl) (hpl : (backTo pos (starEach es X.env)).any (·.1) = false := by rfl)
    (ht : eval (.Call (.Attribute o m apos) (e :: es) [] pos) X.env = (do
      let ov ← eval o X.env
      standAt apos.atName
      let (f, first) ← holding [ov] (getMethod ov m pl)
      callWith pos f first (backTo pos (starEach (e :: es) X.env)) (backToKw pos (keywordEach [] X.env))) := by rfl) :
    PE X (.Call (.Attribute o m apos) (e :: es) [] pos) (tStat C sp E ta t) := by
  obtain ⟨f, c, F⟩ := M.ex
  refine ⟨fun pins s σ H Q I h => ?_⟩
  refine PySem.W.methodCall_KW (pl := pl) (thn (he.run pins s σ H _ I h) fun u s1 ⟨x, H1, I1, rx, ex, q⟩ => ?_) ht
  subst ex
  obtain rfl : u = Value.ref C := rx
  refine getstat_ok I1 c fun s1 I1 => ?_
  refine PySem.W.callWith_K (first := []) (h₀ := X.base) I.ok.mod.kin c.kp (thn (ha.run pos pins s1 σ H1 _ I1 q) fun us s2 ⟨vs, H2, I2, r, q2⟩ => ⟨I2.kIn, ?_⟩) hst hpl
  exact wpAny_call (run_fnR F hr hx I2 r q2)
/-- .. without arguments -/
theorem pe_stR0 {pl : Sem Bool} (M : StatR X.prog X.w X.K X.mg X.base CX k C m sp) (hr : Room k X.A) (hx : Passes CX X E) (he : PE X o ta)
    (ht : eval (.Call (.Attribute o m apos) [] [] pos) X.env = (do
      let ov ← eval o X.env
      standAt apos.atName
      let (f, first) ← holding [ov] (getMethod ov m pl)
      callWith pos f first (backTo pos (starEach [] X.env)) (backToKw pos (keywordEach [] X.env))) := by rfl) :
    PE X (.Call (.Attribute o m apos) [] [] pos) (tStat C sp E ta tNil) := by
  obtain ⟨f, c, F⟩ := M.ex
  refine ⟨fun pins s σ H Q I h => ?_⟩
  refine PySem.W.methodCall_KW (pl := pl) (thn (he.run pins s σ H _ I h) fun u s1 ⟨x, H1, I1, rx, ex, q⟩ => ?_) ht
  subst ex
  obtain rfl : u = Value.ref C := rx
  refine getstat_ok I1 c fun s1 I1 => ?_
  refine PySem.W.callWith_K0 (first := []) I1.kIn c.kp ?_
  exact wpAny_call (run_fnR F hr hx I1 .nil q)
end
end My
set_option pp.maxSteps 1500
set_option pp.deepTerms.threshold 8
/-! ### figures_of -/
namespace My
open PySem PySem.Spec PyProof.Rows L2 TX
abbrev s_figof : Stmt := topS 18
theorem sc_figof : FnScope ["text", "sign"] ["text"] (defScope s_figof) := ⟨rfl, rfl, rfl, by decide +kernel, rfl, by decide +kernel, by decide +kernel⟩
structure FTx (mg : Str → Option Value) (tM : Tok) : Prop extends BI mg where
  gMost : mg "MOST_DIGITS" = some (.int 60 tM)
  z_all : mg "all" = none
/-- an int or None -/
def optV : Option Int → V
  | none => .non
  | some k => .int k
def spWord (f : List Nat → Option Int) : Sp := fun vs H Q _ => ∃ x : Str, vs = [.str x] ∧ x.length ≤ 5000 ∧ ∀ H', Same H H' → Q (optV (f (TL.tl x))) H'
theorem atI_0 {xs : List Nat} {c : Nat} (h : xs[0]? = some c) : atI xs (0 : Int) = some c := by
  have hl : 0 < xs.length := (List.getElem?_eq_some_iff.mp h).1
  unfold atI ixN
  rw [if_pos (by decide), if_pos (by omega)]
  exact h
theorem sl5 {x : Str} (h : x.length ≤ 5000) : x.length ≤ sizeLine := by rw [sizeLine_eq]; omega
theorem ix_atN {n : Nat} {a : Int} (h0 : 0 ≤ a) (h1 : a.toNat < n) : ixN n a = some a.toNat := by
  unfold ixN
  rw [if_pos h0, if_pos (by omega)]
theorem at0 {a : V} {r : List V} : atI (a :: r) (0 : Int) = some a := by
  unfold atI ixN
  rw [if_pos (by decide), if_pos (by show (0 : Int) < ((r.length + 1 : Nat) : Int); omega)]
  rfl
theorem at1 {a b : V} {r : List V} : atI (a :: b :: r) (1 : Int) = some b := by
  unfold atI ixN
  rw [if_pos (by decide), if_pos (by show (1 : Int) < ((r.length + 1 + 1 : Nat) : Int); omega)]
  rfl
/-- the wish of BadText(0, n) -/
def ErrT (E : XK) (CT : Addr) (n : Int) (H : Hp) : Prop := ∀ (d : Addr) (H' : Hp), H d = none → H' d = some (.xd [("line", .int 0), ("word", .int n)]) → Same H H' → E (.ref CT) (some d) H'
theorem ErrT.go {E : XK} {CT : Addr} {n : Int} {H : Hp} (h : ErrT E CT n H) {d : Addr} (hd : H d = none) : E (.ref CT) (some d) (upd H d (.xd [("line", .int 0), ("word", .int n)])) := h d _ hd upd_same (same_new hd)
theorem ErrT.up {E : XK} {CT : Addr} {n : Int} {H H1 : Hp} (h : ErrT E CT n H) (s : Same H H1) : ErrT E CT n H1 := fun d H' hd hx s' => h d H' (s.free hd) hx (s.trans s')
theorem tl_no : TL.tl ("" : Str) = [] := by decide +kernel
section
variable {P : Program} {w : World} {K : PySem.W.Frag} {mg : Str → Option Value} {base : Heap} {tM : Tok}
theorem ok_figof {f : Addr} {fd : FuncData} (F : Fun K "figures_of" "figures_of" s_figof f fd) (T : FTx mg tM) : FnOk P w K mg base CX0 1 f fd ["text"] (spWord dg) := by
  refine F.ok sc_figof (fun vs H Q E h => ?_) (fun cdv A outer s H vs Q E hr h => ?_)
  · obtain ⟨x, rfl, _⟩ := h
    rfl
  · obtain ⟨x, rfl, hx, k⟩ := h
    refine ⟨_, (pss_cons (ps_if (PW.pt (pw_or (pt_cmpR op_eq (pv 0) pe_str (nomark _)) (pw_or (pt_cmpR op_gt (pe_callB call_len (by rfl) T.z_len PySem.boot_len (pa_cons (pv 0) pa_nil)) (pe_glob (v := .int 60) rfl T.gMost ⟨_, rfl⟩) (nomark _)) (pw_or1 (pt_not (pt_val (pe_callB (cr_all rfl) (by rfl) T.z_all boot_all (pa_cons (pe_lc (own := [("sign", 1)]) rfl sc_figof.nd (pi_str (pv 0)) (blkOk_by (by show blkC ["text", "sign"] (defScope s_figof) _ _ = true; decide +kernel)) (fun _ _ _ _ _ => (pg_name (i := 1) sc_figof.nd rfl (Or.inl rfl))) (fun _ _ _ _ _ => pts_nil) (fun _ _ _ _ _ => (pe_cmpR op_in_sign (pv 1) pe_str (by rfl)))) pa_nil)))))))) (pss_one (ps_ret pe_non)) pss_nil)
      (pss_one (ps_ret (pe_ifExp (PW.pt (pw_or (pt_cmpR op_eq (pv 0) pe_str (nomark _)) (pw_or1 (pt_cmpR op_ne (pe_ix ix_str (pv 0) pe_int (fun _ _ => rfl)) pe_str (nomark _))))) (pe_callTy call_int_str (by rfl) T.z_int boot_int (pa_cons (pv 0) pa_nil)) pe_non)))), ?_⟩
    have lx := TL.len_tl x
    have none_of : okD (TL.tl x) = false → ∀ H', Same H H' → Q .non H' := fun e H' s => by
      have z := k H' s
      unfold dg at z
      rw [if_neg (by rw [e]; decide)] at z
      exact z
    have bad1 : ¬ (1 ≤ x.length ∧ x.length ≤ 60) → okD (TL.tl x) = false := fun z => by
      rw [Bool.eq_false_iff]
      intro y
      obtain ⟨y1, y2, _⟩ := okD_all y
      omega
    refine ⟨_, rfl, rfl, _, rfl, ?_⟩
    rw [str_eq, tl_no]
    refine ite2 (fun c1 => ?_) (fun c1 => ?_)
    · have : x.length = 0 := by rw [lx, of_decide_eq_true c1]; rfl
      exact none_of (bad1 (by omega)) H fun _ _ e => e
    have l1 : 1 ≤ x.length := by
      rcases Nat.eq_zero_or_pos x.length with z | z
      · rw [lx] at z
        exact absurd (decide_eq_true (List.eq_nil_of_length_eq_zero z)) c1
      · exact z
    refine ⟨_, rfl, _, _, rfl, ⟨sl5 hx, rfl⟩, _, _, rfl, rfl, _, rfl, ite2 (fun c2 => ?_) (fun c2 => ?_)⟩
    · refine none_of (bad1 fun z => ?_) H fun _ _ e => e
      have := of_decide_eq_true c2
      omega
    have l2 : x.length ≤ 60 := by
      by_cases z : (x.length : Int) > 60
      · exact absurd (decide_eq_true z) c2
      · omega
    refine ⟨_, rfl, x, rfl, fun D hD => ?_⟩
    refine lc_it walk_str (fun i Hh => Hh D = some (.lst (((TL.tl x).take i).map fun c => V.bl (isDig c))) ∧ Same H Hh) ⟨upd_same, same_new hD⟩ (fun _ _ _ _ => trivial) ?_ ?_
    · rintro i v Hh H' hi ⟨g1, g2⟩ ⟨rfl, c, hc, rfl⟩
      have hc' : (TL.tl x)[i]? = some c := by
        rw [← hc]
        exact Array.getElem?_toList
      refine ⟨rfl, yes_go ⟨_, rfl, c, _, rfl, rfl, _, g1, ?_, ?_, ?_⟩⟩
      · rw [List.length_map, List.length_take, sizeLine_eq]
        omega
      · rw [take1 hc', List.map_append, dig_mem]
        exact upd_same
      · intro b o e
        rw [upd_ne (ne_of_none e hD)]
        exact g2 _ _ e
    rintro Hh ⟨g1, g2⟩
    have el : (TL.tl x).take x.cps.size = TL.tl x := List.take_of_length_le (by rw [← lx]; exact Nat.le_refl _)
    rw [el] at g1
    refine ⟨D, (TL.tl x).map isDig, rfl, SqL.of (by rw [List.map_map]; exact g1), _, rfl, ?_⟩
    have ea : ((TL.tl x).map isDig).all id = (TL.tl x).all isDig := by rw [List.all_map]; rfl
    rw [ea]
    have eo : okD (TL.tl x) = (TL.tl x).all isDig := by
      unfold okD
      rw [decide_eq_true (show 1 ≤ (TL.tl x).length by omega), decide_eq_true (show (TL.tl x).length ≤ 60 by omega), Bool.true_and, Bool.true_and]
    cases e : (TL.tl x).all isDig with
    | false => exact iteT (none_of (by rw [eo, e]) Hh g2)
    | true =>
      rw [e] at eo
      refine iteF ?_
      obtain ⟨n1, n2⟩ := int_of eo
      have kk := k Hh g2
      unfold dg at kk
      rw [if_pos eo] at kk
      have e0 : TL.tl ("0" : Str) = [48] := by decide +kernel
      refine ⟨_, rfl, rfl, _, rfl, ?_⟩
      rw [str_eq, e0]
      refine ite2 (fun c3 => ?_) (fun c3 => ?_)
      · rw [if_neg (fun z => by
          have := z.1
          rw [of_decide_eq_true c3] at this
          exact absurd this (by decide))] at kk
        exact ⟨_, rfl, x, _, rfl, n1, n2, kk⟩
      · obtain ⟨c, hc⟩ : ∃ c, (TL.tl x)[0]? = some c := ⟨_, List.getElem?_eq_getElem (by omega)⟩
        have hh : (TL.tl x).head? = some c := by rw [← hc]; cases TL.tl x <;> rfl
        have ha : atI x.cps.toList (0 : Int) = some c := atI_0 hc
        refine ⟨_, rfl, x, 0, c, rfl, rfl, sl5 hx, ha, rfl, _, rfl, ?_⟩
        rw [hh] at kk
        have en : (!decide (V.str ⟨#[c]⟩ = V.str "0")) = !decide (c = 48) := by
          rw [str_eq, e0]
          congr 1
          exact decide_eq_decide.mpr ⟨fun z => (List.cons.inj z).1, fun z => by rw [z]⟩
        rw [en]
        by_cases c4 : c = 48
        · rw [decide_eq_true c4]
          refine iteF ?_
          have long : 1 < (TL.tl x).length := by
            rcases Nat.lt_or_ge 1 (TL.tl x).length with z | z
            · exact z
            · exfalso
              refine c3 (decide_eq_true ?_)
              cases g : TL.tl x with
              | nil => rw [g] at hc; cases hc
              | cons a r =>
                rw [g] at z hc
                have zr : r.length = 0 := by
                  have : (a :: r).length = r.length + 1 := rfl
                  omega
                rw [List.eq_nil_of_length_eq_zero zr]
                have : a = c := Option.some.inj hc
                rw [this, c4]
          rw [if_pos ⟨long, by rw [c4]⟩] at kk
          exact kk
        · rw [decide_eq_false c4]
          rw [if_neg (fun z => c4 (Option.some.inj z.2))] at kk
          exact iteT ⟨_, rfl, x, _, rfl, n1, n2, kk⟩
end
theorem kstr {K : PySem.W.Frag} {H : Hp} {v : V} {t : String} (h : Ty0 H v t) : ∃ b, PySem.W.kitOne K (.type t) (.type "str") = some b ∧ (b = true → ∃ x, v = .str x) ∧ (b = false → ∀ x, v ≠ .str x) := by
  cases h with
  | non => exact ⟨false, kit_ty (by decide +kernel), (fun z => Bool.noConfusion z), fun _ _ z => nomatch z⟩
  | bl b => exact ⟨false, kit_ty (by decide +kernel), (fun z => Bool.noConfusion z), fun _ _ z => nomatch z⟩
  | int i => exact ⟨false, kit_ty (by decide +kernel), (fun z => Bool.noConfusion z), fun _ _ z => nomatch z⟩
  | str x => exact ⟨true, kit_ty (by decide +kernel), (fun _ => ⟨x, rfl⟩), fun z => Bool.noConfusion z⟩
  | lst e => exact ⟨false, kit_ty (by decide +kernel), (fun z => Bool.noConfusion z), fun _ _ z => nomatch z⟩
  | tup e => exact ⟨false, kit_ty (by decide +kernel), (fun z => Bool.noConfusion z), fun _ _ z => nomatch z⟩
  | dK e => exact ⟨false, kit_ty (by decide +kernel), (fun z => Bool.noConfusion z), fun _ _ z => nomatch z⟩
end My
/-! Fractions as texts: written, read, told apart. -/
namespace RT
open PySem PySem.Spec PyProof.Rows L2 TX My
/-- the text of a fraction -/
def txt (a b : Int) : List Nat := if b = 1 then intL a else intL a ++ ([47] ++ intL b)
/-- sign and figures of the first word -/
def neg (w : List Nat) : Bool := decide (w.take 1 = [45])
def top0 (w : List Nat) : List Nat := if neg w = true then w.drop 1 else w
/-- what the words say: a top and a bottom above 0 -/
def partsR (ws : List (List Nat)) : Option (Int × Int) := match ws with
  | [w0] => (match dg (top0 w0) with | none => none | some t => some ((if neg w0 = true then -1 else 1) * t, 1))
  | [w0, w1] => (match dg (top0 w0) with | none => none | some t => match dg w1 with | none => none | some b => if 0 < b then some ((if neg w0 = true then -1 else 1) * t, b) else none)
  | _ => none
def readR (l : List Nat) : Option (Int × Int) := match partsR (TL.spl [47] 0 [] l) with
  | none => none
  | some (t, b) => if txt (lowT t b) (lowB t b) = l then some (lowT t b, lowB t b) else none
theorem spl_txt {a b : Int} : TL.spl [47] 0 [] (txt a b) = if b = 1 then [intL a] else [intL a, intL b] := by
  have f : ∀ i : Int, (47 : Nat) ∉ intL i := fun i => intL_free (by decide) (by decide)
  unfold txt
  split
  · rw [TL.spl_last1 (f a), List.nil_append]
  · rw [TL.spl_part1 (f a), TL.spl_last1 (f b), List.nil_append, List.nil_append]
theorem num_head {n : Nat} : (TL.numL n).take 1 ≠ [45] := by
  cases e : TL.numL n with
  | nil => exact absurd e (TL.numL_ne n)
  | cons c l =>
    intro z
    have z : [c] = [45] := z
    have : c = 45 := (List.cons.inj z).1
    have h := TL.numL_digits n c (by rw [e]; exact List.mem_cons_self)
    omega
theorem neg_int (a : Int) : neg (intL a) = decide (a < 0) ∧ top0 (intL a) = TL.numL a.natAbs := by
  unfold top0 neg intL
  by_cases h : a < 0
  · rw [if_pos h, decide_eq_true h]
    exact ⟨rfl, rfl⟩
  · rw [if_neg h, decide_eq_false h, decide_eq_false num_head]
    exact ⟨rfl, rfl⟩
theorem parts_one {w : List Nat} {t : Int} (h : dg (top0 w) = some t) : partsR [w] = some ((if neg w = true then -1 else 1) * t, 1) := by
  unfold partsR
  simp only [h]
theorem parts_one0 {w : List Nat} (h : dg (top0 w) = none) : partsR [w] = none := by
  unfold partsR
  simp only [h]
theorem parts_two {w w1 : List Nat} {t b : Int} (h : dg (top0 w) = some t) (h1 : dg w1 = some b) : partsR [w, w1] = if 0 < b then some ((if neg w = true then -1 else 1) * t, b) else none := by
  unfold partsR
  simp only [h, h1]
theorem parts_two0 {w w1 : List Nat} (h : dg (top0 w) = none) : partsR [w, w1] = none := by
  unfold partsR
  simp only [h]
theorem parts_two1 {w w1 : List Nat} (h1 : dg w1 = none) : partsR [w, w1] = none := by
  unfold partsR
  cases h : dg (top0 w) <;> simp only [h, h1]
theorem parts_more {w w1 w2 : List Nat} {r : List (List Nat)} : partsR (w :: w1 :: w2 :: r) = none := rfl
/-- what is written is read -/
theorem read_txt {a b : Int} (hb : 0 < b) (hg : Int.gcd a b = 1) (ha : a.natAbs < 10 ^ 60) (hb2 : b.natAbs < 10 ^ 60) : readR (txt a b) = some (a, b) := by
  obtain ⟨n1, n2⟩ := neg_int a
  have ea : (if decide (a < 0) = true then (-1 : Int) else 1) * ((a.natAbs : Nat) : Int) = a := by
    by_cases h : a < 0
    · rw [if_pos (decide_eq_true h)]
      omega
    · rw [if_neg (fun z => h (of_decide_eq_true z))]
      omega
  have ep : partsR (TL.spl [47] 0 [] (txt a b)) = some (a, b) := by
    rw [spl_txt]
    by_cases h : b = 1
    · rw [if_pos h]
      rw [parts_one (t := ((a.natAbs : Nat) : Int)) (by rw [n2, dg_num ha]), n1, ea, h]
    · rw [if_neg h]
      have eb : intL b = TL.numL b.natAbs := by
        unfold intL
        rw [if_neg (by omega)]
      have e2 : ((b.natAbs : Nat) : Int) = b := by omega
      rw [parts_two (t := ((a.natAbs : Nat) : Int)) (b := b) (by rw [n2, dg_num ha]) (by rw [eb, dg_num hb2, e2]), if_pos hb, n1, ea]
  unfold readR
  rw [ep]
  obtain ⟨l1, l2⟩ := low_self hb hg
  show (if txt (lowT a b) (lowB a b) = txt a b then some (lowT a b, lowB a b) else none) = _
  rw [l1, l2, if_pos rfl]
end RT
/-! An own error of two fields: its context is None; raised from a caught one. -/
namespace Sup
open PySem PySem.W PySem.Calls PyProof.Rows PySem.HandSPX
section
variable {prog : Program} {w : World} {A : Around} {E : Value → Shared → Prop} {R : Result → Shared → Prop} {s : Shared} {K : Frag} {mg : Str → Option Value} {x f g : Str} {C fI : Addr}
/-- a made error, its record told -/
structure Made2N (h h' : Heap) (f g : Str) (e C d : Addr) (v u : Value) : Prop where
  keep : ∀ b o, h.get? b = some o → h'.get? b = some o
  new : h.objs.size ≤ e
  obj : ∃ t1 : Addr, h'.get? e = some { cls := .ref C, dict := some d, data := .fields #[.ref t1, .none, .none, .none, .bool false, .none] }
  dbig : h.objs.size ≤ d
  dne : d ≠ e
  ns : h'.Ns1 d (fun y => if y = g then some u else if y = f then some v else none)
theorem made2N (T : Err2 prog K mg x f g C fI) {v u : Value} (X : K.In s.heap) (hlim : s.heap.NoLimit) (hg : s.heap.Ns mainGlobals mg) (hb : ∃ mb, s.heap.Ns builtinsNs mb ∧ ∀ x : Str, x ≠ "__name__" → mb x = bootBuiltins x) (hroom : A.depth + 1 < recursionLimit)
    (hq : ∀ h' tk e d, Made2N s.heap h' f g e C d v u → R (.ok (.ret (.ref e))) { s with heap := h', toks := tk }) :
    codeAny (model prog w) A (.call (.ref C) ⟨[v, u], []⟩) R s := by
  obtain ⟨nm, q, N, bs, bm, sn, sub, ab, col, dd, k0, k1, k2, k3, k5, hC, hbm⟩ := T.ox.cls
  obtain ⟨hp, gg, dr, tk, os⟩ := s
  have kp : ∀ b o, hp.get? b = some o → ((hp.push (kdv_tup [v, u])).push (excO C hp.objs.size)).get? b = some o := fun b o z => Heap.get?_push_of_some _ (Heap.get?_push_of_some _ z)
  have hget : ((hp.push (kdv_tup [v, u])).push (excO C hp.objs.size)).get? (hp.objs.size + 1) = some (excO C hp.objs.size) := by heap_get
  have hnx : K.lookup (hp.objs.size + 1) = none := by
    cases z : K.lookup (hp.objs.size + 1) with
    | none => rfl
    | some o => exact absurd (Nat.lt_of_succ_lt (Heap.lt_size (X _ _ z))) (Nat.lt_irrefl _)
  refine call_own F.excBase_ValueError (fun Y => refsVE_contains Y bm hbm) (X _ _ hC) (looks_findIn X T.iC) (fun self => bind_fn X self T.tI) (by rw [sizeLine_eq]; exact (by decide : 2 ≤ 16777216)) ?_
  obtain ⟨mb, hb1, hb2⟩ := hb
  refine init2 (s := ⟨(hp.push (kdv_tup [v, u])).push (excO C hp.objs.size), gg, dr, tk, os⟩) T (X.keeps kp) (hlim.keeps kp) (hg.keeps kp) ⟨mb, hb1.keeps kp, hb2⟩ hget hnx ?_ fun h' tk' dx t1 ⟨k', hx, dn, dne, hns⟩ => ?_
  · show A.depth + 1 < recursionLimit
    exact hroom
  · have old : ∀ b o, hp.get? b = some o → h'.get? b = some o := fun b o z => k' b o (Nat.ne_of_lt (Nat.lt_succ_of_lt (Heap.lt_size z))) (kp b o z)
    have z : hp.objs.size + 1 + 1 ≤ dx := by
      have y := dn
      first
        | (rw [Heap.size_push, Heap.size_push] at y; exact y)
        | exact y
    exact ⟨rfl, hq h' tk' (hp.objs.size + 1) dx ⟨old, Nat.le_succ _, ⟨t1, hx⟩, Nat.le_trans (Nat.le_trans (Nat.le_succ _) (Nat.le_succ _)) z, dne, hns⟩⟩
end
end Sup
namespace L2H
open PySem PySem.Spec PyProof.Rows L2
section
variable {X : Cx} {C fI : Addr} {x f g : Str}
theorem pmk5_2 {a b : Expr} {ta : TA} {p pos : Pos} (T : Sup.Err2 X.prog X.K X.mg x f g C fI) (hr : X.A.depth + 1 < recursionLimit) (ha : PA X [a, b] ta) (hg : Gl X x := by rfl) (hdb : (x == ("__debug__" : Str)) = false := by decide)
    (hs : starEach (a :: [b]) X.env = (false, eval a X.env) :: starEach [b] X.env := by rfl) (hpl : (backTo pos (starEach [b] X.env)).any (·.1) = false := by rfl) :
    PMk5 X (.Call (.Name x p) [a, b] [] pos) (tMk2 C f g ta) := by
  intro pins s σ H Q I h
  refine wpAny_Call_Name_kw (ld_glob I hg T.gC ?_ hdb)
  refine PySem.W.callWith_K (h₀ := X.base) I.ok.mod.kin T.ox.kC (thn (ha.run pos pins s σ H _ I h) fun us s1 hh => ?_) hs hpl
  obtain ⟨vs, H1, I1, r1, v, u, ev, q1⟩ := hh
  subst ev
  refine ⟨I1.kIn, ?_⟩
  cases r1 with
  | cons rv rn =>
    rename_i v' us'
    cases rn with
    | cons ru rn =>
      rename_i u' us'
      cases rn
      show wpAny _ _ (call (.ref C) [v', u']) _ _ _
      have hlim := I1.nolimit
      obtain ⟨mb, hb1, hb2⟩ := I1.mod.blt
      have bk1 := I1.bk
      have gl1 := I1.mod.glob
      obtain ⟨hp, g0, dr, tk, os⟩ := s1
      refine wpAny_call (Sup.made2N T I1.kIn hlim (gl1.keeps bk1) ⟨mb, hb1.keeps bk1, hb2⟩ hr fun h' tk' e d M => ?_)
      show L2N.MkP X pins σ Q (.ref e) ⟨h', g0, dr, tk', os⟩ ∧ Six (.ref e) ⟨h', g0, dr, tk', os⟩
      obtain ⟨t1, hoe⟩ := M.obj
      have hns := M.ns
      obtain ⟨G', g1, g2⟩ := restrict h' fun b => decide (b ≠ e)
      have gk : ∀ b, b ≠ e → G'.get? b = h'.get? b := fun b hb => g1 b (decide_eq_true hb)
      have ge : G'.get? e = none := g2 e (by simp)
      have old : ∀ b o, hp.get? b = some o → G'.get? b = some o := fun b o z => (gk b (Nat.ne_of_lt (Nat.lt_of_lt_of_le (Heap.lt_size z) M.new))).trans (M.keep b o z)
      have ob : ObjOk X.prog X.w (upd H1 d (.xd [(f, v), (g, u)])) G' d (.xd [(f, v), (g, u)]) :=
        ⟨_, hns.at (fun o z => (gk d M.dne).trans z), fun y => relO_two T.nm.gf rv ru y⟩
      have J : Inv X pins σ (upd H1 d (.xd [(f, v), (g, u)])) ⟨G', g0, dr, tk', os⟩ := I1.laid (t' := tk') old M.dbig ob
      refine ⟨⟨e, _, _, ⟨G', g0, dr, tk', os⟩, _, .ref C, some d, rfl, J, fun b o z => ?_, ge, hoe, ⟨rfl, rfl, fun vs z => by cases z; rfl⟩, rfl, rfl, ?_, rfl, I1.bare, raises_own T.ox.exC T.ox.tyC, q1 d (I1.hok.fresh M.dbig)⟩, fun a oe vs z hg hd => ?_⟩
      · by_cases hb : b = e
        · have z' : G'.get? b = some o := z
          rw [hb, ge] at z'; cases z'
        · exact (gk b hb).symm.trans z
      · rw [upd_ne (Ne.symm M.dne)]
        exact I1.hok.fresh M.new
      · cases z
        have hg' : h'.get? e = some oe := hg
        rw [hoe] at hg'
        cases hg'
        cases hd
        show (4 : Nat) < 6
        decide
/-- raise E(e, e2) where nothing is handled: its context is None -/
theorem ps_raise2N {a b : Expr} {ta : TA} {W : WX} {p pos pos2 : Pos} (hc : X.calm = true) (T : Sup.Err2 X.prog X.K X.mg x f g C fI) (hr : X.A.depth + 1 < recursionLimit) (tk : L2N.Takes X W) (ha : PA X [a, b] ta) (hg : Gl X x := by rfl) (hdb : (x == ("__debug__" : Str)) = false := by decide)
    (hs : starEach (a :: [b]) X.env = (false, eval a X.env) :: starEach [b] X.env := by rfl) (hpl : (backTo pos (starEach [b] X.env)).any (·.1) = false := by rfl) :
    PS X (.Raise (some (.Call (.Name x p) [a, b] [] pos)) none pos2) (tRaise2 C f g W ta) := L2N.ps_raise hc tk (pmk5_2 T hr ha hg hdb hs hpl).pmk
end
end L2H
/-! raise X(..) from n, in the except suite that has named the exception n. -/
namespace HotX
open PySem PySem.Spec PyProof.Rows
/-- the heap behind «from c»: field 3 is c, field 4 is True -/
def causeFrom (h : Heap) (a : Addr) (c : Value) : Heap := (h.update a (Obj.mapFields (·.setIfInBounds 3 c))).update a (Obj.mapFields (·.setIfInBounds 4 (.bool true)))
theorem causeFrom_at {h : Heap} {a : Addr} {c : Value} {oe : Obj} {vs : Array Value} (ha : h.get? a = some oe) (hd : oe.data = .fields vs) :
    (causeFrom h a c).get? a = some ((oe.mapFields (·.setIfInBounds 3 c)).mapFields (·.setIfInBounds 4 (.bool true))) ∧ ((oe.mapFields (·.setIfInBounds 3 c)).mapFields (·.setIfInBounds 4 (.bool true))).data = .fields ((vs.setIfInBounds 3 c).setIfInBounds 4 (.bool true)) := by
  have hd3 := Obj.data_mapFields hd (·.setIfInBounds 3 c)
  have ha3 := Heap.get?_update_self (Obj.mapFields (·.setIfInBounds 3 c)) ha (Obj.isFreed_of_fields hd3)
  have hd4 := Obj.data_mapFields hd3 (·.setIfInBounds 4 (.bool true))
  exact ⟨Heap.get?_update_self (Obj.mapFields (·.setIfInBounds 4 (.bool true))) ha3 (Obj.isFreed_of_fields hd4), hd4⟩
theorem causeFrom_other {h : Heap} {a b : Addr} {c : Value} (hne : a ≠ b) : (causeFrom h a c).get? b = h.get? b := by
  unfold causeFrom
  rw [Heap.get?_update_other _ _ hne, Heap.get?_update_other _ _ hne]
theorem raise_made_hotF {prog : Program} {w : World} {A : Around} {E : Value → Shared → Prop} {env : Env} {s : Shared} {x c : Sem Value} {Q : Flow → Shared → Prop} {x1 : Addr}
    (h : wpAny (model prog w) A x (fun v s₁ => ∃ a oe vs cls o1 vs1 cls1, v = .ref a ∧ s₁.heap.get? a = some oe ∧ oe.cls = cls ∧ oe.data = .fields vs ∧ vs[1]? = some .none ∧ 4 < vs.size ∧ x1 ≠ a ∧ HotAt A x1 s₁.heap ∧
      (s₁.heap.get? x1 = some o1 ∧ o1.cls = cls1 ∧ o1.data = .fields vs1 ∧ PySem.W.Looks (model prog w) s₁.heap (isSubtype cls1 (.type "BaseException")) true) ∧ (∀ (Q' : Value → Shared → Prop), Q' (.ref x1) s₁ → wpAny (model prog w) A c Q' E s₁) ∧
      PySem.W.Looks (model prog w) s₁.heap (isSubtype cls (.type "BaseException")) true ∧ PySem.W.Looks (model prog w) (causeFrom s₁.heap a (.ref x1)) (typeOf cls) (.type "type") ∧
      E (.ref a) { s₁ with heap := (causeFrom s₁.heap a (.ref x1)).update a (Obj.mapFields (·.setIfInBounds 2 (.ref x1))) }) E s) :
    wpAny (model prog w) A (raiseStmt env (some x) (some c)) Q E s := by
  unfold raiseStmt
  dsimp only
  refine wpAny_bind (wpAny_mono h (fun v s₁ h₁ => ?_) fun _ _ x => x)
  obtain ⟨a, oe, vs, cls, o1, vs1, cls1, rfl, ha, hcls, hd, h1, hi, hne, hot, ⟨hx1, hc1, hd1, LX⟩, hcs, L1, L3, hE⟩ := h₁
  have LT : PySem.W.Looks (model prog w) s₁.heap (typeOf (.ref a)) cls := fun A Q E s k q => wpAny_typeOf_ref (k _ _ ha) (by rw [hcls]; exact q)
  have LI : PySem.W.Looks (model prog w) s₁.heap (isInstance (.ref a) (.type "BaseException")) true := LT.andThen L1
  have LT1 : PySem.W.Looks (model prog w) s₁.heap (typeOf (.ref x1)) cls1 := fun A Q E s k q => wpAny_typeOf_ref (k _ _ hx1) (by rw [hc1]; exact q)
  have LI1 : PySem.W.Looks (model prog w) s₁.heap (isInstance (.ref x1) (.type "BaseException")) true := LT1.andThen LX
  have hnt : ∀ {Q' : Bool → Shared → Prop}, Q' false s₁ → wpAny (model prog w) A (isType (.ref a)) Q' E s₁ := by
    intro Q' hq
    simp only [isType, loadHead]
    refine wpAny_bind (wpAny_loadPart ha ?_)
    rw [hd]; exact wpAny_pure hq
  have hnt1 : ∀ {Q' : Bool → Shared → Prop}, Q' false s₁ → wpAny (model prog w) A (isType (.ref x1)) Q' E s₁ := by
    intro Q' hq
    simp only [isType, loadHead]
    refine wpAny_bind (wpAny_loadPart hx1 ?_)
    rw [hd1]; exact wpAny_pure hq
  have hd3 := Obj.data_mapFields hd (·.setIfInBounds 3 (.ref x1))
  have ha3 := Heap.get?_update_self (Obj.mapFields (·.setIfInBounds 3 (.ref x1))) ha (Obj.isFreed_of_fields hd3)
  obtain ⟨ha4, hd4⟩ := causeFrom_at (c := .ref x1) ha hd
  have s3 : 3 < vs.size := by omega
  have s4 : 4 < (vs.setIfInBounds 3 (Value.ref x1)).size := by rw [set_size]; exact hi
  have s2 : 2 < ((vs.setIfInBounds 3 (Value.ref x1)).setIfInBounds 4 (Value.bool true)).size := by rw [set_size, set_size]; omega
  have h14 : ((vs.setIfInBounds 3 (Value.ref x1)).setIfInBounds 4 (Value.bool true))[1]? = some Value.none := set_other (by decide) (set_other (by decide) h1)
  have hcls4 : ((oe.mapFields (·.setIfInBounds 3 (.ref x1))).mapFields (·.setIfInBounds 4 (.bool true))).cls = cls := by rw [Obj.cls_mapFields, Obj.cls_mapFields]; exact hcls
  have LT4 : PySem.W.Looks (model prog w) (causeFrom s₁.heap a (.ref x1)) (typeOf (.ref a)) cls := fun A Q E s k q => wpAny_typeOf_ref (k _ _ ha4) (by rw [hcls4]; exact q)
  have hnt4 : ∀ {Q' : Bool → Shared → Prop}, Q' false { s₁ with heap := causeFrom s₁.heap a (.ref x1) } → wpAny (model prog w) A (isType (.ref a)) Q' E { s₁ with heap := causeFrom s₁.heap a (.ref x1) } := by
    intro Q' hq
    simp only [isType, loadHead]
    refine wpAny_bind (wpAny_loadPart ha4 ?_)
    rw [hd4]; exact wpAny_pure hq
  have hot4 : HotAt A x1 (causeFrom s₁.heap a (.ref x1)) := by
    obtain ⟨q1, o, vs', q2, q3, q4⟩ := hot
    exact ⟨q1, o, vs', by rw [causeFrom_other (Ne.symm hne)]; exact q2, q3, q4⟩
  have rest : wpAny (model prog w) A (do
      let b ← isType (.ref a)
      if b = true then do
        let e ← holding [.ref a] (raisedFor (.ref a) (.ref a))
        setFlight e none
        raiseNew e
      else do
        let e ← raisedInstance (.ref a)
        setFlight e none
        raiseNew e : Sem Flow) Q E { s₁ with heap := causeFrom s₁.heap a (.ref x1) } := by
    refine wpAny_bind (hnt4 ?_)
    simp only [Bool.false_eq_true, if_false]
    unfold raisedInstance
    refine wpAny_bind (wpAny_bind (LT4.here (wpAny_bind (L3.here ?_))))
    rw [if_pos (beq_self_eq_true _)]
    refine wpAny_pure ?_
    unfold setFlight
    refine wpAny_bind (wpAny_bind (wpAny_field ha4 hd4 h14 ?_))
    rw [if_neg (by decide)]
    refine wpAny_pure ?_
    exact raiseNew_hot hot4 hne ha4 hd4 s2 hE
  refine wpAny_bind (wpAny_holding (hcs _ (wpAny_bind (wpAny_pure ?_))))
  dsimp only
  refine wpAny_bind (wpAny_holding ?_)
  unfold excFromValue isExcClass
  refine wpAny_bind (wpAny_bind (hnt ?_))
  simp only [Bool.false_eq_true, if_false]
  refine wpAny_pure ?_
  simp only [Bool.false_eq_true, if_false]
  refine wpAny_bind (LI.here ?_)
  simp only [if_true]
  refine wpAny_pure ?_
  rw [if_neg (show ¬ (Value.ref x1 == Value.none) = true from by simp)]
  refine wpAny_bind (wpAny_holding ?_)
  refine wpAny_bind (wpAny_bind (hnt1 ?_))
  simp only [Bool.false_eq_true, if_false]
  refine wpAny_pure ?_
  simp only [Bool.false_eq_true, if_false]
  refine wpAny_bind (LI1.here ?_)
  simp only [if_true]
  refine wpAny_pure ?_
  first
  | refine wpAny_bind (wpAny_setField ha hd s3 (wpAny_bind (wpAny_setField ha3 hd3 s4 ?_)))
  | refine wpAny_bind (wpAny_bind (wpAny_setField ha hd s3 (wpAny_bind (wpAny_setField ha3 hd3 s4 ?_))))
  | refine wpAny_bind (wpAny_bind (wpAny_setField ha hd s3 (wpAny_setField ha3 hd3 s4 ?_)))
  first
  | exact rest
  | (dsimp only; exact rest)
  | (refine wpAny_pure ?_; exact rest)
end HotX
namespace L2H
open PySem PySem.Spec PyProof.Rows L2 HotX
/-- raise X(..) from n, in an except suite that has named what it handles n -/
theorem ps_raiseHF {X : Cx} {W : WX} {e : Expr} {t : L2.St → Hp → XK → Prop} {i : Nat} {n : Str} {cpos pos : Pos} {p : Addr × Obj} (hc : Hot1 X.A p) (hp : p ∈ X.pn) (hcl : Raises X p.2.cls) (hi : X.N[i]? = some n) (hln : X.env.kindOf n = some .local) (hv : Vis X.env.scope n) (tk : L2.Takes X W) (he : PMk5 X e t)
    (hdb : (n == ("__debug__" : Str)) = false := by decide) (hcn : X.env.cells.lookup n = none := by rfl) :
    PS X (.Raise (some e) (some (.Name n cpos)) pos) (fun _ σ H => σ[i]? = some (some (.ref p.1)) ∧ t σ H fun cls d H' => W cls d σ H') := by
  refine ⟨fun pins s σ H D I h => ?_⟩
  obtain ⟨hσ, h⟩ := h
  obtain ⟨hh, v1, e1, c1⟩ := hc
  show wpAny _ _ (do standAt pos; raiseStmt X.env (some (do let v ← eval e X.env; standAt pos; pure v)) (some (do let v ← eval (.Name n cpos) X.env; standAt pos; pure v))) _ _ _
  refine wpAny_bind (wpAny_standAt (raise_made_hotF (x1 := p.1) (wpAny_bind (wpAny_mono (he pins s σ H _ I h) (fun u s1 hu => wpAny_bind (wpAny_standAt (wpAny_pure ?_))) fun _ _ x => x))))
  obtain ⟨⟨a, oe, vs, sI, H', cls, d, rfl, J, k, hne, ha, hz, hd, h1, na, os, ag, r, q⟩, h5⟩ := hu
  have hi4 : 4 < vs.size := h5 a oe vs rfl ha hd
  have k4 : ∀ b u, sI.heap.get? b = some u → (causeFrom s1.heap a (.ref p.1)).get? b = some u := fun b u z => by
    have nab : a ≠ b := fun y => by
      rw [← y, hne] at z
      cases z
    rw [causeFrom_other nab]
    exact k b u z
  obtain ⟨r1, _⟩ := r (model X.prog X.w) s1.heap (J.kIn.keeps k)
  obtain ⟨_, r2⟩ := r (model X.prog X.w) (causeFrom s1.heap a (.ref p.1)) (J.kIn.keeps k4)
  obtain ⟨rc, _⟩ := hcl (model X.prog X.w) s1.heap (J.kIn.keeps k)
  have P1 := (J.pin p (List.mem_append_left _ hp)).1
  have nap : p.1 ≠ a := fun z => by
    rw [z, hne] at P1
    cases P1
  obtain ⟨ha4, hd4⟩ := causeFrom_at (c := .ref p.1) ha hd
  have h12 : (((vs.setIfInBounds 3 (Value.ref p.1)).setIfInBounds 4 (Value.bool true)).setIfInBounds 2 (Value.ref p.1))[1]? = some Value.none := set_other (by decide) (set_other (by decide) (set_other (by decide) h1))
  have ldN : ∀ (Q' : Value → Shared → Prop), Q' (.ref p.1) s1 → wpAny (model X.prog X.w) X.A (do let v ← eval (.Name n cpos) X.env; standAt pos; pure v) Q' X.xe s1 := fun Q' q' => by
    obtain ⟨m, hn, hl⟩ := J.loc
    obtain ⟨u, ru, l⟩ := hl i n _ hi hσ hv
    rcases l with ⟨hk, hm⟩ | ⟨hk, c, hc, hcell⟩
    · have eu : u = .ref p.1 := ru
      rw [eu] at hm
      exact wpAny_bind (wpAny_Name (wpAny_loadName_local J.ok.kind hk (hn.keeps k) hm (wpAny_bind (wpAny_standAt (wpAny_pure q')))) hdb)
    · rw [hcn] at hc
      cases hc
  refine ⟨a, oe, vs, cls, p.2, v1, p.2.cls, rfl, ha, hz.1, hd, h1, hi4, nap, ⟨hh, p.2, v1, k _ _ P1, e1, c1⟩, ⟨k _ _ P1, rfl, e1, rc⟩, ldN, r1, r2, tk _ _ (XE.new J (fun b u z => ?_) hne (Heap.get?_update_self _ ha4 (Obj.isFreed_of_fields (Obj.data_mapFields hd4 _)))
    ⟨by rw [Obj.cls_mapFields, Obj.cls_mapFields, Obj.cls_mapFields]; exact hz.1, by rw [HandSPX.dict_mapFields, HandSPX.dict_mapFields, HandSPX.dict_mapFields]; exact hz.2.1⟩ (Obj.data_mapFields hd4 _) h12 na os ag q)⟩
  have nab : a ≠ b := fun y => by
    rw [← y, hne] at z
    cases z
  show ((causeFrom s1.heap a (.ref p.1)).update a (Obj.mapFields (·.setIfInBounds 2 (.ref p.1)))).get? b = some u
  rw [Heap.get?_update_other _ _ nab]
  exact k4 b u z
end L2H
/-! try: .. except X as n: a suite that raises out of the try. -/
namespace L2H
open PySem PySem.Spec PyProof.Rows L2 HotX
/-- the context of an except suite that may raise, with a wish of its own -/
abbrev suiteXa (X : Cx) (a : Addr) (pn : List (Addr × Obj)) (xe : Value → Shared → Prop) : Cx := { X with A := X.A.mark (some (.ref a)), calm := false, pn := pn, xe := xe }
/-- what the clause wishes: every exception of the body is one of its class -/
def wAsX (K : PySem.W.Frag) (c : Value) (i : Nat) (ts : Addr → Value → Option Addr → TS) (D : Ends) : WX := fun cls d σ H =>
  PySem.W.exmOne K cls c = some true ∧ ∀ a, H a = none → ts a cls d { nx := fun σ' H' => D.nx (σ'.set i none) H', rt := D.rt, bk := fun σ' H' => D.bk (σ'.set i none) H', ct := fun σ' H' => D.ct (σ'.set i none) H' } (σ.set i (some (.ref a))) H
section
variable {X : Cx} {pins : List (Addr × Obj)} {σ : L2.St} {H : Hp} {s : Shared}
theorem suiteXa_of {a : Addr} {pn pn' : List (Addr × Obj)} {xe : Value → Shared → Prop} (I : Inv (X.suite a pn) pn' σ H s) : Inv (suiteXa X a pn xe) pn' σ H s := Inv.unwish (X := suiteXa X a pn xe) (E := fun _ _ => False) I
theorem unsuiteXa {a : Addr} {q : Addr × Obj} {pn' : List (Addr × Obj)} {xe : Value → Shared → Prop} (I : Inv (suiteXa X a (q :: (X.pn ++ pins)) xe) pn' σ H s) (ok : X.Ok) : Inv X pins σ H s :=
  Inv.unsuite (X := X) (a := a) (q := q) (pn' := pn') (show Inv (X.suite a (q :: (X.pn ++ pins))) pn' σ H s from I.wish fun _ _ => False) ok
/-- the state behind a name that has gone -/
theorem gone_inv {i : Nat} {n : Str} {m : Str → Option Value} {v : Option Value} {h' : Heap} (I : Inv X pins σ H s) (hN : X.N.Nodup) (hi : X.N[i]? = some n) (hl : X.env.kindOf n = some .local)
    (hm : ∀ m0, s.heap.Ns X.env.locals m0 → m0 = m) (hn' : h'.Ns X.env.locals (fun x => if x = n then v else m x)) (hs : Heap.SameBut X.env.locals s.heap h') : Inv X pins (σ.set i none) H { s with heap := h' } := by
  obtain ⟨m0, hn, hlk⟩ := id I.loc
  have em := hm m0 hn
  subst em
  obtain ⟨oL, _, _, hoL, _⟩ := id hn
  have neL : ∀ b o, X.s_0.heap.get? b = some o → b ≠ X.env.locals := fun b o e => Nat.ne_of_lt (Nat.lt_of_lt_of_le (Heap.lt_size e) I.ok.above)
  refine ⟨I.ok, I.os, I.bare, ⟨fun b o e n hb hx => ?_, fun b o e n hb hx => ?_, I.base.free, fun b o e hx => ?_, I.base.tups, I.base.frzs, I.base.tbls⟩, ⟨_, hn', fun j y v' e1 e2 e3 => ?_⟩, fun y c e => ?_, I.free, I.freeC, fun p hp => ?_, fun b ob e => ?_, by simpa using I.len⟩
  · exact (hs.2 b (neL b o e)).trans (I.base.keep b o e n hb hx)
  · obtain ⟨sl, e1⟩ := I.base.slot b o e n hb hx
    exact ⟨sl, (hs.2 b (neL b o e)).trans e1⟩
  · obtain ⟨o', e1⟩ := I.base.there b o e hx
    exact ⟨o', (hs.2 b (neL b o e)).trans e1⟩
  · by_cases hj : j = i
    · subst hj
      by_cases hlt : j < σ.length
      · rw [List.getElem?_set_self hlt] at e2; cases e2
      · rw [List.getElem?_eq_none (by simpa using hlt)] at e2; cases e2
    · rw [List.getElem?_set_ne (Ne.symm hj)] at e2
      obtain ⟨u', r', q⟩ := hlk j y v' e1 e2 e3
      refine ⟨u', r', ?_⟩
      rcases q with ⟨k, e⟩ | ⟨k, c, e, z⟩
      · have ny : y ≠ n := fun e => hj (nodup_ix hN e1 (e ▸ hi))
        exact .inl ⟨k, (if_neg ny).trans e⟩
      · exact .inr ⟨k, c, e, z.sameBut hs (I.cne y c e)⟩
  · obtain ⟨w', z⟩ := I.cell y c e
    exact ⟨w', z.sameBut hs (I.cne y c e)⟩
  · obtain ⟨e, n, ne, nf, d⟩ := I.pin p hp
    exact ⟨(hs.2 p.1 ne).trans e, n, ne, nf, d⟩
  · refine (I.hok b ob e).stay (fun c w' hc q => (hs.2 c ?_).trans q) (fun _ q => q) fun _ _ q => q
    intro z
    subst z
    rcases hc with hc | hc
    · rw [← hc, I.free] at e; cases e
    · rw [I.free] at hc; cases hc
end
/-- noted, and held -/
theorem sky_hold {M : Model} {A : Around} {E₁ : Value → Shared → Prop} {s : Shared} {B : Heap} {env : Env} {outer : List Env} {L a : Addr} {Z : Obj → Prop} {Q : Unit → Shared → Prop} (hZ : HandSPX.Steady Z) (hfr : A.frames = some (env :: outer)) (hf : env.frame = some L)
    (x : Sky B (env :: outer) a Z L s.heap) (hQ : ∀ h', HandSPX.HeldZ B (env :: outer) a Z L h' → s.heap.UpToSlots h' → Q () { s with heap := h' }) :
    wpAny M A (noteFrame (.ref a) env) Q E₁ s := by
  rcases x with ⟨hB, hn, hl, oe, vs, he, hz, hd, h1⟩ | fl | hh
  · exact HandSPX.look_newZ hZ hfr hl hf he hB hn hd h1 hz hQ
  · exact HandSPX.looks_onZ hZ hfr hf fl hQ
  · exact HandSPX.againZ hf hh.2.2.2 (hQ s.heap hh (Heap.UpToSlots.refl _))
section
variable {X : Cx} {x n : Str} {c : Value} {i : Nat} {body suite : List Stmt} {b₀ : Stmt} {np pos pos' : Pos} {tb : WX → TS} {ts : Addr → Value → Option Addr → TS} {Wout : WX}
/-- the tail of such a suite that raises -/
theorem as_takes {pins : List (Addr × Obj)} {a : Addr} {q : Addr × Obj} {xe : Value → Shared → Prop} (ok : X.Ok) (hs : X.stack = X.env :: X.outer) (hf : X.env.frame = some X.env.locals) (hN : X.N.Nodup) (hi : X.N[i]? = some n) (hln : X.env.kindOf n = some .local)
    (hpa : ∀ hd : Option Value, PassesOwnAt (model X.prog X.w) (X.A.mark hd) X.A X.env X.xe) (tk : L2.Takes X Wout) {u : Value} {s' : Shared}
    (xx : L2.XE (suiteXa X a (q :: (X.pn ++ pins)) xe) (fun cls d σ H => Wout cls d (σ.set i none) H) u s') :
    AsSuiteRaised (model X.prog X.w) (X.A.mark (some (.ref a))) X.env n pos' (notedBy (model X.prog X.w) (X.A.mark (some (.ref a))) X.env (cameBackBy (model X.prog X.w) X.A X.env X.xe)) u s' := by
  obtain ⟨a2, B, sI, pn2, σ2, H2, cls2, d2, rfl, I2, nb, up, sky, na, os, ag, w2⟩ := xx
  have J : Inv X pins σ2 H2 sI := unsuiteXa I2 ok
  have hfr : (X.A.mark (some (.ref a))).frames = some (X.env :: X.outer) := by
    show X.A.frames = _
    rw [ok.frames, hs]
  have sky' : Sky B (X.env :: X.outer) a2 (Zc cls2 d2) X.env.locals s'.heap := by rw [← hs]; exact sky
  have nb' : ∀ b o, sI.heap.get? b = some o → b ∉ frs X.stack → B.get? b = some o := nb
  have Lm : X.env.locals ∈ frs X.stack := by
    rw [hs]
    exact List.mem_filterMap.mpr ⟨X.env, List.mem_cons_self, hf⟩
  show wpAny _ _ (noteFrame (.ref a2) X.env) _ _ _
  refine sky_hold Zc.steady hfr hf sky' fun h1 hh up1 => ?_
  obtain ⟨b1, b0, f1, oe, vs, T, oT, ts, he, hz, hd, hT1, hnT, hTe, hT, hdT, hT3⟩ := hh
  have upa := up.trans up1
  obtain ⟨m, hn, hlk⟩ := id J.loc
  obtain ⟨oL, es, ep, hoL, hdL, hsk, hm⟩ := id hn
  have bL : B.get? X.env.locals = none := (f1.mem (List.mem_filterMap.mpr ⟨X.env, List.mem_cons_self, hf⟩)).1
  obtain ⟨sl, hoL1⟩ := upa _ _ hoL (fun vs z => by rw [hdL] at z; cases z)
  have hn1 : h1.Ns X.env.locals m := ⟨_, es, ep, hoL1, hdL, hsk, hm⟩
  have hcls : (X.env.scope.kind == .class || (X.env.scope.kind == .module && X.env.locals != X.env.globals)) = false := by rw [J.ok.kind]; rfl
  refine wpAny_nameGoes_keeps hln hn1 hcls fun h2 v hn2 hs2 => ?_
  have neE : a2 ≠ X.env.locals := fun z => by
    rw [z, hoL1] at he
    have y := Option.some.inj he
    rw [← y] at hd
    have hd' : oL.data = .fields vs := hd
    rw [hdL] at hd'
    cases hd'
  have neT : T ≠ X.env.locals := fun z => by
    rw [z, hoL1] at hT
    have y := Option.some.inj hT
    rw [← y] at hdT
    have hd' : oL.data = .fields ts := hdT
    rw [hdL] at hd'
    cases hd'
  have b2 : B.StaysIn h2 := fun b o hb => (hs2.2 b fun z => by rw [z, bL] at hb; cases hb).trans (b1 b o hb)
  have f2 : h2.FunFrames B (X.env :: X.outer) := Heap.FunFrames.sameBut hs2 hn2 f1
  have t2 : HandSPX.TracedZ h2 B a2 (Zc cls2 d2) (rawInt X.env.locals) := ⟨oe, vs, T, oT, ts, (hs2.2 a2 neE).trans he, hz, hd, hT1, hnT, hTe, (hs2.2 T neT).trans hT, hdT, hT3⟩
  unfold PySem.passOn
  refine wpAny_bind (wpAny_field (s := { s' with heap := h2, toks := s'.toks + 1 }) (o := oe) ((hs2.2 a2 neE).trans he) hd hT1 ?_)
  rw [if_neg (show ¬ ((Value.ref T == Value.none) = true) from by simp)]
  rw [hf]
  have fin : ∀ h3, HandSPX.HeldZ B (X.env :: X.outer) a2 (Zc cls2 d2) X.env.locals h3 → h2.UpToSlots h3 →
      wpAny (model X.prog X.w) (X.A.mark (some (.ref a))) (throw (.ref a2) : Sem Flow) (fun _ _ => False) (notedBy (model X.prog X.w) (X.A.mark (some (.ref a))) X.env (cameBackBy (model X.prog X.w) X.A X.env X.xe)) { s' with heap := h3, toks := s'.toks + 1 } := fun h3 hh3 up3 => by
    refine wpAny_throw (hpa (some (.ref a)) _ _ (tk _ _ ?_))
    obtain ⟨o2, es2, ep2, ho2, hd2, r2⟩ := id hn2
    have hI : (sI.heap.update X.env.locals (fun _ => o2)).get? X.env.locals = some o2 := Heap.get?_update_self (fun _ => o2) hoL (by
      obtain ⟨oc, od, dt, osl⟩ := o2
      cases hd2
      rfl)
    have hsI : Heap.SameBut X.env.locals sI.heap (sI.heap.update X.env.locals (fun _ => o2)) := Heap.SameBut.update _ _ _
    have J' := gone_inv (v := v) (m := m) J hN hi hln (fun m0 hm0 => by
      obtain ⟨oL', es', ep', hoL', hdL', hsk', hm'⟩ := hm0
      rw [hoL] at hoL'
      cases hoL'
      rw [hdL] at hdL'
      cases hdL'
      exact funext fun y => (hm' y).symm.trans (hm y)) ⟨o2, es2, ep2, hI, hd2, r2⟩ hsI
    refine ⟨a2, B, { sI with heap := sI.heap.update X.env.locals (fun _ => o2) }, pins, σ2.set i none, H2, cls2, d2, rfl, J', fun b o e hb => ?_, fun b o e nf => ?_, .inr (.inr (by rw [hs]; exact hh3)), na, os, ag, w2⟩
    · have nbl : b ≠ X.env.locals := fun z => hb (z ▸ Lm)
      exact nb' b o ((hsI.2 b nbl).symm.trans e) hb
    · by_cases z : b = X.env.locals
      · subst z
        have e' : (sI.heap.update X.env.locals (fun _ => o2)).get? X.env.locals = some o := e
        rw [hI] at e'
        cases e'
        exact up3 _ _ ho2 nf
      · obtain ⟨sl1, g1⟩ := upa b o ((hsI.2 b z).symm.trans e) nf
        obtain ⟨sl3, g3⟩ := up3 b _ ((hs2.2 b z).trans g1) nf
        exact ⟨sl3, g3⟩
  refine wpAny_bind (HandSPX.setFlight_anyZ b2 f2 t2 fun h3 k1 k2 k3 k4 => ?_)
  exact fin h3 ⟨k1, b0, k2, k3⟩ k4
theorem ps_try_asX (hs : X.stack = X.env :: X.outer) (hf : X.env.frame = some X.env.locals) (hN : X.N.Nodup) (hi : X.N[i]? = some n) (hln : X.env.kindOf n = some .local) (hc : Names X x c) (hpa : ∀ hd : Option Value, PassesOwnAt (model X.prog X.w) (X.A.mark hd) X.A X.env X.xe) (tk : L2.Takes X Wout)
    (hb : ∀ (W : WX) (pn : List (Addr × Obj)) (xe : Value → Shared → Prop), L2N.Takes (X.tr pn xe) W → PassesOwn (model X.prog X.w) X.A X.env xe → PSs (X.tr pn xe) body (tb W))
    (hsu : ∀ (a : Addr) (oe : Obj) (cls : Value) (d : Option Addr) (pn : List (Addr × Obj)) (xe : Value → Shared → Prop), L2N.Zn cls d oe → (∃ vs, oe.data = .fields vs) → L2.Takes (suiteXa X a ((a, oe) :: pn) xe) (fun cls d σ H => Wout cls d (σ.set i none) H) →
      Hot1 (suiteXa X a ((a, oe) :: pn) xe).A (a, oe) → PySem.W.exmOne X.K cls c = some true → PSs (suiteXa X a ((a, oe) :: pn) xe) (b₀ :: suite) (ts a cls d)) :
    PS X (.Try body [.ExceptHandler (some (.Name x np)) (some n) (b₀ :: suite) pos'] [] [] pos) (fun D σ H => tb (wAsX X.K c i ts D) D σ H) := by
  refine ⟨fun pins s σ H D I h => ?_⟩
  have ok := I.ok
  have hfr : X.A.frames = some (X.env :: X.outer) := by rw [ok.frames, hs]
  have hloc : Loc X.env.scope n := .inl hln
  refine wpAny_Try_except ?_
  refine wpAny_mono ((hb (wAsX X.K c i ts D) (X.pn ++ pins) (fun e s₁ => wpAny (model X.prog X.w) X.A (noteFrame e X.env) (fun _ s₂ => wpAny (model X.prog X.w) X.A (setFlight e none) (fun _ s₃ =>
    wpAny (model X.prog X.w) X.A (handleBy e X.env [.ExceptHandler (some (.Name x np)) (some n) (b₀ :: suite) pos']) (SP X pins D) X.xe s₃) X.xe s₂) X.xe s₁) (fun u s' xx => ?_) PassesOwn.looking).run [] s σ H D (I.toTry _) h) (fun f s1 hsp => ?_) (fun e s1 he => he)
  · -- the catch
    obtain ⟨a, B, sI, pins', σ', H', cls, d, rfl, J', nb, up, sky, na, os, ag, hb1, hyes⟩ := xx
    have J : Inv X pins σ' H' sI := J'.ofTry ok
    have sky' : Sky B (X.env :: X.outer) a (L2N.Zn cls d) X.env.locals s'.heap := by rw [← hs]; exact sky
    show wpAny (model X.prog X.w) X.A (noteFrame (.ref a) X.env) _ _ _
    refine L2N.Sky.land L2N.Zn.steady hfr hf sky' fun h3 fl3 up3 => ?_
    have J3 : Inv X pins σ' H' { s' with heap := h3 } := J.landed nb fl3.1 (up.trans up3) os ag
    obtain ⟨oe3, vs3, he3, hz3, hd3⟩ := fl3.there
    have notFr : ∀ {h : Heap} {o : Obj} {vs : Array Value}, h.FunFrames B (X.env :: X.outer) → h.get? a = some o → o.data = .fields vs → a ∉ frs (X.env :: X.outer) := fun {h o vs} ff e dd hm => by
      obtain ⟨_, o', e', hnf⟩ := ff.mem hm
      rw [e] at e'; cases e'
      exact hnf _ dd
    have nfr := notFr fl3.2.2.1 he3 hd3
    have nL : a ≠ X.env.locals := fun z => nfr (List.mem_filterMap.mpr ⟨X.env, List.mem_cons_self, by rw [hf, z]⟩)
    have nF : a ∉ X.fs := fun hm => by
      obtain ⟨e, he, q⟩ := List.mem_filterMap.mp hm
      exact nfr (List.mem_filterMap.mpr ⟨e, List.mem_cons_of_mem _ he, q⟩)
    have S3 := J3.suite he3 hd3 na nL nF
    refine wpAny_handleBy_cons (codeAny_handlers_test ?_) (by intro q; cases q)
    have LT : PySem.W.Looks (model X.prog X.w) h3 (typeOf (.ref a)) cls := fun A Q E s k q => wpAny_typeOf_ref (k _ _ he3) (by rw [hz3.1]; exact q)
    have LM := PySem.W.exm_one (M := model X.prog X.w) (J3.kIn) LT hb1
    have test : ∀ {Q : Value → Shared → Prop} {E : Value → Shared → Prop}, Q c { s' with heap := h3 } → wpAny (model X.prog X.w) (X.A.mark (some (.ref a))) (eval (.Name x np) X.env) Q E { s' with heap := h3 } := fun {Q E} q => by
      obtain ⟨hg, hdbg, hm | ⟨hm, hv, hnn⟩⟩ := hc
      · exact ld_glob (X := X.suite a ((a, oe3) :: (X.pn ++ pins))) S3 hg hm q hdbg
      · exact ld_blt (X := X.suite a ((a, oe3) :: (X.pn ++ pins))) S3 hg hm hv q hnn hdbg
    refine test (LM.here ?_)
    refine codeAny_handlers_suite_as ?_
    refine HandSPX.lands_againZ fl3 fun h4 fl4 up4 => ?_
    have J4 : Inv X pins σ' H' { s' with heap := h4 } := J.landed nb fl4.1 ((up.trans up3).trans up4) os ag
    obtain ⟨oe4, vs4, he4, hz4, hd4⟩ := fl4.there
    have S4 := J4.suite he4 hd4 na nL nF
    refine store_ok (X := X.suite a ((a, oe4) :: (X.pn ++ pins))) (v := .ref a) S4 hN hi hloc rfl (fun s5 S5 => ?_) (.inr hln)
    refine wpAny_mono ((hsu a oe4 cls d (X.pn ++ pins) _ hz4 ⟨_, hd4⟩ (fun u2 s2 x2 => as_takes (pos' := pos') ok hs hf hN hi hln hpa tk x2) ⟨rfl, vs4, hd4, hz4.2.2 vs4 hd4⟩ hb1).run [] s5 _ H' _ (suiteXa_of S5) (hyes a na)) (fun f s6 hsp => ?_) (fun _ _ z => z)
    have end_ : ∀ {σ6 : L2.St} {H6 : Hp} {Q : Shared → Prop} {xe : Value → Shared → Prop}, Inv (suiteXa X a ((a, oe4) :: (X.pn ++ pins)) xe) [] σ6 H6 s6 → (∀ s7, Inv X pins (σ6.set i none) H6 s7 → Q s7) →
        wpAny (model X.prog X.w) X.A (do bindName X.env n .none; unbindBehindTheSuite X.env n pos') (fun _ s7 => Q s7) X.xe s6 := fun {σ6 H6 Q xe} S6 hq => gone_ok (unsuiteXa S6 ok) hN hi hln hq
    cases f with
    | next =>
      obtain ⟨σ6, H6, S6, q6⟩ := hsp
      exact end_ S6 fun s7 J7 => ⟨_, _, J7, q6⟩
    | brk =>
      obtain ⟨σ6, H6, S6, q6⟩ := hsp
      exact end_ S6 fun s7 J7 => ⟨_, _, J7, q6⟩
    | cont =>
      obtain ⟨σ6, H6, S6, q6⟩ := hsp
      exact end_ S6 fun s7 J7 => ⟨_, _, J7, q6⟩
    | ret u =>
      obtain ⟨v6, σ6, H6, S6, r6, q6⟩ := hsp
      exact end_ S6 fun s7 J7 => ⟨_, _, _, J7, r6, q6⟩
  · cases f with
    | next =>
      obtain ⟨σ', H', J', q⟩ := hsp
      exact wpAny_execs_nil ⟨σ', H', J'.ofTry ok, q⟩
    | brk =>
      obtain ⟨σ', H', J', q⟩ := hsp
      exact ⟨σ', H', J'.ofTry ok, q⟩
    | cont =>
      obtain ⟨σ', H', J', q⟩ := hsp
      exact ⟨σ', H', J'.ofTry ok, q⟩
    | ret u =>
      obtain ⟨v, σ', H', J', r, q⟩ := hsp
      exact ⟨v, σ', H', J'.ofTry ok, r, q⟩
end
end L2H
/-! Defs whose errors have no context; class methods called where the wish hangs on the slots. -/
namespace L2
open PySem PySem.Spec PyProof.Rows
section
variable {P : Program} {w : World} {K : PySem.W.Frag} {mg : Str → Option Value} {base : Heap}
theorem Fun.okN {x qual : Str} {st : Stmt} {f : Addr} {fd : FuncData} {N ps : List Str} {k : Nat} {sp : Sp} (F : Fun K x qual st f fd) (S : FnScope N ps (defScope st)) (len : ∀ vs H Q E, sp vs H Q E → vs.length = ps.length)
    (hbody : ∀ (cdv : Value) (A : Around) (outer : List Env) (s : Shared) (H : Hp) (vs : List V) (Q : VK) (E : XK), Room k (A.deeper (envOfC qual (defScope st) s.heap.objs.size f cdv)) → sp vs H Q E →
      ∃ t, PSs (cxOf (L2N.CX P w) P w K mg base N qual (defScope st) f cdv A outer s H E) (defBody st) t ∧ t { nx := fun _ H' => Q .non H', rt := Q } (start N vs) H) : FnOk P w K mg base (L2N.CX P w) (k + 1) f fd ps sp := by
  obtain ⟨oc, od, kV, doc, pm, an, cdv, ct, osl, rfl, lk, hcd⟩ := F.ex
  exact fn_of lk hcd S len fun A outer s H vs Q E hr hsp => hbody cdv A outer s H vs Q E hr hsp
end
end L2
namespace My
open PySem PySem.Spec PyProof.Rows L2
theorem rm1 {k : Nat} {A : Around} (r : Room k A) : A.depth + 1 < recursionLimit := by
  have := r.dp
  omega
/-- a callee that lets nothing out -/
theorem passNo {X : Cx} : Passes (L2.CX X.prog X.w) X (fun _ _ _ => False) := fun _ _ _ _ _ _ _ c => by
  obtain ⟨_, _, _, _, _, _, _, _, _, _, _, _, h⟩ := c
  exact h.elim
theorem run_fnRS {X : Cx} {CX : CXT} {n : Nat} {g : Addr} {sp : Sp} {E : XK} {pins : List (Addr × Obj)} {σ : L2.St} {H : Hp} {s : Shared} {Q : VK} {us : List Value} {ws : List V} (F : FnR X.prog X.w X.K X.mg X.base CX n g sp) (hr : Room n X.A) (hx : PassesAt CX X σ E) (I : Inv X pins σ H s) (r : Vals ws us) (h : sp ws H Q E) :
    codeAny (model X.prog X.w) X.A (.call (.ref g) ⟨us, []⟩) (fun r s' => match r with | .ok (.ret v) => EP X pins σ Q v s' | .ok _ => False | .error e => X.xe e s') s := by
  refine codeAny_mono (F X.A X.stack s H us ws Q E hr I.env0 r h) fun r s' hq => ?_
  cases r with
  | error e => exact hx pins H s e s' I hq
  | ok fl =>
    cases fl with
    | ret u => exact I.after hq
    | next => exact False.elim hq
    | brk => exact False.elim hq
    | cont => exact False.elim hq
open ClX in
theorem pe_cmS {X : Cx} {CX : CXT} {k : Nat} {C : Addr} {sp : Sp} {E : L2.St → XK} {o e : Expr} {es : List Expr} {m : Str} {pos apos : Pos} {ta : TE} {t : TA} {pl : Sem Bool} (M : ClsAt X.prog X.w X.K X.mg X.base CX k C m sp) (hr : Room k X.A) (hx : ∀ σ, PassesAt CX X σ (E σ)) (he : PE X o ta) (ha : PA X (e :: es) t)
    (hst : starEach (e :: es) X.env = (false, eval e X.env) :: starEach es X.env := by rfl) (hpl : (backTo pos (starEach es X.env)).any (·.1) = false := by rfl)
    (ht : eval (.Call (.Attribute o m apos) (e :: es) [] pos) X.env = (do
      let ov ← eval o X.env
      standAt apos.atName
      let (f, first) ← holding [ov] (getMethod ov m pl)
      callWith pos f first (backTo pos (starEach (e :: es) X.env)) (backToKw pos (keywordEach [] X.env))) := by rfl) :
    PE X (.Call (.Attribute o m apos) (e :: es) [] pos) (fun σ H Q => tCMeth C sp (E σ) ta t σ H Q) := by
  obtain ⟨mc, p, g, r, c, F⟩ := M.ex
  refine ⟨fun pins s σ H Q I h => ?_⟩
  refine PySem.W.methodCall_KW (pl := pl) (thn (he.run pins s σ H _ I h) fun u s1 ⟨x, H1, I1, rx, ex, q⟩ => ?_) ht
  subst ex
  obtain rfl : u = Value.ref C := rx
  refine getmethcm_ok I1 r c fun s2 I2 => ?_
  refine callwith_cm I2 (base_none I1 (Nat.le_refl _)) c.fi (thn (ha.run pos _ s2 σ H1 _ I2 q) fun us s3 ⟨vs, H2, I3, rv, q2⟩ => ⟨⟨pin_at I3, I3.kIn⟩, ?_⟩) hst hpl
  have z : wpAny (model X.prog X.w) X.A (call (.ref _) us) (EP X _ σ Q) X.xe s3 :=
    wpAny_call (PySem.W.method_call (pin_at I3) (run_fnRS (us := .ref C :: us) (ws := .ref C :: vs) F hr (hx σ) I3 (.cons rfl rv) q2))
  exact thn z fun _ _ y => unpinE y
end My
set_option pp.maxSteps 1500
set_option pp.deepTerms.threshold 8
/-! ### fractions read -/
namespace My
open PySem PySem.Spec PyProof.Rows L2 TX
abbrev s_rread : Stmt := inClass (topS 21) 5
theorem sc_rread : FnScope ["cls", "text", "words", "sign", "top", "bottom", "found"] ["cls", "text"] (defScope s_rread) := ⟨rfl, rfl, rfl, by decide +kernel, rfl, by decide +kernel, by decide +kernel⟩
abbrev s_rstr : Stmt := inClass (topS 21) 25
theorem sc_rstr : FnScope ["self"] ["self"] (defScope s_rstr) := ⟨rfl, rfl, rfl, by decide +kernel, rfl, by decide +kernel, by decide +kernel⟩
structure ZTx (P : Program) (K : PySem.W.Frag) (mg : Str → Option Value) (Cs : List Addr) (CR CC CL fL CP fP CS fS CM fM CT fT : Addr) (tM tE : Tok) : Prop extends CTx P K mg Cs CR CC CL fL CP fP CS fS CM fM, FTx mg tM where
  gEmpty : mg "EMPTY" = some (.str "empty" tE)
  e_BadText : Sup.Err2 P K mg "BadText" "line" "word" CT fT
  noStr : ∀ C ∈ Cs, PySem.W.kitOne K (.ref C) (.type "str") = some false
def ratT (a b : Int) : Str := if b = 1 then ((toString a : String) : Str) else ((Str.empty ++ ((toString a : String) : Str)) ++ "/") ++ ((toString b : String) : Str)
def spStrR (C : Addr) : Sp := fun vs H Q _ => ∃ (p : Addr) (a b : Int), vs = [.ref p] ∧ RatAt C H p a b ∧ a.natAbs.log2 < 1920 ∧ b.natAbs.log2 < 1920 ∧ Q (.str (ratT a b)) H
def wordsR : V → List Str
  | .str x => Txt.split x "/"
  | _ => []
def shortV : V → Prop
  | .str x => x.length ≤ 5000
  | _ => True
theorem wordsR_no {v : V} (h : ∀ x, v ≠ .str x) : wordsR v = [] := by
  cases v with
  | str x => exact absurd rfl (h x)
  | _ => rfl
def readV (v : V) : Option (Int × Int) := match v with
  | .str x => RT.readR (TL.tl x)
  | _ => none
theorem words_len9 {v : V} (sh : shortV v) : (∀ y ∈ wordsR v, y.length ≤ 5000) ∧ (wordsR v).length ≤ 6000 := by
  cases v with
  | str x =>
    obtain ⟨n1, n2, n3⟩ := split1_len (x := x) (y := "/") (s := 47) (by decide +kernel) (by decide +kernel)
    have sh : x.length ≤ 5000 := sh
    exact ⟨fun y hy => Nat.le_trans (n3 y hy) sh, by show (Txt.split x "/").length ≤ 6000; omega⟩
  | _ => exact ⟨(fun y hy => nomatch hy), Nat.zero_le _⟩
theorem readV_none {v : V} (h : RT.partsR ((wordsR v).map TL.tl) = none) : readV v = none := by
  cases v with
  | str x =>
    show RT.readR (TL.tl x) = none
    unfold RT.readR
    rw [← split1_spl (x := x) (y := "/") (s := 47) (by decide +kernel) (by decide +kernel)]
    have h : RT.partsR ((Txt.split x "/").map TL.tl) = none := h
    rw [h]
  | _ => rfl
theorem readV_some {v : V} {t b : Int} (h : RT.partsR ((wordsR v).map TL.tl) = some (t, b)) : ∃ x, v = .str x ∧ readV v = if RT.txt (lowT t b) (lowB t b) = TL.tl x then some (lowT t b, lowB t b) else none := by
  cases v with
  | str x =>
    refine ⟨x, rfl, ?_⟩
    show RT.readR (TL.tl x) = _
    unfold RT.readR
    rw [← split1_spl (x := x) (y := "/") (s := 47) (by decide +kernel) (by decide +kernel)]
    have h : RT.partsR ((Txt.split x "/").map TL.tl) = some (t, b) := h
    rw [h]
  | _ => cases h
theorem tl_rat (a b : Int) : TL.tl (ratT a b) = RT.txt a b := by
  have es : TL.tl ("/" : Str) = [47] := by decide +kernel
  have e0 : TL.tl Str.empty = [] := rfl
  unfold ratT RT.txt
  split
  · exact tl_int a
  · show TL.tl ((Str.empty ++ Str.ofString (toString a)) ++ "/" ++ Str.ofString (toString b)) = _
    rw [TL.tl_append, TL.tl_append, TL.tl_append, e0, es, tl_int, tl_int]
    simp only [List.nil_append, List.append_assoc]
/-- Ratio.read -/
def spRRead (Cs : List Addr) (C CT : Addr) : Sp := fun vs H Q E => ∃ v : V, vs = [.ref C, v] ∧ AnyF Cs H v ∧ shortV v ∧
  (∀ a b, readV v = some (a, b) → 0 < b → Int.gcd a b = 1 → Sm a → Sm b → ∀ q H', RatAt C H' q a b → Same H H' → Q (.ref q) H') ∧ (readV v = none → ErrT E CT 0 H)
/-- p < v -/
def spLtR (C : Addr) : Sp := fun vs H Q _ => ∃ (p : Addr) (a b : Int) (v : V) (c d : Int), vs = [.ref p, v] ∧ RatAt C H p a b ∧ NumAt C H v c d ∧ Sm a ∧ Sm b ∧ Sm c ∧ Sm d ∧ ∀ H', Same H H' → Q (.bl (decide (a * d < c * b))) H'
def spNegR (C : Addr) : Sp := fun vs H Q _ => ∃ (p : Addr) (a b : Int), vs = [.ref p] ∧ RatAt C H p a b ∧ Lw a b ∧ b.natAbs.log2 < 9000 ∧ ∀ q H', RatAt C H' q (-a) b → Same H H' → Q (.ref q) H'
section
variable {P : Program} {w : World} {K : PySem.W.Frag} {mg : Str → Option Value} {base : Heap} {Cs : List Addr} {CR CC CL fL CP fP CS fS CM fM CT fT : Addr} {tM tE : Tok}
theorem ok_rstr {f : Addr} {fd : FuncData} (F : Fun K "__str__" "Ratio.__str__" s_rstr f fd) (T : RTx K mg Cs CR) : FnOk P w K mg base CX0 1 f fd ["self"] (spStrR CR) := by
  refine F.ok sc_rstr (fun vs H Q E h => ?_) (fun cdv A outer s H vs Q E hr h => ?_)
  · obtain ⟨p, a, b, rfl, _⟩ := h
    rfl
  · obtain ⟨p, a, b, rfl, ⟨dx, e⟩, ha, hb, k⟩ := h
    refine ⟨_, (pss_cons (ps_if (pt_cmpR op_eq (pe_fld (pv 0) rfl) pe_int (nomark _)) (pss_one (ps_ret (pe_callTy call_str_int (by rfl) T.z_str boot_str (pa_cons (pe_fld (pv 0) rfl) pa_nil)))) pss_nil)
      (pss_one (ps_ret (pe_joined (PJ.cons (pe_fmt (pe_fld (pv 0) rfl)) (PJ.cons pe_str (PJ.cons (pe_fmt (pe_fld (pv 0) rfl)) PJ.nil))))))), ?_⟩
    refine ⟨_, rfl, p, CR, dx, _, _, rfl, e, T.cl, T.nB, rfs_bot _ _, rfl, _, rfl, ?_⟩
    refine ite2 (fun c => ?_) (fun c => ?_)
    · have c' : b = 1 := V.int.inj (of_decide_eq_true c)
      unfold ratT at k
      rw [if_pos c'] at k
      exact ⟨_, rfl, p, CR, dx, _, _, rfl, e, T.cl, T.nT, rfs_top _ _, a, rfl, ha, k⟩
    · have c' : ¬ b = 1 := fun z => c (decide_eq_true (by rw [z]))
      unfold ratT at k
      rw [if_neg c'] at k
      have la := num_len ha
      have lb := num_len hb
      have e1 : (Str.empty).length = 0 := rfl
      have e2 : (("/" : Str)).length = 1 := rfl
      exact ⟨_, rfl, p, CR, dx, _, _, rfl, e, T.cl, T.nT, rfs_top _ _, .inr ⟨a, rfl, ha, _, rfl, by rw [app_len, sizeLine_eq]; omega, _, rfl, by rw [app_len, app_len, sizeLine_eq]; omega, _, rfl, p, CR, dx, _, _, rfl, e, T.cl, T.nB, rfs_bot _ _, .inr ⟨b, rfl, hb, _, rfl, by rw [app_len, app_len, app_len, sizeLine_eq]; omega, k⟩⟩⟩
theorem ok_rread {f : Addr} {fd : FuncData} (F : Fun K "read" "Ratio.read" s_rread f fd) (T : ZTx P K mg Cs CR CC CL fL CP fP CS fS CM fM CT fT tM tE) (D_figof : DefAt P w K mg base CX0 1 "figures_of" ["text"] (spWord dg))
    (M_Ratio : MakeAt P w K mg base (L2.CX P w) 3 "Ratio" CR ["self", "top", "bottom"] (spRinit CR) []) (ST_str : CmpAt P w K mg base CX0 1 CR "__str__" ["self"] (spStrR CR)) : FnOk P w K mg base (L2N.CX P w) 6 f fd ["cls", "text"] (spRRead Cs CR CT) := by
  refine F.okN sc_rread (fun vs H Q E h => ?_) (fun cdv A outer s H vs Q E hr h => ?_)
  · obtain ⟨v, rfl, _⟩ := h
    rfl
  · obtain ⟨v, rfl, ty, sh, k1, k2⟩ := h
    refine ⟨_, (C8.pss_cut (ps_set (i := 2) sc_rread.nd rfl (Or.inl rfl) (pe_ifExp (pt_val (pe_callB call_isi (by rfl) T.z_isinstance boot_isinstance (pa_cons (pv 1) (pa_cons (pe_bltn (v := .ty "str") (by rfl) T.z_str boot_str rfl) pa_nil)))) (pe_split (pv 1) pe_str) (pe_lst pa_nil)))
      (pss_cons (ps_if (pt_cmpR op_in_seq (pe_callB call_len (by rfl) T.z_len PySem.boot_len (pa_cons (pv 2) pa_nil)) (pe_tup (pa_cons pe_int (pa_cons pe_int pa_nil))) (by rfl)) (C8.pss_cut (ps_set (i := 3) sc_rread.nd rfl (Or.inl rfl) (pe_ifExp (pt_cmpR op_eq (pe_slice sl_str (pe_ix ix_list (pv 2) pe_int (fun _ _ => rfl)) po_none (po_some pe_int)) pe_str (nomark _)) (pe_un un_neg pe_int) pe_int))
      (C8.pss_cut (ps_set (i := 4) sc_rread.nd rfl (Or.inl rfl) (My.pe_d D_figof (hr.mono (by decide)) (by rfl) pass0 (pa_cons (pe_ifExp (pt_cmpR op_lt (pv 3) pe_int (nomark _)) (pe_slice sl_str (pe_ix ix_list (pv 2) pe_int (fun _ _ => rfl)) (po_some pe_int) po_none) (pe_ix ix_list (pv 2) pe_int (fun _ _ => rfl))) pa_nil)))
      (C8.pss_cut (ps_set (i := 5) sc_rread.nd rfl (Or.inl rfl) (pe_ifExp (pt_cmpR op_eq (pe_callB call_len (by rfl) T.z_len PySem.boot_len (pa_cons (pv 2) pa_nil)) pe_int (nomark _)) (My.pe_d D_figof (hr.mono (by decide)) (by rfl) pass0 (pa_cons (pe_ix ix_list (pv 2) pe_int (fun _ _ => rfl)) pa_nil)) pe_int))
      (pss_one (ps_if (PW.pt (pw_and (pt_cmpR op_notN (pv 4) pe_non (nomark _)) (pw_and (pt_cmpR op_notN (pv 5) pe_non (nomark _)) (pw_and1 (pt_cmpR op_gt (pv 5) pe_int (nomark _)))))) (pss_cons (ps_set (i := 6) sc_rread.nd rfl (Or.inl rfl) (My.pe_mkL M_Ratio (hr.mono (by decide)) My.passNo (pv 0) (pa_cons (pe_op op_mul (pv 3) (pv 4)) (pa_cons (pv 5) pa_nil))))
      (pss_one (ps_if (pt_cmpR op_eq (pe_callTy (My.call_strO ST_str (hr.mono (by decide)) pass0) (by rfl) T.z_str boot_str (pa_cons (pv 6) pa_nil)) (pv 1) (nomark _)) (pss_one (ps_ret (pv 6))) pss_nil))) pss_nil))))) pss_nil)
      (pss_one (L2H.ps_raise2N rfl T.e_BadText (My.rm1 hr) (L2N.takes_of rfl rfl rfl rfl) (pa_cons pe_int (pa_cons pe_int pa_nil)))))), ?_⟩
    obtain ⟨lw, nw⟩ := words_len9 sh
    refine ⟨fun σ Hz => ∃ l, σ = [some (.ref CR), some v, some (.ref l), none, none, none, none] ∧ Hz l = some (.lst ((wordsR v).map V.str)) ∧ Same H Hz, ?_, ?_⟩
    · obtain ⟨t, b, ht, hk, hb⟩ : ∃ t b, TyX K H v t ∧ PySem.W.kitOne K t (.type "str") = some b ∧ (b = true → ∃ x, v = .str x) ∧ (b = false → ∀ x, v ≠ .str x) := by
        rcases ty with ⟨t, ty⟩ | ⟨C, hC, a, dx, fs, rfl, ea⟩
        · obtain ⟨b, h1, h2⟩ := kstr (K := K) ty
          exact ⟨_, b, ty.tyx, h1, h2⟩
        · exact ⟨_, false, (T.fam.own C hC).ty ea, T.noStr C hC, (fun z => Bool.noConfusion z), fun _ _ z => nomatch z⟩
      refine ⟨_, rfl, v, _, t, _, b, rfl, .ty _, ht, hk, _, rfl, ?_⟩
      cases b with
      | false =>
        refine iteF ⟨(by show 0 ≤ sizeLine; decide), fun l hl => ⟨l, rfl, ?_, same_new hl⟩⟩
        rw [wordsR_no (hb.2 rfl)]
        exact upd_same
      | true =>
        obtain ⟨x, rfl⟩ := hb.1 rfl
        have sh : x.length ≤ 5000 := sh
        exact iteT ⟨_, rfl, ⟨x, rfl⟩, x, "/", rfl, rfl, by decide +kernel, (by rw [sizeLine_eq]; omega), fun l hl => ⟨l, rfl, upd_same, same_new hl⟩⟩
    rintro σ H1 ⟨l, rfl, L, s1⟩
    generalize ew : wordsR v = ws at L lw nw
    refine ⟨_, rfl, _, _, rfl, .inl ⟨_, SqL.of L, rfl⟩, (by show 2 ≤ sizeLine; decide), fun t1 g1 => ⟨t1, _, rfl, .inr (SqT.of upd_same), rfl, rfl, _, rfl, ?_⟩⟩
    have s2 := same_new (o := .tup [.int 1, .int 2]) g1
    have L2 := s2 _ _ L
    have t2 := s1.trans s2
    generalize upd H1 t1 (.tup [.int 1, .int 2]) = H2 at s2 L2 t2
    have ein : inV (.int ((ws.map V.str).length : Nat)) [.int 1, .int 2] = decide (ws.length = 1 ∨ ws.length = 2) := by
      rw [List.length_map]
      show ((1 : Int) == ((ws.length : Nat) : Int) || ((2 : Int) == ((ws.length : Nat) : Int) || false)) = _
      rw [Bool.or_false]
      by_cases c1 : ws.length = 1
      · rw [c1]; rfl
      · by_cases c2 : ws.length = 2
        · rw [c2]; rfl
        · rw [decide_eq_false (by omega), Bool.or_eq_false_iff, beq_eq_false_iff_ne, beq_eq_false_iff_ne]
          exact ⟨by omega, by omega⟩
    show (if inV (.int ((ws.map V.str).length : Nat)) [.int 1, .int 2] = true then _ else _)
    rw [ein]
    by_cases hl : ws.length = 1 ∨ ws.length = 2
    case neg =>
      rw [decide_eq_false hl]
      have no : readV v = none := readV_none (by
        rw [ew]
        rcases ws with _ | ⟨w0, _ | ⟨w1, _ | ⟨w2, ws⟩⟩⟩
        · rfl
        · exact absurd (.inl rfl) hl
        · exact absurd (.inr rfl) hl
        · rfl)
      exact iteF ⟨_, _, rfl, fun d hd => ((k2 no).up t2).go hd⟩
    rw [decide_eq_true hl]
    refine iteT ?_
    obtain ⟨w0, rest, rfl⟩ : ∃ w0 rest, ws = w0 :: rest := by
      cases ws with
      | nil => rcases hl with z | z <;> cases z
      | cons a r => exact ⟨a, r, rfl⟩
    have l0 : w0.length ≤ 5000 := lw w0 List.mem_cons_self
    have e45 : TL.tl ("-" : Str) = [45] := by decide +kernel
    have ea : atI ((w0 :: rest).map V.str) (0 : Int) = some (.str w0) := at0
    -- sign
    refine ⟨fun σ Hz => σ = [some (.ref CR), some v, some (.ref l), some (.int (if RT.neg (TL.tl w0) = true then -1 else 1)), none, none, none] ∧ Hz = H2, ?_, ?_⟩
    · refine ⟨_, rfl, l, _, _, _, rfl, rfl, SqL.of L2, ea, 1, rfl, w0, rfl, sl5 l0, rfl, _, rfl, ?_⟩
      rw [str_eq, cut_to1, e45]
      refine ite2 (fun c => ?_) (fun c => ?_)
      · refine ⟨_, rfl, ?_, rfl⟩
        rw [if_pos (show RT.neg (TL.tl w0) = true from c)]
        rfl
      · refine ⟨?_, rfl⟩
        rw [if_neg (show ¬ RT.neg (TL.tl w0) = true from c)]
        rfl
    rintro σ Hz ⟨rfl, rfl⟩
    -- top
    refine ⟨fun σ H3 => σ = [some (.ref CR), some v, some (.ref l), some (.int (if RT.neg (TL.tl w0) = true then -1 else 1)), some (optV (dg (RT.top0 (TL.tl w0)))), none, none] ∧ Same Hz H3, ?_, ?_⟩
    · refine ⟨_, rfl, _, _, rfl, rfl, _, rfl, ?_⟩
      cases c : RT.neg (TL.tl w0) with
      | true =>
        refine iteT ⟨_, rfl, l, _, _, _, rfl, rfl, SqL.of L2, ea, 1, rfl, w0, rfl, sl5 l0, _, rfl, Nat.le_trans (cutS_length ..) l0, fun H3 s3 => ?_⟩
        rw [cut_from1]
        refine ⟨?_, s3⟩
        unfold RT.top0
        rw [c]
        rfl
      | false =>
        refine iteF ⟨_, rfl, l, _, _, _, rfl, rfl, SqL.of L2, ea, w0, rfl, l0, fun H3 s3 => ⟨?_, s3⟩⟩
        unfold RT.top0
        rw [c]
        rfl
    rintro σ H3 ⟨rfl, s3⟩
    have L3 := s3 _ _ L2
    have t3 := t2.trans s3
    -- bottom
    refine ⟨fun σ H4 => ∃ o : Option Int, σ = [some (.ref CR), some v, some (.ref l), some (.int (if RT.neg (TL.tl w0) = true then -1 else 1)), some (optV (dg (RT.top0 (TL.tl w0)))), some (optV o), none] ∧ o = (match rest.map TL.tl with | [] => some 1 | w1 :: _ => dg w1) ∧ Same H3 H4, ?_, ?_⟩
    · refine ⟨_, rfl, _, _, rfl, .inl ⟨_, SqL.of L3, rfl⟩, rfl, _, rfl, ?_⟩
      rcases rest with _ | ⟨w1, rest⟩
      · exact iteF ⟨some 1, rfl, rfl, fun _ _ e => e⟩
      · have e2 : (w0 :: w1 :: rest).length = 2 := by
          rcases hl with z | z
          · have : (w0 :: w1 :: rest).length = rest.length + 1 + 1 := rfl
            omega
          · exact z
        have ed : decide (V.int (((w0 :: w1 :: rest).map V.str).length : Nat) = V.int 2) = true := by
          rw [List.length_map, e2]
          rfl
        show (if decide (V.int (((w0 :: w1 :: rest).map V.str).length : Nat) = V.int 2) = true then _ else _)
        rw [ed]
        have l1 : w1.length ≤ 5000 := lw w1 (by simp)
        exact iteT ⟨_, rfl, l, _, _, _, rfl, rfl, SqL.of L3, at1, w1, rfl, l1, fun H4 s4 => ⟨dg (TL.tl w1), rfl, rfl, s4⟩⟩
    rintro σ H4 ⟨o, rfl, eo, s4⟩
    have t4 := t3.trans s4
    have raise : readV v = none → ∀ Hy, Same H Hy → ErrT E CT 0 Hy := fun no Hy sy => (k2 no).up sy
    have PN : dg (RT.top0 (TL.tl w0)) = none → RT.partsR ((w0 :: rest).map TL.tl) = none := fun z => by
      rcases rest with _ | ⟨w1, _ | ⟨w2, rest⟩⟩
      · exact RT.parts_one0 z
      · exact RT.parts_two0 z
      · rfl
    have PO : o = none → RT.partsR ((w0 :: rest).map TL.tl) = none := fun z => by
      rcases rest with _ | ⟨w1, _ | ⟨w2, rest⟩⟩
      · rw [z] at eo
        cases eo
      · exact RT.parts_two1 (eo.symm.trans z)
      · rfl
    have PS : ∀ tp b, dg (RT.top0 (TL.tl w0)) = some tp → o = some b → RT.partsR ((w0 :: rest).map TL.tl) = if 0 < b then some ((if RT.neg (TL.tl w0) = true then -1 else 1) * tp, b) else none := fun tp b z1 z2 => by
      rcases rest with _ | ⟨w1, _ | ⟨w2, rest⟩⟩
      · have eb : some b = some (1 : Int) := z2.symm.trans eo
        cases eb
        exact RT.parts_one z1
      · exact RT.parts_two z1 (eo.symm.trans z2)
      · rcases hl with z | z
        · have : (w0 :: w1 :: w2 :: rest).length = rest.length + 1 + 1 + 1 := rfl
          omega
        · have : (w0 :: w1 :: w2 :: rest).length = rest.length + 1 + 1 + 1 := rfl
          omega
    rw [← ew] at PN PO PS
    refine ⟨_, rfl, rfl, _, rfl, ?_⟩
    cases et : dg (RT.top0 (TL.tl w0)) with
    | none => exact iteF ⟨_, _, rfl, fun d hd => (raise (readV_none (PN et)) H4 t4).go hd⟩
    | some tp =>
      refine iteT ⟨_, rfl, rfl, _, rfl, ?_⟩
      cases o with
      | none => exact iteF ⟨_, _, rfl, fun d hd => (raise (readV_none (PO rfl)) H4 t4).go hd⟩
      | some b =>
        refine iteT ⟨_, rfl, _, _, rfl, rfl, _, rfl, ite2 (fun c => ?_) (fun c => ?_)⟩
        · have hb : 0 < b := of_decide_eq_true c
          have pp := PS tp b et rfl
          rw [if_pos hb] at pp
          obtain ⟨x, rfl, er⟩ := readV_some pp
          have bt := dg_lt et
          have bb : b < 10 ^ 60 := by
            rcases rest with _ | ⟨w1, rest⟩
            · cases eo
              decide
            · exact (dg_lt eo.symm).2
          have e60 : (10 : Int) ^ 60 = 1000000000000000000000000000000000000000000000000000000000000 := by decide +kernel
          have e2 : (2 : Nat) ^ 300 = 2037035976334486086268445688409378161051468393665936250636140449354381299763336706183397376 := by decide +kernel
          rw [e60] at bt bb
          have b0 : b ≠ 0 := by omega
          have sb : Sm b := by
            unfold Sm
            rw [e2]
            omega
          have st : Sm ((if RT.neg (TL.tl w0) = true then -1 else 1) * tp) := by
            unfold Sm
            rw [e2]
            split <;> omega
          generalize hs : (if RT.neg (TL.tl w0) = true then (-1 : Int) else 1) = sg at pp er st ⊢
          have hs : sg = -1 ∨ sg = 1 := by
            rw [← hs]
            split
            · exact .inl rfl
            · exact .inr rfl
          refine ⟨_, rfl, rfl, _, rfl, _, rfl, _, _, rfl, rfl, ?_, ?_⟩
          · rcases hs with rfl | rfl <;> exact .inl ⟨by decide, by decide⟩
          refine ⟨_, rfl, fun q dx hx hd ne => rinit_at b0 (Nat.lt_trans sb.log (by decide)) hx hd ne fun H5 l5 s5 => ?_⟩
          have t5 := t4.trans s5
          have sT : Sm (lowT (sg * tp) b) := Nat.lt_of_le_of_lt (lowT_abs b0) st
          have sB : Sm (lowB (sg * tp) b) := Nat.lt_of_le_of_lt (lowB_abs b0) sb
          obtain ⟨dx5, e5⟩ := id l5
          refine ⟨_, rfl, q, dx5, _, rfl, e5, q, _, _, rfl, l5, sT.log, sB.log, _, rfl, _, rfl, rfl, _, rfl, ?_⟩
          rw [str_eq, tl_rat]
          refine ite2 (fun d => ?_) (fun d => ?_)
          · refine ⟨_, rfl, k1 _ _ ?_ (lowB_pos b0) (low_cop b0) sT sB q H5 l5 t5⟩
            rw [er, if_pos (of_decide_eq_true d)]
          · refine ⟨_, _, rfl, fun dd hdd => (raise ?_ H5 t5).go hdd⟩
            rw [er, if_neg (fun z => d (decide_eq_true z))]
        · have pp := PS tp b et rfl
          rw [if_neg (fun z => c (decide_eq_true z))] at pp
          exact ⟨_, _, rfl, fun d hd => (raise (readV_none pp) H4 t4).go hd⟩
end
end My
/-! Rules for use within a comprehension: the table of the text is named apart from the context. -/
namespace My
open PySem PySem.Spec PyProof.Rows L2
section
variable {X : Cx} {K : PySem.W.Frag}
theorem pe_fldB {e : Expr} {f : Str} {ta : TE} {pos : Pos} (hK : X.K = K) (he : PE X e ta) (hb : attributeBase e f X.env (eval e X.env) = eval e X.env) : PE X (.Attribute e f pos) (tFld K ta f) := by
  subst hK
  exact pe_fld he hb
theorem call_lenB (hK : X.K = K) : CallR X (.builtin "len") (fun xs H Q => ∃ x n, xs = [x] ∧ LenV K x H n ∧ Q (.int n) H) := by
  subst hK
  exact call_len
theorem cr_sumB (hK : X.K = K) (hc : X.calm = true) : CallR X (.builtin "sum") (rSum K) := by
  subst hK
  exact cr_sum hc
theorem ix_tupP (hK : X.K = K) : IxR X (rIxT K) := by
  subst hK
  exact ix_tup
theorem pg_tupB {es : List Expr} {k n : Nat} {t : TGs} {pos : Pos} (hK : X.K = K) (hc : X.calm = true) (h : PGs X es t) (hn : (assignEach es X.env).length = n := by rfl) (hst : (assignEach es X.env).findIdx? (·.1) = none := by rfl) : PG X (.Tuple es k pos) (gTup K n t) := by
  subst hK
  exact pg_tup hc h hn hst
end
end My
/-! Lines as texts: what is read of words. -/
namespace TX
open PySem PySem.Spec PyProof.Rows L2 TL
/-- a number with its sign -/
def sg (l : List Nat) : Option Int := if l.take 1 = [45] then (match dg (l.drop 1) with | none => none | some k => if k = 0 then none else some (0 - k)) else dg l
/-- a slope -/
def rs (l : List Nat) : Option Int :=
  if l.drop (l.length - 1) = [109] then (if l = [109] then some 1 else if l = [45, 109] then some (-1) else match sg l.dropLast with | none => none | some k => if k = 0 ∨ k = 1 ∨ k = -1 then none else some k) else none
/-- what is read: the first wrong word, or the parts -/
inductive RL where
  | word (k : Nat)
  | line (a b : Int)
  deriving DecidableEq
def readM (s : Int) (rest : List (List Nat)) : RL :=
  match rest with
  | [] => .line s 0
  | w1 :: rest => if w1 = [43] ∨ w1 = [45] then
      (match rest with
      | [] => .word 2
      | w2 :: rest => match dg w2 with
        | none => .word 2
        | some k => if k = 0 then .word 2 else if rest = [] then .line s (if w1 = [43] then k else 0 - k) else .word 3)
    else .word 1
def readL (ws : List (List Nat)) : RL :=
  match ws with
  | [] => .word 0
  | w0 :: rest => match rs w0 with
    | none => (match sg w0 with | none => .word 0 | some b => if rest = [] then .line 0 b else .word 1)
    | some s => readM s rest
/-! ### what is written is read -/
theorem dg_head {l : List Nat} {c : Nat} {r : List Nat} (e : l = c :: r) (h : isDig c = false) : dg l = none := by
  unfold dg
  rw [if_neg]
  intro z
  have := (okD_all z).2.2 c (by rw [e]; exact List.mem_cons_self)
  rw [Bool.eq_false_iff] at h
  exact h (isDig_iff.mpr this)
theorem take1_num (n : Nat) : (numL n).take 1 ≠ [45] := by
  cases e : numL n with
  | nil => exact absurd e (numL_ne n)
  | cons c l =>
    intro z
    have z : [c] = [45] := z
    have : c = 45 := (List.cons.inj z).1
    have h := numL_digits n c (by rw [e]; exact List.mem_cons_self)
    omega
theorem sg_int {i : Int} (h : i.natAbs < 10 ^ 60) : sg (intL i) = some i := by
  unfold sg intL
  by_cases c : i < 0
  · rw [if_pos c, if_pos (show (45 :: numL i.natAbs).take 1 = [45] from rfl)]
    show (match dg (numL i.natAbs) with | none => none | some k => if k = 0 then none else some (0 - k)) = _
    rw [dg_num h]
    show (if ((i.natAbs : Nat) : Int) = 0 then none else some (0 - ((i.natAbs : Nat) : Int))) = _
    rw [if_neg (by omega)]
    congr 1
    omega
  · rw [if_neg c, if_neg (take1_num _), dg_num h]
    congr 1
    omega
theorem last_m (l : List Nat) : (l ++ [109]).drop ((l ++ [109]).length - 1) = [109] := by
  rw [List.length_append]
  show List.drop (l.length + 1 - 1) _ = _
  rw [Nat.add_sub_cancel, List.drop_left]
theorem rs_int {i : Int} (h : i.natAbs < 10 ^ 60) (h0 : i ≠ 0) (h1 : i ≠ 1) (h2 : i ≠ -1) : rs (intL i ++ [109]) = some i := by
  have n1 : ¬ intL i ++ [109] = [109] := fun z => by
    have e := congrArg List.length z
    rw [List.length_append] at e
    have l0 : (intL i).length = 0 := by
      have : ([109] : List Nat).length = 1 := rfl
      omega
    have l1 : intL i = [] := List.eq_nil_of_length_eq_zero l0
    unfold intL at l1
    split at l1
    · cases l1
    · exact numL_ne _ l1
  have n2 : ¬ intL i ++ [109] = [45, 109] := fun z => by
    have e : intL i = [45] := List.append_inj_left' (t₁ := [109]) (t₂ := [109]) (by rw [z]; rfl) rfl
    unfold intL at e
    split at e
    · have := (List.cons.inj e).2
      exact numL_ne _ this
    · have := numL_digits i.natAbs 45 (by rw [e]; exact List.mem_singleton.mpr rfl)
      omega
  unfold rs
  rw [if_pos (last_m _), if_neg n1, if_neg n2, List.dropLast_concat, sg_int h]
  show (if i = 0 ∨ i = 1 ∨ i = -1 then none else some i) = _
  rw [if_neg (by omega)]
theorem rs_no {i : Int} : rs (intL i) = none := by
  unfold rs
  rw [if_neg]
  intro z
  have hm : (109 : Nat) ∈ intL i := by
    have : (109 : Nat) ∈ (intL i).drop ((intL i).length - 1) := by rw [z]; exact List.mem_singleton.mpr rfl
    exact List.mem_of_mem_drop this
  exact intL_free (i := i) (by decide) (by decide) hm
/-- the slope as written -/
def headL (a : Int) : List Nat := if a = 1 then [109] else if a = -1 then [45, 109] else intL a ++ [109]
theorem rs_head {a : Int} (h : a.natAbs < 10 ^ 60) (h0 : a ≠ 0) : rs (headL a) = some a := by
  unfold headL
  split
  · rename_i c
    rw [c]
    decide
  · split
    · rename_i c
      rw [c]
      decide
    · rename_i h1 h2
      exact rs_int h h0 h1 h2
theorem headL_free {a : Int} : (32 : Nat) ∉ headL a := by
  unfold headL
  split
  · decide
  · split
    · decide
    · intro z
      rcases List.mem_append.mp z with z | z
      · exact intL_free (by decide) (by decide) z
      · exact absurd z (by decide)
/-- the words of a line's text -/
def lineWs (a b : Int) : List (List Nat) := if a = 0 then [intL b] else if b = 0 then [headL a] else [headL a, if 0 < b then [43] else [45], numL b.natAbs]
theorem read_line {a b : Int} (ha : a.natAbs < 10 ^ 60) (hb : b.natAbs < 10 ^ 60) : readL (lineWs a b) = .line a b := by
  unfold lineWs
  split
  · rename_i c
    show (match rs (intL b) with | none => _ | some s => _) = _
    rw [rs_no, sg_int hb, c]
    rfl
  · rename_i c
    split
    · rename_i d
      show (match rs (headL a) with | none => _ | some s => _) = _
      rw [rs_head ha c, d]
      rfl
    · rename_i d
      show (match rs (headL a) with | none => _ | some s => _) = _
      rw [rs_head ha c]
      show readM a [if 0 < b then [43] else [45], numL b.natAbs] = _
      by_cases g : 0 < b
      · rw [if_pos g]
        show (match dg (numL b.natAbs) with | none => _ | some k => _) = _
        rw [dg_num hb]
        show (if ((b.natAbs : Nat) : Int) = 0 then RL.word 2 else if ([] : List (List Nat)) = [] then RL.line a (if [43] = [43] then ((b.natAbs : Nat) : Int) else 0 - ((b.natAbs : Nat) : Int)) else .word 3) = _
        rw [if_neg (by omega), if_pos rfl, if_pos rfl]
        congr 1
        omega
      · rw [if_neg g]
        show (match dg (numL b.natAbs) with | none => _ | some k => _) = _
        rw [dg_num hb]
        show (if ((b.natAbs : Nat) : Int) = 0 then RL.word 2 else if ([] : List (List Nat)) = [] then RL.line a (if [45] = [43] then ((b.natAbs : Nat) : Int) else 0 - ((b.natAbs : Nat) : Int)) else .word 3) = _
        rw [if_neg (by omega), if_pos rfl, if_neg (by decide)]
        congr 1
        omega
theorem lineWs_free {a b : Int} : ∀ p ∈ lineWs a b, (32 : Nat) ∉ p := fun p hp => by
  unfold lineWs at hp
  split at hp
  · rw [List.mem_singleton.mp hp]
    exact intL_free (by decide) (by decide)
  · split at hp
    · rw [List.mem_singleton.mp hp]
      exact headL_free
    · simp only [List.mem_cons, List.mem_nil_iff, or_false] at hp
      rcases hp with rfl | rfl | rfl
      · exact headL_free
      · split <;> decide
      · exact numL_free (by decide)
theorem lineWs_ne {a b : Int} : lineWs a b ≠ [] := by
  unfold lineWs
  split
  · simp
  · split <;> simp
/-- split a joined text -/
theorem words_of {x : Str} {ps : List (List Nat)} (h : tl x = joinL [32] ps) (hne : ps ≠ []) (hf : ∀ p ∈ ps, (32 : Nat) ∉ p) : (Txt.split x " ").map tl = ps := by
  have ey : tl (" " : Str) = [32] := by decide +kernel
  rw [split_spl x " " (by rw [ey]; simp) (kind_ok (by decide +kernel)), ey, h]
  exact spl_join hne hf
theorem split_ne (x : Str) : ∃ w ws, (Txt.split x " ").map tl = w :: ws := by
  have ey : tl (" " : Str) = [32] := by decide +kernel
  rw [split_spl x " " (by rw [ey]; simp) (kind_ok (by decide +kernel)), ey]
  have : ∀ (l acc : List Nat) (k : Nat), ∃ w ws, spl [32] k acc l = w :: ws := by
    intro l
    induction l with
    | nil => intro acc k; exact ⟨acc, [], spl_nil _ _ _⟩
    | cons c r ih =>
      intro acc k
      cases k with
      | zero =>
        by_cases h : pre [32] (c :: r) = true
        · exact ⟨acc, _, spl_hit h⟩
        · rw [spl_miss (by simpa using h)]
          exact ih _ _
      | succ k =>
        show ∃ w ws, spl [32] k acc r = w :: ws
        exact ih _ _
  exact this _ _ _
theorem spl_len : ∀ (l acc : List Nat) (k : Nat), (spl [32] k acc l).length ≤ l.length + 1 ∧ ((spl [32] k acc l).map List.length).sum ≤ acc.length + l.length
  | [], acc, k => by
    rw [spl_nil]
    show 1 ≤ 1 ∧ acc.length + 0 ≤ acc.length + 0
    omega
  | c :: r, acc, 0 => by
    by_cases h : pre [32] (c :: r) = true
    · rw [spl_hit h]
      have := spl_len r [] ([32].length - 1)
      show (spl [32] _ [] r).length + 1 ≤ r.length + 1 + 1 ∧ acc.length + ((spl [32] _ [] r).map List.length).sum ≤ acc.length + (r.length + 1)
      have e : ([] : List Nat).length = 0 := rfl
      omega
    · rw [spl_miss (by simpa using h)]
      have := spl_len r (acc ++ [c]) 0
      rw [List.length_append] at this
      have e : ([c] : List Nat).length = 1 := rfl
      rw [List.length_cons]
      omega
  | c :: r, acc, k + 1 => by
    have := spl_len r acc k
    show (spl [32] k acc r).length ≤ r.length + 1 + 1 ∧ ((spl [32] k acc r).map List.length).sum ≤ acc.length + (r.length + 1)
    omega
theorem mem_sum : ∀ {l : List Nat} {n : Nat}, n ∈ l → n ≤ l.sum
  | a :: l, n, h => by
    rw [List.sum_cons]
    rcases List.mem_cons.mp h with rfl | h
    · omega
    · have := mem_sum h
      omega
/-- the words of a text: how many, how long -/
theorem words_len (x : Str) : (Txt.split x " ").length ≤ x.length + 1 ∧ ((Txt.split x " ").map (·.length)).sum ≤ x.length ∧ ∀ y ∈ Txt.split x " ", y.length ≤ x.length := by
  have ey : tl (" " : Str) = [32] := by decide +kernel
  have e := split_spl x " " (by rw [ey]; simp) (kind_ok (by decide +kernel))
  rw [ey] at e
  have h := spl_len (tl x) [] 0
  rw [← e, List.length_map, List.map_map, ← len_tl] at h
  have em : (Txt.split x " ").map (List.length ∘ tl) = (Txt.split x " ").map (·.length) := List.map_congr_left fun y _ => (len_tl y).symm
  rw [em] at h
  have e0 : ([] : List Nat).length = 0 := rfl
  refine ⟨h.1, by omega, fun y hy => ?_⟩
  have := mem_sum (List.mem_map_of_mem (f := fun z : Str => z.length) hy)
  omega
/-- the size of what is read -/
theorem sg_lt {l : List Nat} {z : Int} (h : sg l = some z) : z.natAbs < 10 ^ 60 := by
  unfold sg at h
  split at h
  · cases e : dg (l.drop 1) with
    | none => rw [e] at h; cases h
    | some k =>
      rw [e] at h
      have := dg_lt e
      have h : (if k = 0 then none else some (0 - k)) = some z := h
      split at h
      · cases h
      · have := Option.some.inj h
        omega
  · have := dg_lt h
    omega
theorem rs_lt {l : List Nat} {z : Int} (h : rs l = some z) : z.natAbs < 10 ^ 60 := by
  unfold rs at h
  split at h
  · split at h
    · rw [← Option.some.inj h]; decide
    · split at h
      · rw [← Option.some.inj h]; decide
      · cases e : sg l.dropLast with
        | none => rw [e] at h; cases h
        | some k =>
          rw [e] at h
          have h : (if k = 0 ∨ k = 1 ∨ k = -1 then none else some k) = some z := h
          split at h
          · cases h
          · rw [← Option.some.inj h]
            exact sg_lt e
  · cases h
/-- parts of less than 61 figures -/
def RL.ok : RL → Prop
  | .word _ => True
  | .line a b => a.natAbs < 10 ^ 60 ∧ b.natAbs < 10 ^ 60
theorem readM_ok {s : Int} {rest : List (List Nat)} (h : s.natAbs < 10 ^ 60) : (readM s rest).ok := by
  unfold readM
  split
  · exact ⟨h, by decide⟩
  · split
    · split
      · trivial
      · split
        · trivial
        · rename_i e
          have := dg_lt e
          split
          · trivial
          · split
            · refine ⟨h, ?_⟩
              split <;> omega
            · trivial
    · trivial
theorem readL_ok (ws : List (List Nat)) : (readL ws).ok := by
  unfold readL
  split
  · trivial
  · split
    · split
      · trivial
      · rename_i e
        split
        · exact ⟨by decide, sg_lt e⟩
        · trivial
    · rename_i e
      exact readM_ok (rs_lt e)
end TX
set_option pp.maxSteps 1500
set_option pp.deepTerms.threshold 8
/-! ### the texts of clips -/
namespace My
open PySem PySem.Spec PyProof.Rows L2 TX
abbrev s_cstr : Stmt := inClass (topS 33) 24
theorem sc_cstr : FnScope ["self", "sample"] ["self"] (defScope s_cstr) := ⟨rfl, rfl, rfl, by decide +kernel, rfl, by decide +kernel, by decide +kernel⟩
abbrev s_sampof : Stmt := topS 32
theorem sc_sampof : FnScope ["word", "at", "e"] ["word", "at"] (defScope s_sampof) := ⟨rfl, rfl, rfl, by decide +kernel, rfl, by decide +kernel, by decide +kernel⟩
abbrev s_cread : Stmt := inClass (topS 33) 5
theorem sc_cread : FnScope ["cls", "text", "words", "found", "at", "word"] ["cls", "text"] (defScope s_cread) := ⟨rfl, rfl, rfl, by decide +kernel, rfl, by decide +kernel, by decide +kernel⟩
section
variable {X : Cx} {CX : CXT} {k : Nat} {C : Addr} {sp : Sp} {E : XK} {x : Str} {fe : Expr} {tf : TE} {pos : Pos}
/-- f(), f a local name that holds the class at C -/
def tMkL0 (C : Addr) (sp : Sp) (E : XK) (tf : TE) : TE := fun σ H Q => tf σ H fun y H1 => y = .ref C ∧ StX.tMakeR C sp E tNil σ H1 Q
theorem pe_mkL0 (M : MakeR X.prog X.w X.K X.mg X.base CX k x C sp) (hr : Room (k + 1) X.A) (hx : Passes CX X E) (hf : PE X fe tf)
    (ht : eval (.Call fe [] [] pos) X.env = (do callWith pos (← eval fe X.env) [] (backTo pos (starEach [] X.env)) (backToKw pos (keywordEach [] X.env))) := by rfl) : PE X (.Call fe [] [] pos) (tMkL0 C sp E tf) := by
  obtain ⟨f, mk, F, hm⟩ := M.ex
  refine ⟨fun pins s σ H Q I h => ?_⟩
  refine Call_ (thn (hf.run pins s σ H _ I h) fun u s0 ⟨y0, H0, I0, ry0, ey0, q0⟩ => ?_) ht
  subst ey0
  obtain rfl : u = Value.ref C := ry0
  exact PySem.W.callWith_K0 (first := []) I0.kIn mk.kp (StX.run_makeR mk F hr hx I0 .nil q0)
end
/-- the text of a clip -/
def clipT (rs : List (Int × Int)) : Str := if rs = [] then "empty" else Txt.join " " (rs.map fun r => ratT r.1 r.2)
/-- that can be written and read -/
def R60 (r : Int × Int) : Prop := Lw r.1 r.2 ∧ r.1.natAbs < 10 ^ 60 ∧ r.2.natAbs < 10 ^ 60
theorem R60.log {r : Int × Int} (h : R60 r) : r.1.natAbs.log2 < 1920 ∧ r.2.natAbs.log2 < 1920 := by
  have e : (10 : Nat) ^ 60 < 2 ^ 300 := by decide +kernel
  exact ⟨Sm.log (Nat.lt_trans h.2.1 e), Sm.log (Nat.lt_trans h.2.2 e)⟩
theorem ratT_len {a b : Int} (ha : a.natAbs.log2 < 1920) (hb : b.natAbs.log2 < 1920) : (ratT a b).length ≤ 4000 := by
  have la := num_len ha
  have lb := num_len hb
  have e1 : (Str.empty).length = 0 := rfl
  have e2 : (("/" : Str)).length = 1 := rfl
  unfold ratT
  split
  · omega
  · rw [app_len, app_len, app_len]
    omega
theorem sum_le {n : Nat} : ∀ {l : List Str}, (∀ x ∈ l, x.length ≤ n) → (l.map (·.length)).sum ≤ n * l.length
  | [], _ => Nat.zero_le _
  | x :: l, h => by
    have ih := sum_le (n := n) (l := l) fun y hy => h y (List.mem_cons_of_mem _ hy)
    have hx := h x List.mem_cons_self
    rw [List.map_cons, List.sum_cons, List.length_cons, Nat.mul_succ]
    omega
def spCstr (CC CR : Addr) : Sp := fun vs H Q _ => ∃ (p : Addr) (rs : List (Int × Int)), vs = [.ref p] ∧ ClipAt CC CR H p rs ∧ rs.length ≤ 20 ∧ (∀ r ∈ rs, R60 r) ∧ ∀ H', Same H H' → Q (.str (clipT rs)) H'
/-- BadText(l, n) -/
def ErrU (E : XK) (CT : Addr) (l n : Int) (H : Hp) : Prop := ∀ (d : Addr) (H' : Hp), H d = none → H' d = some (.xd [("line", .int l), ("word", .int n)]) → Same H H' → E (.ref CT) (some d) H'
theorem ErrU.go {E : XK} {CT : Addr} {l n : Int} {H : Hp} (h : ErrU E CT l n H) {d : Addr} (hd : H d = none) : E (.ref CT) (some d) (upd H d (.xd [("line", .int l), ("word", .int n)])) := h d _ hd upd_same (same_new hd)
theorem ErrU.up {E : XK} {CT : Addr} {l n : Int} {H H1 : Hp} (h : ErrU E CT l n H) (s : Same H H1) : ErrU E CT l n H1 := fun d H' hd hx s' => h d H' (s.free hd) hx (s.trans s')
/-- the fraction of a word -/
abbrev wR (x : Str) : Option (Int × Int) := RT.readR (TL.tl x)
def spSampof (C CT : Addr) : Sp := fun vs H Q E => ∃ (x : Str) (n : Int), vs = [.str x, .int n] ∧ x.length ≤ 5000 ∧ (∀ r, wR x = some r → Lw r.1 r.2 → Sm r.1 → Sm r.2 → ∀ q H', RatAt C H' q r.1 r.2 → Same H H' → Q (.ref q) H') ∧ (wR x = none → ErrU E CT 0 n H)
def wsOf (x : Str) : List Str := Txt.split x " "
/-- Clip.read -/
def RdC (CC CR CT : Addr) (v : V) (H : Hp) (Q : VK) (E : XK) : Prop := ((∀ x, v ≠ .str x) → ErrU E CT 0 0 H) ∧
  ∀ x, v = .str x → x.length ≤ 20000 ∧ (∀ w ∈ wsOf x, w.length ≤ 5000) ∧
    ((wsOf x)[0]? = some ("empty" : Str) → (1 < (wsOf x).length → ErrU E CT 0 1 H) ∧ ((wsOf x).length = 1 → ∀ c H', ClipAt CC CR H' c [] → H c = none → Same H H' → Q (.ref c) H')) ∧
    ((wsOf x)[0]? ≠ some ("empty" : Str) → (∀ (i : Nat) (w : Str), i ≤ 2000 → (wsOf x)[i]? = some w → (i = 2000 ∨ wR w = none) → (∀ (j : Nat) (u : Str), j < i → (wsOf x)[j]? = some u → wR u ≠ none) → ErrU E CT 0 (i : Int) H) ∧
      ((wsOf x).length ≤ 2000 → ∀ rs, (wsOf x).map wR = rs.map some → (∀ r ∈ rs, Lw r.1 r.2) → (∀ r ∈ rs, Sm r.1 ∧ Sm r.2) → ∀ c H', ClipAt CC CR H' c rs → H c = none → Same H H' → Q (.ref c) H'))
def spCread (Cs : List Addr) (CC CR CT : Addr) : Sp := fun vs H Q E => ∃ v : V, vs = [.ref CC, v] ∧ AnyF Cs H v ∧ RdC CC CR CT v H Q E
section
variable {P : Program} {w : World} {K : PySem.W.Frag} {mg : Str → Option Value} {base : Heap} {Cs : List Addr} {CR CC CL fL CP fP CS fS CM fM CT fT : Addr} {tM tE : Tok}
theorem ok_sampof {f : Addr} {fd : FuncData} (F : Fun K "sample_of" "sample_of" s_sampof f fd) (T : ZTx P K mg Cs CR CC CL fL CP fP CS fS CM fM CT fT tM tE) (xT : PySem.W.exmOne K (.ref CT) (.ref CT) = some true) (K_rread : ClsAt P w K mg base (L2N.CX P w) 6 CR "read" (spRRead Cs CR CT)) : FnOk P w K mg base (L2.CX P w) 7 f fd ["word", "at"] (spSampof CR CT) := by
  refine F.okX sc_sampof (fun vs H Q E h => ?_) (fun cdv A outer s H vs Q E hr h => ?_)
  · obtain ⟨x, n, rfl, _⟩ := h
    rfl
  · obtain ⟨x, n, rfl, hx, k1, k2⟩ := h
    refine ⟨_, (pss_one (L2H.ps_try_asX (i := 2) (ts := fun a cls d D σ H => cls = .ref CT ∧ (σ[2]? = some (some (.ref a)) ∧ tMk2 CT "line" "word" (tCons (tC (.int 0)) (tCons (tVar 1) tNil)) σ H fun cls d H' => E cls d H')) (Wout := fun cls d _ H => E cls d H) rfl rfl sc_sampof.nd rfl rfl ⟨rfl, by decide, .inl T.e_BadText.gC⟩ (L2H.passesAt_of rfl) (takes_of rfl rfl rfl rfl) (fun W pn xe tk _ => pss_one (ps_ret (My.pe_cmS K_rread (hr.mono (by decide)) (L2N.passAt tk) (pe_glob (v := .ref CR) (by rfl) T.gR rfl) (pa_cons (pv 0) pa_nil)))) (fun a oe cls d pn xe hz hd tk hot hx => ⟨fun pins s σ H D I h => by
      obtain ⟨ec, h⟩ := h
      exact (pss_one (L2H.ps_raiseHF hot List.mem_cons_self (by rw [hz.1, ec]; exact raises_own T.e_BadText.ox.exC T.e_BadText.ox.tyC) rfl rfl (Or.inl rfl) tk (L2H.pmk5_2 T.e_BadText (My.rm1 hr :) (pa_cons pe_int (pa_cons (pv 1) pa_nil))))).run pins s σ H D I h⟩))), ?_⟩
    refine ⟨rfl, _, rfl, .str x, rfl, .inl ⟨_, .str x⟩, hx, fun a b e b0 g sa sb q H' lq s' => k1 (a, b) e ⟨b0, g⟩ sa sb q H' lq s', fun no d H' hd hx' s1 => ?_⟩
    refine ⟨xT, fun a na => ⟨rfl, rfl, .int n, rfl, _, _, rfl, fun d2 hd2 => ?_⟩⟩
    exact (ErrU.up (k2 no) s1).go hd2
theorem ok_cstr {f : Addr} {fd : FuncData} (F : Fun K "__str__" "Clip.__str__" s_cstr f fd) (T : CTx P K mg Cs CR CC CL fL CP fP CS fS CM fM) (ST_str : CmpAt P w K mg base CX0 1 CR "__str__" ["self"] (spStrR CR)) : FnOk P w K mg base CX0 4 f fd ["self"] (spCstr CC CR) := by
  refine F.ok sc_cstr (fun vs H Q E h => ?_) (fun cdv A outer s H vs Q E hr h => ?_)
  · obtain ⟨p, rs, rfl, _⟩ := h
    rfl
  · obtain ⟨p, rs, rfl, hp, l20, ok, k⟩ := h
    refine ⟨_, (pss_cons (ps_if (pt_cmpR op_eq (pe_callB call_len (by rfl) T.z_len PySem.boot_len (pa_cons (pe_fld (pv 0) rfl) pa_nil)) pe_int (nomark _)) (pss_one (ps_ret pe_str)) pss_nil)
      (pss_one (ps_ret (pe_join pe_str (pe_lc (own := [("sample", 1)]) rfl sc_cstr.nd (pi_tup (pe_fld (pv 0) rfl)) (blkOk_by (by show blkC ["self", "sample"] (defScope s_cstr) _ _ = true; decide +kernel)) (fun _ _ _ _ _ => (pg_name (i := 1) sc_cstr.nd rfl (Or.inl rfl))) (fun _ _ _ _ _ => pts_nil) (fun _ _ _ _ _ => (pe_callTy (My.call_strO ST_str (hr.mono (by decide)) pass0) (by rfl) T.z_str boot_str (pa_cons (pv 1) pa_nil)))))))), ?_⟩
    obtain ⟨t, zs, ⟨dx, e⟩, e2, r, l⟩ := id hp
    refine ⟨_, rfl, p, CC, dx, _, _, rfl, e, T.clC, T.nS, cfs_get t, ?_⟩
    have lz : zs.length = rs.length := r.1
    refine ⟨_, _, rfl, .inr ⟨_, SqT.of e2, rfl⟩, rfl, _, rfl, ite2 (fun c => ?_) (fun c => ?_)⟩
    · have e0 : rs = [] := by
        have := V.int.inj (of_decide_eq_true c)
        exact List.eq_nil_of_length_eq_zero (by omega)
      have kk := k H fun _ _ z => z
      unfold clipT at kk
      rw [if_pos e0] at kk
      exact kk
    have ne0 : rs ≠ [] := fun z => c (decide_eq_true (by rw [lz, z]; rfl))
    refine ⟨⟨_, rfl⟩, _, rfl, p, CC, dx, _, _, rfl, e, T.clC, T.nS, cfs_get t, t, rfl, ⟨_, SqT.of e2⟩, fun D hD => ?_⟩
    refine lc_it walk_tup (fun i Hh => Hh D = some (.lst (((rs.take i).map fun r => ratT r.1 r.2).map V.str)) ∧ Same H Hh) ⟨upd_same, same_new hD⟩ (fun i Hh _ hh => SqT.of (hh.2 _ _ e2)) ?_ ?_
    · rintro i v Hh H2 hi ⟨g1, g2⟩ ⟨rfl, hv⟩
      obtain ⟨a, ra, rfl, ea, la⟩ := r.get hv
      have la' := la.same g2
      obtain ⟨da, ga⟩ := id la'
      obtain ⟨h1, h2⟩ := (ok ra (List.mem_of_getElem? ea)).log
      refine ⟨rfl, yes_go ⟨_, rfl, a, da, _, rfl, ga, a, ra.1, ra.2, rfl, la', h1, h2, _, rfl, _, g1, ?_, ?_, ?_⟩⟩
      · rw [List.length_map, List.length_map, List.length_take, sizeLine_eq]
        omega
      · rw [List.take_add_one, ea, List.map_append, List.map_append]
        exact upd_same
      · intro c o e
        rw [upd_ne (ne_of_none e hD)]
        exact g2 _ _ e
    rintro H2 ⟨g1, g2⟩
    rw [List.take_of_length_le (by omega)] at g1
    have kk := k H2 g2
    unfold clipT at kk
    rw [if_neg ne0] at kk
    refine ⟨_, D, rs.map fun r => ratT r.1 r.2, rfl, rfl, .inl (SqL.of g1), ?_, kk⟩
    have lw := sum_le (n := 4000) (l := rs.map fun r => ratT r.1 r.2) fun x hx => by
      obtain ⟨r, hr, rfl⟩ := List.mem_map.mp hx
      obtain ⟨h1, h2⟩ := (ok r hr).log
      exact ratT_len h1 h2
    have e1 : ((" " : Str)).length = 1 := rfl
    rw [List.length_map] at lw ⊢
    rw [e1]
    omega
theorem txt_free {a b : Int} {s : Nat} (h : s < 47 ∨ 57 < s) (h2 : s ≠ 45) : s ∉ RT.txt a b := by
  have f : ∀ i : Int, s ∉ intL i := fun i => intL_free (by omega) h2
  unfold RT.txt
  split
  · exact f a
  · intro z
    rcases List.mem_append.mp z with z | z
    · exact f a z
    · rcases List.mem_cons.mp z with z | z
      · omega
      · exact f b z
/-- the words of a clip's text -/
theorem clip_words {rs : List (Int × Int)} (h : rs ≠ []) : (Txt.split (clipT rs) " ").map TL.tl = rs.map fun r => RT.txt r.1 r.2 := by
  have ey : TL.tl (" " : Str) = [32] := by decide +kernel
  refine words_of (ps := rs.map fun r => RT.txt r.1 r.2) ?_ (fun z => h (List.map_eq_nil_iff.mp z)) fun p hp => ?_
  · unfold clipT
    rw [if_neg h, TL.join_eq, TL.tl_join, ey, List.map_map]
    congr 1
    exact List.map_congr_left fun r _ => tl_rat r.1 r.2
  · obtain ⟨r, _, rfl⟩ := List.mem_map.mp hp
    exact txt_free (by decide) (by decide)
theorem joinL_len (S : List Nat) : ∀ ps : List (List Nat), (TL.joinL S ps).length ≤ (ps.map List.length).sum + ps.length * S.length
  | [] => Nat.zero_le _
  | [p] => by
    show p.length ≤ (p.length + 0) + 1 * S.length
    omega
  | p :: q :: r => by
    have := joinL_len S (q :: r)
    show (p ++ (S ++ TL.joinL S (q :: r))).length ≤ (p.length + ((q :: r).map List.length).sum) + ((q :: r).length + 1) * S.length
    rw [List.length_append, List.length_append, Nat.add_mul]
    omega
theorem clipT_len {rs : List (Int × Int)} (l : rs.length ≤ 20) (ok : ∀ r ∈ rs, R60 r) : (clipT rs).length ≤ 100000 := by
  unfold clipT
  split
  · decide
  · have ey : TL.tl (" " : Str) = [32] := by decide +kernel
    have h1 := joinL_len [32] ((rs.map fun r => ratT r.1 r.2).map TL.tl)
    have h2 := sum_le (n := 4000) (l := rs.map fun r => ratT r.1 r.2) fun x hx => by
      obtain ⟨r, hr, rfl⟩ := List.mem_map.mp hx
      obtain ⟨a, b⟩ := (ok r hr).log
      exact ratT_len a b
    have e : ((rs.map fun r => ratT r.1 r.2).map TL.tl).map List.length = (rs.map fun r => ratT r.1 r.2).map (·.length) := by
      rw [List.map_map]
      exact List.map_congr_left fun z _ => (TL.len_tl z).symm
    rw [e, List.length_map, List.length_map] at h1
    rw [List.length_map] at h2
    rw [TL.len_tl, TL.join_eq, TL.tl_join, ey]
    have e3 : ([32] : List Nat).length = 1 := rfl
    rw [e3] at h1
    omega
theorem Nums.nil {C : Addr} {H : Hp} : Nums C H [] [] := ⟨rfl, fun i v r e => by simp at e⟩
theorem made_same {H1 H2 : Hp} {x dx C : Addr} (hx : H1 x = none) (hd : H1 dx = none) (kp : ∀ c o, upd (upd H1 dx (.own x)) x (.ins C dx []) c = some o → c ≠ x → H2 c = some o) : Same H1 H2 := fun b o e => kp b o (by rw [upd_ne (ne_of_none e hx), upd_ne (ne_of_none e hd)]; exact e) (ne_of_none e hx)
theorem ok_cread {f : Addr} {fd : FuncData} (F : Fun K "read" "Clip.read" s_cread f fd) (T : ZTx P K mg Cs CR CC CL fL CP fP CS fS CM fM CT fT tM tE) (D_sampof : DefAt P w K mg base (L2.CX P w) 7 "sample_of" ["word", "at"] (spSampof CR CT)) (M_Clip : MakeR P w K mg base (L2.CX P w) 6 "Clip" CC (spClip Cs CR CC CS CM)) (K_of : ClsAt P w K mg base (L2.CX P w) 8 CC "of" (spCof Cs CR CC CS CM)) : FnOk P w K mg base (L2.CX P w) 10 f fd ["cls", "text"] (spCread Cs CC CR CT) := by
  refine F.okX sc_cread (fun vs H Q E h => ?_) (fun cdv A outer s H vs Q E hr h => ?_)
  · obtain ⟨v, rfl, _⟩ := h
    rfl
  · obtain ⟨v, rfl, ty, k0, kx⟩ := h
    refine ⟨_, (pss_cons (ps_if (pt_not (pt_val (pe_callB call_isi (by rfl) T.z_isinstance boot_isinstance (pa_cons (pv 1) (pa_cons (pe_bltn (v := .ty "str") (by rfl) T.z_str boot_str rfl) pa_nil))))) (pss_one (ps_raise2 rfl T.e_BadText (hr.mono (by decide) : Room 0 _) (takes_of rfl rfl rfl rfl) (pa_cons pe_int (pa_cons pe_int pa_nil)))) pss_nil)
      (pss_cons (ps_set (i := 2) sc_cread.nd rfl (Or.inl rfl) (pe_split (pv 1) pe_str))
      (pss_cons (ps_if (pt_cmpR op_eq (pe_ix ix_list (pv 2) pe_int (fun _ _ => rfl)) (pe_glob (v := .str "empty") rfl T.gEmpty ⟨_, rfl⟩) (nomark _)) (pss_cons (ps_if (pt_cmpR op_gt (pe_callB call_len (by rfl) T.z_len PySem.boot_len (pa_cons (pv 2) pa_nil)) pe_int (nomark _)) (pss_one (ps_raise2 rfl T.e_BadText (hr.mono (by decide) : Room 0 _) (takes_of rfl rfl rfl rfl) (pa_cons pe_int (pa_cons pe_int pa_nil)))) pss_nil)
      (pss_one (ps_ret (My.pe_mkL0 M_Clip (hr.mono (by decide)) passL (pv 0))))) pss_nil)
      (pss_cons (ps_set (i := 3) sc_cread.nd rfl (Or.inl rfl) (pe_lst pa_nil))
      (pss_cons (ps_for (passes_of rfl) rfl (pi_enum (by rfl) T.z_enumerate (pa_cons (pv 2) pa_nil)) (pg_tup rfl (pgs_cons (pg_name (i := 4) sc_cread.nd rfl (Or.inl rfl)) (pgs_cons (pg_name (i := 5) sc_cread.nd rfl (Or.inl rfl)) pgs_nil))) (pss_cons (ps_if (pt_cmpR op_eq (pv 4) (ClX.pe_cval (pe_glob (v := .ref CC) (by rfl) T.gC rfl)) (nomark _)) (pss_one (ps_raise2 rfl T.e_BadText (hr.mono (by decide) : Room 0 _) (takes_of rfl rfl rfl rfl) (pa_cons pe_int (pa_cons (pv 4) pa_nil)))) pss_nil)
      (pss_one (ps_expr (pe_bm PySem.F.plainAttrs_list PySem.F.slot_list_append PySem.F.type_list_append mt_append (pv 3) (pa_cons (My.pe_d D_sampof (hr.mono (by decide)) (by rfl) (passes_call (takes_of rfl rfl rfl rfl) (fun _ _ _ _ h => h)) (pa_cons (pv 5) (pa_cons (pv 4) pa_nil))) pa_nil))))))
      (pss_one (ps_ret (My.pe_cm K_of (hr.mono (by decide)) passL (pv 0) (pa_cons (pv 3) pa_nil))))))))), ?_⟩
    obtain ⟨t, b, ht, hk, hb⟩ : ∃ t b, TyX K H v t ∧ PySem.W.kitOne K t (.type "str") = some b ∧ (b = true → ∃ x, v = .str x) ∧ (b = false → ∀ x, v ≠ .str x) := by
      rcases ty with ⟨t, ty⟩ | ⟨C, hC, a, dx, fs, rfl, ea⟩
      · obtain ⟨b, h1, h2⟩ := kstr (K := K) ty
        exact ⟨_, b, ty.tyx, h1, h2⟩
      · exact ⟨_, false, (T.fam.own C hC).ty ea, T.noStr C hC, (fun z => Bool.noConfusion z), fun _ _ z => nomatch z⟩
    refine ⟨_, rfl, v, _, t, _, b, rfl, .ty _, ht, hk, _, rfl, ?_⟩
    cases b with
    | false => exact iteT ⟨_, _, rfl, fun d hd => (k0 (hb.2 rfl)).go hd⟩
    | true =>
      obtain ⟨x, rfl⟩ := hb.1 rfl
      refine iteF ?_
      obtain ⟨l1, l2, ke, kw⟩ := kx x rfl
      refine ⟨_, rfl, ⟨_, rfl⟩, x, " ", rfl, rfl, by decide +kernel, (by rw [sizeLine_eq]; omega), fun lw hlw => ?_⟩
      have s1 := same_new (o := .lst ((wsOf x).map V.str)) hlw
      have e1 : upd H lw (.lst ((wsOf x).map V.str)) lw = some (.lst ((wsOf x).map V.str)) := upd_same
      rw [show Txt.split x " " = wsOf x from rfl]
      generalize upd H lw (.lst ((wsOf x).map V.str)) = H1 at s1 e1 ⊢
      have wn : (wsOf x).length ≤ 20001 := by
        obtain ⟨h, _, _⟩ := split1_len (x := x) (y := " ") (s := 32) (by decide +kernel) (by decide +kernel)
        show (Txt.split x " ").length ≤ _
        omega
      obtain ⟨w0, wr, ew⟩ : ∃ w0 wr, wsOf x = w0 :: wr := by
        obtain ⟨w, ws, e⟩ := split1_ne (x := x) (y := " ") (s := 32) (by decide +kernel) (by decide +kernel)
        cases g : wsOf x with
        | nil =>
          have g : Txt.split x " " = [] := g
          rw [g] at e
          cases e
        | cons a b => exact ⟨a, b, rfl⟩
      rw [ew] at e1 wn l2 ke kw
      refine ⟨_, rfl, lw, _, _, _, rfl, rfl, SqL.of e1, at0, rfl, _, rfl, ?_⟩
      by_cases hw : w0 = ("empty" : Str)
      · subst hw
        rw [decide_eq_true rfl]
        obtain ⟨k1, k2⟩ := ke rfl
        refine iteT ⟨_, rfl, _, _, rfl, .inl ⟨_, SqL.of e1, rfl⟩, _, _, rfl, rfl, _, rfl, ?_⟩
        refine ite2 (fun c => ?_) (fun c => ?_)
        · have c := of_decide_eq_true c
          rw [List.length_map] at c
          exact ⟨_, _, rfl, fun d hd => ((k1 (by omega)).up s1).go hd⟩
        · have c : ¬ (1 < (((("empty" : Str) :: wr).map V.str).length : Int)) := fun z => c (decide_eq_true z)
          have one : (("empty" : Str) :: wr).length = 1 := by
            rw [List.length_map] at c
            have : (("empty" : Str) :: wr).length = wr.length + 1 := rfl
            omega
          refine ⟨_, rfl, rfl, fun x dx hx hd ne => ⟨x, dx, [], rfl, upd_same, by decide, (fun _ z => nomatch z), (fun z => absurd z (by decide)), fun _ rs1 nm1 H2 po1 kp1 => ⟨rfl, ?_⟩, fun _ i v e => by simp at e⟩⟩
          cases Nums.eq Nums.nil nm1
          exact k2 one x H2 po1 (none_back s1 hx) (s1.trans (made_same hx hd kp1))
      · rw [decide_eq_false (show ¬ V.str w0 = V.str ("empty" : Str) from fun z => hw (V.str.inj z))]
        obtain ⟨k1, k2⟩ := kw fun z => hw (Option.some.inj z)
        generalize w0 :: wr = ws at e1 wn l2 k1 k2
        refine iteF ⟨(by show 0 ≤ sizeLine; decide), fun lf hlf => ?_⟩
        have s2 := same_new (o := .lst []) hlf
        have nlf : lw ≠ lf := ne_of_none e1 hlf
        obtain ⟨mc, u, rL1, rL2⟩ := T.rd
        refine ⟨_, rfl, lw, _, rfl, SqL.of (s2 _ _ e1), for_it (walk_enum (K := K) (a := lw) (xs := ws.map V.str)) (fun i σ H' => ∃ v4 v5 vs rs, σ = [some (.ref CC), some (.str x), some (.ref lw), some (.ref lf), v4, v5] ∧ H' lf = some (.lst vs) ∧ Rats CR H' vs rs ∧ (ws.take i).map wR = rs.map some ∧ (∀ r ∈ rs, Lw r.1 r.2) ∧ (∀ r ∈ rs, Sm r.1 ∧ Sm r.2) ∧ i ≤ 2000 ∧ Same H1 H') ⟨none, none, [], [], rfl, upd_same, Rats.nil, rfl, (fun _ z => nomatch z), (fun _ z => nomatch z), by decide, s2⟩ (fun i σ H' _ hh => by obtain ⟨_, _, _, _, _, _, _, _, _, _, _, sh⟩ := hh; exact SqL.of (sh _ _ e1)) ?_ ?_⟩
        · rintro i v σ Ha Hb hi ⟨v4, v5, vs, rs, rfl, g1, g2, g3, g4, g5, i2, sh⟩ ⟨T2, a, y, rfl, hT, rfl, ex, hy⟩
          rw [List.length_map] at hi
          cases ex
          have hy : (ws.map V.str)[i]? = some y := hy
          rw [List.getElem?_map] at hy
          obtain ⟨z, hz, rfl⟩ : ∃ z, ws[i]? = some z ∧ y = .str z := by
            cases e : ws[i]? with
            | none => rw [e] at hy; cases hy
            | some z => rw [e] at hy; exact ⟨z, rfl, (Option.some.inj hy).symm⟩
          have zl := l2 z (List.mem_of_getElem? hz)
          have sT := same_new (o := .tup [.int (i : Nat), .str z]) hT
          have g1T := sT _ _ g1
          have sAll := s1.trans (sh.trans sT)
          have nn : ∀ (j : Nat) (u : Str), j < i → ws[j]? = some u → wR u ≠ none := fun j u hj hu e => by
            have e3 := congrArg (fun l => l[j]?) g3
            have e3 : ((ws.take i).map wR)[j]? = (rs.map some)[j]? := e3
            rw [List.getElem?_map, List.getElem?_take, if_pos hj, hu, List.getElem?_map] at e3
            have e3 : some (wR u) = (rs[j]?).map some := e3
            rw [e] at e3
            cases h : rs[j]? with
            | none => rw [h] at e3; cases e3
            | some y => rw [h] at e3; cases e3
          refine ⟨T2, _, rfl, SqT.of upd_same, rfl, _, _, rfl, _, _, rfl, rfl, ?_⟩
          refine ⟨_, rfl, CC, mc, _, u, rfl, rL1, rL2, rfl, _, rfl, ?_⟩
          refine ite2 (fun c => ?_) (fun c => ?_)
          · have c : (i : Int) = 2000 := V.int.inj (of_decide_eq_true c)
            exact ⟨_, rfl, _, _, rfl, fun d hd => ((k1 i z i2 hz (.inl (by omega)) nn).up sAll).go hd⟩
          have c : ¬ (i : Int) = 2000 := fun z => c (decide_eq_true (congrArg V.int z))
          refine ⟨_, rfl, .inl ⟨rfl, _, SqL.of g1T⟩, _, rfl, _, rfl, z, i, rfl, zl, fun r er lw' sa sb q H5 lq s5 => ?_, fun er => (k1 i z i2 hz (.inr er) nn).up sAll⟩
          have g1' := s5 _ _ g1T
          refine ⟨lf, vs, .ref q, rfl, rfl, g1', ?_, _, _, vs ++ [.ref q], rs ++ [r], rfl, upd_same, ?_, ?_, ?_, ?_, by omega, fun b o e => ?_⟩
          · have := congrArg List.length g3
            rw [List.length_map, List.length_map, List.length_take] at this
            rw [g2.1, sizeLine_eq]
            omega
          · refine Rats.put (((g2.same sT).same s5).snoc lq) fun dx fs z => ?_
            rw [g1'] at z
            cases z
          · rw [List.take_add_one, hz, List.map_append, List.map_append, g3]
            show _ ++ [wR z] = _
            rw [er]
            rfl
          · intro y hy
            rcases List.mem_append.mp hy with h | h
            · exact g4 y h
            · cases List.mem_singleton.mp h
              exact lw'
          · intro y hy
            rcases List.mem_append.mp hy with h | h
            · exact g5 y h
            · cases List.mem_singleton.mp h
              exact ⟨sa, sb⟩
          · rw [upd_ne (ne_of_none e hlf)]
            exact s5 _ _ (sT _ _ (sh _ _ e))
        rintro σ H2 ⟨v4, v5, vs, rs, rfl, g1, g2, g3, g4, g5, i2, sh⟩
        rw [List.length_map, List.take_length] at g3
        rw [List.length_map] at i2
        have lrs : rs.length = ws.length := by
          have := congrArg List.length g3
          rw [List.length_map, List.length_map] at this
          exact this.symm
        refine ⟨_, rfl, rfl, _, rfl, lf, vs, rfl, .inr g1, clip_to T.inn (fun rs' z => Nums.eq g2.nums z) g2.nums (by rw [g2.1]; omega) fun c H3 po hc s3 => k2 i2 rs g3 g4 g5 c H3 po (none_back (s1.trans sh) hc) ((s1.trans sh).trans s3)⟩
end
end My
set_option pp.maxSteps 1500
set_option pp.deepTerms.threshold 8
/-! ### the law's own numbers -/
namespace My
open PySem PySem.Spec PyProof.Rows L2
abbrev s_frac : Stmt := topS 38
theorem sc_frac : FnScope ["_law_top", "_law_bottom", "_law_one", "_law_other"] ["_law_top", "_law_bottom"] (defScope s_frac) := ⟨rfl, rfl, rfl, by decide +kernel, rfl, by decide +kernel, by decide +kernel⟩
abbrev s_sample : Stmt := topS 40
theorem sc_sample : FnScope ["_law_pen_here", "_law_top"] ["_law_pen_here"] (defScope s_sample) := ⟨rfl, rfl, rfl, by decide +kernel, rfl, by decide +kernel, by decide +kernel⟩
abbrev s_row : Stmt := topS 41
theorem sc_row : FnScope ["_law_pen_here", "_law_most", "_law_at"] ["_law_pen_here", "_law_most"] (defScope s_row) := ⟨rfl, rfl, rfl, by decide +kernel, rfl, by decide +kernel, by decide +kernel⟩
abbrev s_lclip : Stmt := topS 42
theorem sc_lclip : FnScope ["_law_row_here", "_law_one"] ["_law_row_here"] (defScope s_lclip) := ⟨rfl, rfl, rfl, by decide +kernel, rfl, by decide +kernel, by decide +kernel⟩
theorem PenC.le {H : Hp} {pn cl : Addr} {n m : Nat} (h : PenC H pn cl n) (l : n ≤ m) : PenC H pn cl m := by
  obtain ⟨ns, a, r, e1, e2, h3, h4, h5⟩ := h
  exact ⟨ns, a, r, e1, e2, h3, h4, by omega⟩
/-- a pair of numbers -/
def TupAt (H : Hp) (p : Addr) (r : Int × Int) : Prop := H p = some (.tup [.int r.1, .int r.2])
/-- a list of pairs -/
structure RowK (H : Hp) (l : Addr) (ps : List Addr) (rs : List (Int × Int)) : Prop where
  l : H l = some (.lst (ps.map V.ref))
  len : ps.length = rs.length
  at' : ∀ (i : Nat) p r, ps[i]? = some p → rs[i]? = some r → TupAt H p r
theorem RowK.same {H H' : Hp} {l : Addr} {ps : List Addr} {rs : List (Int × Int)} (h : RowK H l ps rs) (s : Same H H') : RowK H' l ps rs := ⟨s _ _ h.l, h.len, fun i p r e1 e2 => s _ _ (h.at' i p r e1 e2)⟩
theorem RowK.but {H H' : Hp} {l pn : Addr} {ps : List Addr} {rs : List (Int × Int)} (h : RowK H l ps rs) (s : But pn H H') (n : l ≠ pn) (t : ∀ xs, H pn ≠ some (.tup xs)) : RowK H' l ps rs := ⟨s _ _ h.l n, h.len, fun i p r e1 e2 => s _ _ (h.at' i p r e1 e2) fun z => t _ (by rw [← z]; exact h.at' i p r e1 e2)⟩
theorem PenC.notup {H : Hp} {pn cl : Addr} {n : Nat} (h : PenC H pn cl n) : ∀ xs, H pn ≠ some (.tup xs) := fun xs z => by
  obtain ⟨ns, a, r, e1, _⟩ := h
  rw [e1] at z
  cases z
def spFrac : Sp := fun vs H Q _ => ∃ (t b : Int), vs = [.int t, .int b] ∧ 0 < b ∧ b.natAbs.log2 < 9000 ∧ ∀ l, H l = none → Q (.ref l) (upd H l (.tup [.int (lowT t b), .int (lowB t b)]))
theorem frac_div {t b : Int} (h : 0 < b) : t / (Int.gcd t b : Int) = lowT t b ∧ b / (Int.gcd t b : Int) = lowB t b := by
  have s : sgcd t b = (Int.gcd t b : Int) := if_neg (by omega)
  unfold lowT lowB
  rw [s, Int.fdiv_eq_ediv_of_nonneg _ (by omega), Int.fdiv_eq_ediv_of_nonneg _ (by omega)]
  exact ⟨rfl, rfl⟩
/-- in lowest terms, of less than n bits -/
def OkN (n : Nat) (r : Int × Int) : Prop := Lw r.1 r.2 ∧ r.1.natAbs < 2 ^ n ∧ r.2.natAbs < 2 ^ n
theorem OkN.ok {n : Nat} {r : Int × Int} (h : OkN n r) (hn : n ≤ 300 := by decide) : Lw r.1 r.2 ∧ Sm r.1 ∧ Sm r.2 := ⟨h.1, Nat.lt_of_lt_of_le h.2.1 (Nat.pow_le_pow_right (by decide) hn), Nat.lt_of_lt_of_le h.2.2 (Nat.pow_le_pow_right (by decide) hn)⟩
theorem OkN.r60 {n : Nat} {r : Int × Int} (h : OkN n r) (hn : n ≤ 190 := by decide) : R60 r := by
  have e : (2 : Nat) ^ 190 < 10 ^ 60 := by decide +kernel
  have f := Nat.pow_le_pow_right (n := 2) (by decide) hn
  exact ⟨h.1, Nat.lt_trans (Nat.lt_of_lt_of_le h.2.1 f) e, Nat.lt_trans (Nat.lt_of_lt_of_le h.2.2 f) e⟩
theorem OkN.zero : OkN 40 (0, 1) := ⟨⟨by decide, by decide⟩, by decide +kernel, by decide +kernel⟩
def spSample : Sp := fun vs H Q _ => ∃ (pn cl : Addr) (n : Nat), vs = [.ref pn] ∧ PenC H pn cl n ∧ n < 90000 ∧ ∀ l r H', H l = none → TupAt H' l r → OkN 40 r → PenC H' pn cl (n + 2) → But pn H H' → Q (.ref l) H'
def spRow : Sp := fun vs H Q _ => ∃ (pn cl : Addr) (n : Nat), vs = [.ref pn, .int 7] ∧ PenC H pn cl n ∧ n < 80000 ∧ ∀ l ps rs H', H l = none → RowK H' l ps rs → rs.length ≤ 7 → (∀ r ∈ rs, OkN 40 r) → PenC H' pn cl (n + 20) → But pn H H' → Q (.ref l) H'
def spLclip (CC CR : Addr) : Sp := fun vs H Q _ => ∃ (l : Addr) (ps : List Addr) (rs : List (Int × Int)), vs = [.ref l] ∧ RowK H l ps rs ∧ rs.length ≤ 2000 ∧ (∀ r ∈ rs, Lw r.1 r.2 ∧ Sm r.2) ∧ ∀ c H', ClipAt CC CR H' c rs → H c = none → Same H H' → Q (.ref c) H'
theorem ix_tupB {X : Cx} {K : PySem.W.Frag} (h : X.K = K) : IxR X (rIxT K) := by
  subst h
  exact ix_tup
section
variable {P : Program} {w : World} {K : PySem.W.Frag} {mg : Str → Option Value} {base : Heap} {Cs : List Addr} {CR CC CL fL CP fP CS fS CM fM : Addr}
theorem ok_frac {f : Addr} {fd : FuncData} (F : Fun K "_law_frac" "_law_frac" s_frac f fd) (T : BI mg) : FnOk P w K mg base CX0 1 f fd ["_law_top", "_law_bottom"] spFrac := by
  refine F.ok sc_frac (fun vs H Q E h => ?_) (fun cdv A outer s H vs Q E hr h => ?_)
  · obtain ⟨a, b, rfl, _⟩ := h
    rfl
  · obtain ⟨a, b, rfl, hb, lb, q⟩ := h
    refine ⟨_, (pss_cons (ps_par (i := 2) (j := 3) (by rfl) sc_frac.nd rfl rfl (by decide) rfl rfl (pa_cons (pe_callB call_abs (by rfl) T.z_abs boot_abs (pa_cons (pv 0) pa_nil)) (pa_cons (pv 1) pa_nil)) (by rfl))
      (pss_cons (ps_while PassesOwn.never (pt_cmpR op_ne (pv 3) pe_int (nomark _)) (pss_one (ps_par (i := 2) (j := 3) (by rfl) sc_frac.nd rfl rfl (by decide) rfl rfl (pa_cons (pv 3) (pa_cons (pe_op op_mod (pe_callTy call_int1 (by rfl) T.z_int boot_int (pa_cons (pv 2) pa_nil)) (pv 3)) pa_nil)) (by rfl))))
      (pss_one (ps_ret (pe_tup (pa_cons (pe_op op_fdivW (pv 0) (pv 2)) (pa_cons (pe_op op_fdivW (pv 1) (pv 2)) pa_nil))))))), ?_⟩
    refine ⟨_, rfl, a, rfl, _, rfl, _, _, rfl, ?_⟩
    refine while_by (fun σ Hz => Hz = H ∧ ∃ x y : Int, σ = [some (.int a), some (.int b), some (.int x), some (.int y)] ∧ 0 ≤ x ∧ 0 ≤ y ∧ Int.gcd x y = Int.gcd a b) (fun σ _ => match σ with | [_, _, _, some (.int y)] => y.toNat | _ => 0) ?_ ?_ ?_
    · exact ⟨rfl, _, _, rfl, by split <;> omega, by omega, by split <;> simp⟩
    · rintro σ Hz ⟨rfl, x, y, rfl, hx, hy, hg⟩
      refine ⟨_, rfl, rfl, _, rfl, ?_⟩
      refine ite2 (fun c => ?_) (fun c => ?_)
      · have y0 : y ≠ 0 := by
          rintro rfl
          simp at c
        obtain ⟨m1, m2⟩ := fmod_bd (a := x) (b := y) (by omega)
        have em : x.fmod y = x % y := Int.fmod_eq_emod_of_nonneg x hy
        have gt := gcd_turn hx hy
        rw [em] at m1 m2 gt
        refine ⟨_, rfl, _, rfl, .inl ⟨x, rfl, _, rfl, _, _, rfl, rfl, by omega, _, _, rfl, ⟨rfl, y, x % y, rfl, hy, m1, ?_⟩, ?_⟩⟩
        · rw [gt]
          exact hg
        · show (x % y).toNat < y.toNat
          omega
      · have y0 : y = 0 := by
          by_cases z : y = 0
          · exact z
          · exfalso
            apply c
            simp [z]
        subst y0
        have e : x = (Int.gcd a b : Int) := by
          rw [← hg]
          show x = ((Nat.gcd x.natAbs 0 : Nat) : Int)
          rw [Nat.gcd_zero_right]
          omega
        have g0 := gcd_posI (t := a) (b := b) (by omega)
        have lg : ((Int.gcd a b : Int)).natAbs.log2 < 9000 := log_le (Nat.le_of_dvd (by omega) (Int.gcd_dvd_natAbs_right a b)) lb (by omega)
        obtain ⟨d1, d2⟩ := frac_div (t := a) hb
        rw [← d1, ← d2] at q
        rw [e]
        exact ⟨_, rfl, _, rfl, _, _, rfl, rfl, ⟨g0, lg⟩, _, rfl, _, rfl, _, _, rfl, rfl, ⟨g0, lg⟩, (by show 2 ≤ sizeLine; decide), q⟩
    · rintro σ Hz Q1 Q2 hm ⟨v, e, h1, h2⟩
      exact ⟨v, e, h1, by obtain ⟨b, e2, h3⟩ := h2; exact ⟨b, e2, hm _ _ h3⟩⟩
theorem ok_sample {f : Addr} {fd : FuncData} (F : Fun K "_law_sample" "_law_sample" s_sample f fd) (T : RTx K mg Cs CR) (D_pick : DefAt P w K mg base CX0 2 "_law_pick" ["_law_pen_here", "_law_some"] spPickC) (D_frac : DefAt P w K mg base CX0 1 "_law_frac" ["_law_top", "_law_bottom"] spFrac) : FnOk P w K mg base CX0 3 f fd ["_law_pen_here"] spSample := by
  refine F.ok sc_sample (fun vs H Q E h => ?_) (fun cdv A outer s H vs Q E hr h => ?_)
  · obtain ⟨pn, cl, n, rfl, _⟩ := h
    rfl
  · obtain ⟨pn, cl, n, rfl, hp, hn, k⟩ := h
    refine ⟨_, (pss_cons (ps_set (i := 1) sc_sample.nd rfl (Or.inl rfl) (My.pe_d D_pick (hr.mono (by decide)) (by rfl) pass0 (pa_cons (pv 0) (pa_cons (pe_lst (pa_cons pe_int (pa_cons pe_int (pa_cons (pe_un un_neg pe_int) (pa_cons pe_int (pa_cons pe_int (pa_cons (pe_un un_neg pe_int) (pa_cons pe_int (pa_cons (pe_op op_add (pe_op op_pow pe_int pe_int) pe_int) pa_nil))))))))) pa_nil))))
      (pss_one (ps_ret (My.pe_d D_frac (hr.mono (by decide)) (by rfl) pass0 (pa_cons (pv 1) (pa_cons (My.pe_d D_pick (hr.mono (by decide)) (by rfl) pass0 (pa_cons (pv 0) (pa_cons (pe_lst (pa_cons pe_int (pa_cons pe_int (pa_cons pe_int (pa_cons pe_int (pa_cons pe_int (pa_cons pe_int pa_nil))))))) pa_nil))) pa_nil)))))), ?_⟩
    refine ⟨_, rfl, 1, rfl, 5, rfl, _, _, rfl, rfl, ⟨by decide, by decide, by decide⟩, _, _, rfl, rfl, (by show 8 ≤ sizeLine; decide), fun l1 h1 => ?_⟩
    have n1 := pen_ne hp.pen h1
    have s1 := same_new (o := .lst [.int 0, .int 1, .int (-1), .int 2, .int 3, .int (-5), .int 7, .int (10 ^ (9 : Int).toNat + 7)]) h1
    refine ⟨pn, cl, l1, n, _, rfl, upd_same, n1, by decide, by decide, hp.same s1, by omega, fun v H2 hv p2 u2 => ?_⟩
    have u02 := (but_same s1).trans u2
    obtain ⟨t, rfl, bt⟩ : ∃ t : Int, v = .int t ∧ t.natAbs < 2 ^ 40 := by
      simp only [List.mem_cons, List.not_mem_nil, or_false] at hv
      rcases hv with rfl | rfl | rfl | rfl | rfl | rfl | rfl | rfl <;> exact ⟨_, rfl, by decide⟩
    refine ⟨_, rfl, _, rfl, (by show 6 ≤ sizeLine; decide), fun l3 h3 => ?_⟩
    have n3 := pen_ne p2.pen h3
    have s3 := same_new (o := .lst [.int 1, .int 1, .int 1, .int 2, .int 3, .int 8]) h3
    refine ⟨pn, cl, l3, n + 1, _, rfl, upd_same, n3, by decide, by decide, p2.same s3, by omega, fun v H4 hv p4 u4 => ?_⟩
    have u04 := (u02.trans (but_same s3)).trans u4
    obtain ⟨b, rfl, b0, bb⟩ : ∃ b : Int, v = .int b ∧ 0 < b ∧ b.natAbs < 2 ^ 40 := by
      simp only [List.mem_cons, List.not_mem_nil, or_false] at hv
      rcases hv with rfl | rfl | rfl | rfl | rfl | rfl <;> exact ⟨_, rfl, by decide, by decide⟩
    refine ⟨t, b, rfl, b0, Nat.lt_of_lt_of_le (PySem.Flt.log2_lt_of (k := 40) (by decide) bb) (by decide), fun l hl => ?_⟩
    have s5 := same_new (o := .tup [.int (lowT t b), .int (lowB t b)]) hl
    have hl0 : H l = none := by
      cases z : H l with
      | none => rfl
      | some o =>
        by_cases y : l = pn
        · obtain ⟨_, _, _, e1, _⟩ := p4
          rw [y, e1] at hl
          cases hl
        · rw [u04 _ _ z y] at hl
          cases hl
    refine k l (lowT t b, lowB t b) _ hl0 upd_same ⟨⟨lowB_pos (by omega), low_cop (by omega)⟩, ?_, ?_⟩ (p4.same s5) (u04.trans (but_same s5))
    · exact Nat.lt_of_le_of_lt (lowT_abs (by omega)) bt
    · exact Nat.lt_of_le_of_lt (lowB_abs (by omega)) bb
theorem ok_row {f : Addr} {fd : FuncData} (F : Fun K "_law_row" "_law_row" s_row f fd) (T : RTx K mg Cs CR) (D_draw : DefAt P w K mg base CX0 1 "_law_draw" ["_law_pen_here", "_law_many"] spDrawC) (D_sample : DefAt P w K mg base CX0 3 "_law_sample" ["_law_pen_here"] spSample) : FnOk P w K mg base CX0 4 f fd ["_law_pen_here", "_law_most"] spRow := by
  refine F.ok sc_row (fun vs H Q E h => ?_) (fun cdv A outer s H vs Q E hr h => ?_)
  · obtain ⟨pn, cl, n, rfl, _⟩ := h
    rfl
  · obtain ⟨pn, cl, n, rfl, hp, hn, k⟩ := h
    refine ⟨_, (pss_one (ps_ret (pe_lc (own := [("_law_at", 2)]) rfl sc_row.nd (pi_range1 rfl T.z_range (pa_cons (My.pe_d D_draw (hr.mono (by decide)) (by rfl) pass0 (pa_cons (pv 0) (pa_cons (pe_op op_add (pv 1) pe_int) pa_nil))) pa_nil)) (blkOk_by (by show blkC ["_law_pen_here", "_law_most", "_law_at"] (defScope s_row) _ _ = true; decide +kernel)) (fun _ _ _ _ _ => (pg_name (i := 2) sc_row.nd rfl (Or.inl rfl))) (fun _ _ _ _ _ => pts_nil) (fun _ _ _ _ _ => (My.pe_d D_sample (hr.mono (by decide)) (by rfl) pass0 (pa_cons (pv 0) pa_nil)))))), ?_⟩
    refine ⟨_, rfl, _, rfl, _, _, rfl, rfl, pn, cl, 8, n, rfl, by decide, by decide +kernel, hp, by omega, fun d H2 d0 d1 p2 u2 => ?_⟩
    obtain ⟨N, rfl⟩ := Int.eq_ofNat_of_zero_le d0
    refine ⟨(N : Int), rfl, by omega, by omega, fun D hD => ?_⟩
    have nD : D ≠ pn := pen_ne p2.pen hD
    have s2 := same_new (o := .lst []) hD
    refine lc_range (lo := 0) (n := N) (fun i Hh => ∃ ps rs, RowK Hh D ps rs ∧ rs.length = i ∧ (∀ r ∈ rs, OkN 40 r) ∧ PenC Hh pn cl (n + 1 + 2 * i) ∧ But pn H2 Hh) ⟨[], [], ⟨upd_same, rfl, fun i p r e _ => by simp at e⟩, rfl, (fun _ z => nomatch z), p2.same s2, but_same s2⟩ ?_ ?_
    · rintro i Hh hi ⟨ps, rs, R, ln, ok, ph, uh⟩
      refine ⟨rfl, yes_go ⟨_, rfl, pn, cl, _, rfl, ph, by omega, fun l r H3 hl tl okr p3 u3 => ?_⟩⟩
      have R3 := R.but u3 nD ph.notup
      have nlD : D ≠ l := ne_of_none R.l hl
      refine ⟨_, R3.l, ?_, ps ++ [l], rs ++ [r], ⟨?_, ?_, ?_⟩, ?_, ?_, ?_, ?_⟩
      · rw [List.length_map, R.len, sizeLine_eq]
        omega
      · rw [List.map_append]
        exact upd_same
      · rw [List.length_append, List.length_append, R.len]
        rfl
      · intro j p r' e1 e2
        have tup_ne : ∀ {q : Addr} {x : Int × Int}, TupAt H3 q x → q ≠ D := fun {q x} z y => by
          have z : H3 q = _ := z
          rw [y, R3.l] at z
          cases z
        by_cases hj : j < ps.length
        · rw [List.getElem?_append_left hj] at e1
          rw [List.getElem?_append_left (by rw [← R.len]; exact hj)] at e2
          have z := R3.at' j p r' e1 e2
          show upd H3 D _ p = _
          rw [upd_ne (tup_ne z)]
          exact z
        · have hj2 : j = ps.length := by
            have := (List.getElem?_eq_some_iff.mp e1).1
            rw [List.length_append] at this
            have : j < ps.length + 1 := this
            omega
          subst hj2
          rw [List.getElem?_append_right (Nat.le_refl _), Nat.sub_self] at e1
          rw [List.getElem?_append_right (by rw [R.len]; exact Nat.le_refl _), R.len, Nat.sub_self] at e2
          cases e1
          cases e2
          show upd H3 D _ l = _
          rw [upd_ne (tup_ne tl)]
          exact tl
      · rw [List.length_append, ln]
        rfl
      · intro z hz
        rcases List.mem_append.mp hz with h | h
        · exact ok z h
        · cases List.mem_singleton.mp h
          exact okr
      · have nc : cl ≠ D := by
          obtain ⟨_, _, _, _, e2, _⟩ := p2
          exact ne_of_none e2 hD
        exact (p3.put nD.symm nc).le (by omega)
      · intro b o e n
        rw [upd_ne (ne_of_none e hD)]
        exact u3 _ _ (uh _ _ e n) n
    · rintro H3 ⟨ps, rs, R, ln, ok, ph, uh⟩
      have hD0 : H D = none := by
        cases z : H D with
        | none => rfl
        | some o => rw [u2 _ _ z nD] at hD; cases hD
      exact k D ps rs H3 hD0 R (by omega) ok (ph.le (by omega)) (u2.trans uh)
theorem ok_lclip {f : Addr} {fd : FuncData} (F : Fun K "_law_clip" "_law_clip" s_lclip f fd) (T : CTx P K mg Cs CR CC CL fL CP fP CS fS CM fM) (M_Ratio : MakeAt P w K mg base (L2.CX P w) 3 "Ratio" CR ["self", "top", "bottom"] (spRinit CR) []) (K_of : ClsAt P w K mg base (L2.CX P w) 8 CC "of" (spCof Cs CR CC CS CM)) : FnOk P w K mg base CX0 9 f fd ["_law_row_here"] (spLclip CC CR) := by
  refine F.ok sc_lclip (fun vs H Q E h => ?_) (fun cdv A outer s H vs Q E hr h => ?_)
  · obtain ⟨l, ps, rs, rfl, _⟩ := h
    rfl
  · obtain ⟨l, ps, rs, rfl, R, ln, ok, k⟩ := h
    refine ⟨_, (pss_one (ps_ret (My.pe_cm K_of (hr.mono (by decide)) passL (pe_glob (v := .ref CC) (by rfl) T.gC rfl) (pa_cons (pe_lc (own := [("_law_one", 1)]) rfl sc_lclip.nd (pi_list (pv 0)) (blkOk_by (by show blkC ["_law_row_here", "_law_one"] (defScope s_lclip) _ _ = true; decide +kernel)) (fun _ _ _ _ _ => (pg_name (i := 1) sc_lclip.nd rfl (Or.inl rfl))) (fun _ _ _ _ _ => pts_nil) (fun _ _ _ _ _ => (My.pe_mk M_Ratio (hr.mono (by decide)) (by rfl) passL (pa_cons (pe_ix (My.ix_tupB (K := K) rfl) (pv 1) pe_int (fun _ _ => rfl)) (pa_cons (pe_ix (My.ix_tupB (K := K) rfl) (pv 1) pe_int (fun _ _ => rfl)) pa_nil))))) pa_nil)))), ?_⟩
    refine ⟨rfl, _, rfl, l, rfl, ⟨_, SqL.of R.l⟩, fun D hD => ?_⟩
    have nl : l ≠ D := ne_of_none R.l hD
    refine lc_it walk_list (fun i Hh => ∃ vs, Hh D = some (.lst vs) ∧ Rats CR Hh vs (rs.take i) ∧ Same H Hh) ⟨[], upd_same, Rats.nil, same_new hD⟩ (fun i Hh _ hh => by obtain ⟨_, _, _, s2⟩ := hh; exact SqL.of (s2 _ _ R.l)) ?_ ?_
    · rintro i v H2 Hh hi ⟨vs, g1, g2, g3⟩ ⟨rfl, hv⟩
      rw [List.length_map] at hi
      rw [List.getElem?_map] at hv
      obtain ⟨p, hp, rfl⟩ : ∃ p, ps[i]? = some p ∧ v = .ref p := by
        cases e : ps[i]? with
        | none => rw [e] at hv; cases hv
        | some p => rw [e] at hv; cases hv; exact ⟨p, rfl, rfl⟩
      obtain ⟨r, hr⟩ : ∃ r, rs[i]? = some r := ⟨_, List.getElem?_eq_getElem (by rw [← R.len]; exact hi)⟩
      have tp := g3 _ _ (R.at' i p r hp hr)
      have okr := ok r (List.mem_of_getElem? hr)
      have b0 : r.2 ≠ 0 := by have := okr.1.1; omega
      have lg : r.2.natAbs.log2 < 9000 := Nat.lt_trans okr.2.log (by decide)
      have lw := okr.1.low
      refine ⟨rfl, yes_go ⟨_, rfl, p, _, _, _, rfl, rfl, SqT.of tp, at0, _, rfl, p, _, _, _, rfl, rfl, SqT.of tp, at1, fun x dx hx hd ne => rinit_at b0 lg hx hd ne fun H3 l3 s3 => ?_⟩⟩
      rw [lw.1, lw.2] at l3
      refine ⟨vs, s3 _ _ g1, ?_, vs ++ [.ref x], upd_same, ?_, ?_⟩
      · rw [g2.1, List.length_take, sizeLine_eq]
        omega
      · rw [List.take_add_one, hr]
        refine Rats.put ((g2.same s3).snoc l3) fun dx fs z => ?_
        rw [s3 _ _ g1] at z
        cases z
      · intro c o e
        rw [upd_ne (ne_of_none e hD)]
        exact s3 _ _ (g3 _ _ e)
    rintro H2 ⟨vs, g1, g2, g3⟩
    rw [List.length_map, R.len, List.take_length] at g2
    exact ⟨D, vs, rfl, .inr g1, clip_to T.inn (fun rs' z => Nums.eq g2.nums z) g2.nums (by rw [g2.1]; exact ln) fun c H' po hc s => k c H' po (by
      cases z : H c with
      | none => rfl
      | some o => rw [g3 _ _ z] at hc; cases hc) (g3.trans s)⟩
end
end My
/-! Texts whose signs are code points; lists of texts and of truths as data. -/
namespace My
open PySem PySem.Spec PyProof.Rows L2
theorem strOk_app (x y : Str) : PyData.strOk (x ++ y) = (PyData.strOk x && PyData.strOk y) := by
  unfold PyData.strOk
  rw [PySem.Str.cps_append, Array.all_append]
theorem strOk_of (s : String) : PyData.strOk (Str.ofString s) = true := by
  unfold PyData.strOk
  rw [PySem.Str.ofString_eq_toList]
  rw [Array.all_eq_true]
  intro i hi
  simp only [List.getElem_toArray, List.getElem_map, decide_eq_true_eq]
  have := (s.toList[i]'(by simpa using hi)).valid
  rcases this with h | ⟨_, h⟩
  · exact Nat.lt_trans h (by decide)
  · exact h
/-- a list of texts as data -/
theorem dp_strs {K : PySem.W.Frag} {H : Hp} : ∀ zs : List Str, DpAll K H (zs.map V.str) (zs.map PyData.str)
  | [] => .nil
  | z :: zs => .cons (.str z) (dp_strs zs)
theorem lay_strs : ∀ zs : List Str, (∀ z ∈ zs, PyData.strOk z = true) → PyData.canLayAll0 (zs.map PyData.str) = true
  | [], _ => rfl
  | z :: zs, h => by
    show (PyData.strOk z && PyData.canLayAll0 (zs.map PyData.str)) = true
    rw [lay_strs zs fun x hx => h x (List.mem_cons_of_mem _ hx), h z List.mem_cons_self]
    rfl
theorem dep_strs : ∀ zs : List Str, PyData.depthAll (zs.map PyData.str) = 0
  | [] => rfl
  | z :: zs => by
    show max 0 (PyData.depthAll (zs.map PyData.str)) = 0
    rw [dep_strs zs]
    rfl
theorem shaped_strs (zs : List Str) (h : ∀ z ∈ zs, PyData.strOk z = true) : SeqAt.shaped (.list (zs.map PyData.str)) = true := by
  show (PyData.canLayAll0 (zs.map PyData.str) && decide (PyData.depthAll (zs.map PyData.str) + 1 ≤ 64)) = true
  rw [lay_strs zs h, dep_strs]
  rfl
/-- a list of truths as data, shown -/
theorem dp_bls {K : PySem.W.Frag} {H : Hp} : ∀ zs : List Bool, DpAll K H (zs.map V.bl) (zs.map PyData.bool)
  | [] => .nil
  | z :: zs => .cons (.bl z) (dp_bls zs)
theorem dep_bls : ∀ zs : List Bool, PyData.depthAll (zs.map PyData.bool) = 0
  | [] => rfl
  | z :: zs => by
    show max 0 (PyData.depthAll (zs.map PyData.bool)) = 0
    rw [dep_bls zs]
    rfl
theorem showable_bls : ∀ zs : List Bool, PyData.showableAll (zs.map PyData.bool) = true
  | [] => rfl
  | z :: zs => by
    show (true && PyData.showableAll (zs.map PyData.bool)) = true
    rw [showable_bls zs]
    rfl
theorem bls_sum : ∀ zs : List Bool, ((PyData.shownAll (zs.map PyData.bool)).map (·.length)).sum ≤ 5 * zs.length ∧ (PyData.shownAll (zs.map PyData.bool)).length = zs.length
  | [] => ⟨Nat.le_refl _, rfl⟩
  | z :: zs => by
    obtain ⟨h1, h2⟩ := bls_sum zs
    refine ⟨?_, ?_⟩
    · show (PyData.bool z).shown.length + ((PyData.shownAll (zs.map PyData.bool)).map (·.length)).sum ≤ 5 * (zs.length + 1)
      have e : (PyData.bool z).shown.length ≤ 5 := by cases z <;> decide +kernel
      omega
    · show (PyData.shownAll (zs.map PyData.bool)).length + 1 = zs.length + 1
      omega
theorem bls_show {K : PySem.W.Frag} {H : Hp} {l : Addr} (zs : List Bool) (hl : zs.length ≤ 1000) (h : H l = some (.lst (zs.map V.bl))) : Dr K H (.ref l) (.list (zs.map PyData.bool)) ∧ (PyData.list (zs.map PyData.bool)).showable = true ∧ (PyData.list (zs.map PyData.bool)).depth ≤ 60 ∧ (PyData.list (zs.map PyData.bool)).shown.length ≤ sizeLine := by
  refine ⟨.inl (.lst (SqL.of h) (dp_bls zs)), showable_bls zs, ?_, ?_⟩
  · show PyData.depthAll (zs.map PyData.bool) + 1 ≤ 60
    rw [dep_bls]
    decide
  · have h1 := listText_len_le (PyData.shownAll (zs.map PyData.bool))
    obtain ⟨h2, h3⟩ := bls_sum zs
    show (listText (PyData.shownAll (zs.map PyData.bool))).length ≤ sizeLine
    rw [sizeLine_eq]
    omega
theorem bl_show {K : PySem.W.Frag} {H : Hp} (b : Bool) : Dr K H (.bl b) (.bool b) ∧ (PyData.bool b).showable = true ∧ (PyData.bool b).depth ≤ 60 ∧ (PyData.bool b).shown.length ≤ sizeLine := by
  refine ⟨.inl (.bl b), rfl, Nat.zero_le _, ?_⟩
  cases b <;> decide +kernel
end My
namespace My
open PySem PySem.Spec PyProof.Rows L2
theorem int_show {K : PySem.W.Frag} {H : Hp} {i : Int} (h : i.natAbs.log2 < 1920) : Dr K H (.int i) (.int i) ∧ (PyData.int i).showable = true ∧ (PyData.int i).depth ≤ 60 ∧ (PyData.int i).shown.length ≤ sizeLine := by
  refine ⟨.inl (.int i), ?_, Nat.zero_le _, ?_⟩
  · show decide (i.natAbs.log2 < 1920) = true
    exact decide_eq_true h
  · have := num_len h
    show ((toString i : String) : Str).length ≤ sizeLine
    rw [sizeLine_eq]
    omega
theorem shaped_tupI (ns : List Int) : SeqAt.shaped (.tuple (ns.map PyData.int)) = true := by
  show (PyData.canLayAll0 (ns.map PyData.int) && decide (PyData.depthAll (ns.map PyData.int) + 1 ≤ 64)) = true
  rw [lay_ints, dep_ints]
  rfl
theorem bl_len (b : Bool) : (PyData.bool b).shown.length ≤ 5 := by cases b <;> decide +kernel
theorem dep_2 (us ts : List Int) (n : Int) (b : Bool) : PyData.depthAll [PyData.tuple (us.map PyData.int), .int n, .bool b, .list (ts.map PyData.int)] ≤ 10 := by
  show max (PyData.depthAll (us.map PyData.int) + 1) (max 0 (max 0 (max (PyData.depthAll (ts.map PyData.int) + 1) 0))) ≤ 10
  rw [dep_ints, dep_ints]
  decide
/-- [tuple, int, bool, list] shown -/
theorem seen_show {K : PySem.W.Frag} {H : Hp} {l t q : Addr} (us ts : List Int) (n : Int) (b : Bool) (hu : ∀ z ∈ us, z.natAbs.log2 < 1920) (ht : ∀ z ∈ ts, z.natAbs.log2 < 1920) (hn : n.natAbs.log2 < 1920) (lu : us.length ≤ 100) (lt : ts.length ≤ 100) (h : H l = some (.lst [.ref t, .int n, .bl b, .ref q])) (h1 : H t = some (.tup (us.map V.int))) (h2 : H q = some (.lst (ts.map V.int))) :
    Dr K H (.ref l) (.list [.tuple (us.map .int), .int n, .bool b, .list (ts.map .int)]) ∧ (PyData.list [.tuple (us.map .int), .int n, .bool b, .list (ts.map .int)]).showable = true ∧ (PyData.list [.tuple (us.map .int), .int n, .bool b, .list (ts.map .int)]).depth ≤ 60 ∧ (PyData.list [.tuple (us.map .int), .int n, .bool b, .list (ts.map .int)]).shown.length ≤ sizeLine := by
  refine ⟨.inl (.lst (SqL.of h) (.cons (.tup (SqT.of h1) (dp_ints us)) (.cons (.int n) (.cons (.bl b) (.cons (.lst (SqL.of h2) (dp_ints ts)) .nil))))), ?_, ?_, ?_⟩
  · show (PyData.showableAll (us.map PyData.int) && (decide (n.natAbs.log2 < 1920) && (true && (PyData.showableAll (ts.map PyData.int) && true)))) = true
    rw [showable_ints us hu, showable_ints ts ht, decide_eq_true hn]
    rfl
  · have := dep_2 us ts n b
    show _ + 1 ≤ 60
    omega
  · have a1 := tupleText_len_le (PyData.shownAll (us.map PyData.int))
    obtain ⟨a2, a3⟩ := shown_sum us hu
    have b1 := listText_len_le (PyData.shownAll (ts.map PyData.int))
    obtain ⟨b2, b3⟩ := shown_sum ts ht
    have c1 := num_len hn
    have d1 := bl_len b
    have e1 := listText_len_le [(PyData.tuple (us.map PyData.int)).shown, (PyData.int n).shown, (PyData.bool b).shown, (PyData.list (ts.map PyData.int)).shown]
    show (listText [(PyData.tuple (us.map PyData.int)).shown, (PyData.int n).shown, (PyData.bool b).shown, (PyData.list (ts.map PyData.int)).shown]).length ≤ sizeLine
    have e2 : ([(PyData.tuple (us.map PyData.int)).shown, (PyData.int n).shown, (PyData.bool b).shown, (PyData.list (ts.map PyData.int)).shown].map (·.length)).sum = (tupleText (PyData.shownAll (us.map PyData.int))).length + (((toString n : String) : Str).length + ((PyData.bool b).shown.length + ((listText (PyData.shownAll (ts.map PyData.int))).length + 0))) := rfl
    have e3 : [(PyData.tuple (us.map PyData.int)).shown, (PyData.int n).shown, (PyData.bool b).shown, (PyData.list (ts.map PyData.int)).shown].length = 4 := rfl
    rw [e2, e3] at e1
    rw [sizeLine_eq]
    omega
end My
namespace My
open PySem PySem.Spec PyProof.Rows L2
/-- lists of ints as tuples of data -/
def tupsD (uss : List (List Int)) : List PyData := uss.map fun us => .tuple (us.map .int)
/-- tuples of ints at these addresses -/
inductive TupsAt (H : Hp) : List V → List (List Int) → Prop where
  | nil : TupsAt H [] []
  | cons {t : Addr} {us : List Int} {xs : List V} {uss : List (List Int)} (h : H t = some (.tup (us.map V.int))) (r : TupsAt H xs uss) : TupsAt H (.ref t :: xs) (us :: uss)
theorem TupsAt.dp {K : PySem.W.Frag} {H : Hp} {xs : List V} {uss : List (List Int)} (h : TupsAt H xs uss) : DpAll K H xs (tupsD uss) := by
  induction h with
  | nil => exact .nil
  | cons h r ih => exact .cons (.tup (SqT.of h) (dp_ints _)) ih
theorem TupsAt.same {H H' : Hp} {xs : List V} {uss : List (List Int)} (h : TupsAt H xs uss) (s : Same H H') : TupsAt H' xs uss := by
  induction h with
  | nil => exact .nil
  | cons h r ih => exact .cons (s _ _ h) ih
theorem tups_lay : ∀ uss : List (List Int), PyData.depthAll (tupsD uss) ≤ 1
  | [] => Nat.zero_le _
  | us :: uss => by
    show max (PyData.depthAll (us.map PyData.int) + 1) (PyData.depthAll (tupsD uss)) ≤ 1
    rw [dep_ints]
    have := tups_lay uss
    omega
theorem tups_showable : ∀ uss : List (List Int), (∀ us ∈ uss, ∀ z ∈ us, z.natAbs.log2 < 1920) → PyData.showableAll (tupsD uss) = true
  | [], _ => rfl
  | us :: uss, h => by
    show (PyData.showableAll (us.map PyData.int) && PyData.showableAll (tupsD uss)) = true
    rw [showable_ints us (h us List.mem_cons_self), tups_showable uss fun u hu => h u (List.mem_cons_of_mem _ hu)]
    rfl
theorem tups_sum : ∀ uss : List (List Int), (∀ us ∈ uss, us.length ≤ 400 ∧ ∀ z ∈ us, z.natAbs.log2 < 1920) → ((PyData.shownAll (tupsD uss)).map (·.length)).sum ≤ 800000 * uss.length ∧ (PyData.shownAll (tupsD uss)).length = uss.length
  | [], _ => ⟨Nat.le_refl _, rfl⟩
  | us :: uss, h => by
    obtain ⟨h1, h2⟩ := tups_sum uss fun u hu => h u (List.mem_cons_of_mem _ hu)
    obtain ⟨l, z⟩ := h us List.mem_cons_self
    have a1 := tupleText_len_le (PyData.shownAll (us.map PyData.int))
    obtain ⟨a2, a3⟩ := shown_sum us z
    refine ⟨?_, ?_⟩
    · show (tupleText (PyData.shownAll (us.map PyData.int))).length + ((PyData.shownAll (tupsD uss)).map (·.length)).sum ≤ 800000 * (uss.length + 1)
      omega
    · show (PyData.shownAll (tupsD uss)).length + 1 = uss.length + 1
      omega
/-- a list of tuples of ints shown -/
theorem tups_show {K : PySem.W.Frag} {H : Hp} {l : Addr} {xs : List V} (uss : List (List Int)) (h : H l = some (.lst xs)) (at_ : TupsAt H xs uss) (hz : ∀ us ∈ uss, us.length ≤ 400 ∧ ∀ z ∈ us, z.natAbs.log2 < 1920) (hl : uss.length ≤ 10) :
    Dr K H (.ref l) (.list (tupsD uss)) ∧ (PyData.list (tupsD uss)).showable = true ∧ (PyData.list (tupsD uss)).depth ≤ 60 ∧ (PyData.list (tupsD uss)).shown.length ≤ sizeLine := by
  refine ⟨.inl (.lst (SqL.of h) at_.dp), tups_showable uss fun u hu => (hz u hu).2, ?_, ?_⟩
  · have := tups_lay uss
    show PyData.depthAll (tupsD uss) + 1 ≤ 60
    omega
  · have h1 := listText_len_le (PyData.shownAll (tupsD uss))
    obtain ⟨h2, h3⟩ := tups_sum uss hz
    show (listText (PyData.shownAll (tupsD uss))).length ≤ sizeLine
    rw [sizeLine_eq]
    omega
end My
set_option pp.maxSteps 1500
set_option pp.deepTerms.threshold 8
/-! ### the law's pairs, its text, its height -/
namespace My
open PySem PySem.Spec PyProof.Rows L2 GenW
abbrev s_pairs : Stmt := topS 43
theorem sc_pairs : FnScope ["_law_clip_here", "_law_one"] ["_law_clip_here"] (defScope s_pairs) := ⟨rfl, rfl, rfl, by decide +kernel, rfl, by decide +kernel, by decide +kernel⟩
abbrev s_word : Stmt := topS 39
theorem sc_word : FnScope ["_law_one"] ["_law_one"] (defScope s_word) := ⟨rfl, rfl, rfl, by decide +kernel, rfl, by decide +kernel, by decide +kernel⟩
abbrev s_ltext : Stmt := topS 45
theorem sc_ltext : FnScope ["_law_row_here", "_law_one"] ["_law_row_here"] (defScope s_ltext) := ⟨rfl, rfl, rfl, by decide +kernel, rfl, by decide +kernel, by decide +kernel⟩
theorem call_isiB {X : Cx} {K : PySem.W.Frag} (h : X.K = K) : CallR X (.builtin "isinstance") (rIsi K) := by
  subst h
  exact call_isi
theorem cfs_no (t : Addr) {x : Str} (h : (x == ("samples" : Str)) = false) : (cfs t).lookup x = none := by
  unfold cfs
  rw [List.lookup_cons, h]
  rfl
theorem RowK.snoc {H : Hp} {D l : Addr} {ps : List Addr} {rs : List (Int × Int)} {r : Int × Int} (h : RowK H D ps rs) (tl : TupAt H l r) : RowK (upd H D (.lst (ps.map V.ref ++ [.ref l]))) D (ps ++ [l]) (rs ++ [r]) := by
  have tup_ne : ∀ {q : Addr} {x : Int × Int}, TupAt H q x → q ≠ D := fun {q x} z y => by
    have z : H q = _ := z
    rw [y, h.l] at z
    cases z
  refine ⟨?_, ?_, ?_⟩
  · rw [List.map_append]
    exact upd_same
  · rw [List.length_append, List.length_append, h.len]
    rfl
  · intro j p r' e1 e2
    by_cases hj : j < ps.length
    · rw [List.getElem?_append_left hj] at e1
      rw [List.getElem?_append_left (by rw [← h.len]; exact hj)] at e2
      have z := h.at' j p r' e1 e2
      show upd H D _ p = _
      rw [upd_ne (tup_ne z)]
      exact z
    · have hj2 : j = ps.length := by
        have := (List.getElem?_eq_some_iff.mp e1).1
        rw [List.length_append] at this
        have : j < ps.length + 1 := this
        omega
      subst hj2
      rw [List.getElem?_append_right (Nat.le_refl _), Nat.sub_self] at e1
      rw [List.getElem?_append_right (by rw [h.len]; exact Nat.le_refl _), h.len, Nat.sub_self] at e2
      cases e1
      cases e2
      show upd H D _ l = _
      rw [upd_ne (tup_ne tl)]
      exact tl
theorem RowK.nil {H : Hp} {D : Addr} (h : H D = some (.lst [])) : RowK H D [] [] := ⟨h, rfl, fun i p r e _ => by simp at e⟩
theorem RowK.get {H : Hp} {l : Addr} {ps : List Addr} {rs : List (Int × Int)} (h : RowK H l ps rs) {i : Nat} {v : V} (e : (ps.map V.ref)[i]? = some v) : ∃ p r, v = .ref p ∧ ps[i]? = some p ∧ rs[i]? = some r ∧ TupAt H p r := by
  rw [List.getElem?_map] at e
  cases e1 : ps[i]? with
  | none => rw [e1] at e; cases e
  | some p =>
    rw [e1] at e
    cases e
    have hi : i < rs.length := by rw [← h.len]; exact (List.getElem?_eq_some_iff.mp e1).1
    exact ⟨p, rs[i], rfl, rfl, List.getElem?_eq_getElem hi, h.at' i p _ e1 (List.getElem?_eq_getElem hi)⟩
/-- rows as data -/
def two (rs : List (Int × Int)) : List (List Int) := rs.map fun r => [r.1, r.2]
theorem RowK.tups {H : Hp} {l : Addr} {ps : List Addr} {rs : List (Int × Int)} (h : RowK H l ps rs) : TupsAt H (ps.map V.ref) (two rs) := by
  have key : ∀ (ps : List Addr) (rs : List (Int × Int)), ps.length = rs.length → (∀ (i : Nat) p r, ps[i]? = some p → rs[i]? = some r → TupAt H p r) → TupsAt H (ps.map V.ref) (two rs) := by
    intro ps
    induction ps with
    | nil =>
      intro rs e _
      cases rs with
      | nil => exact .nil
      | cons _ _ => cases e
    | cons p ps ih =>
      intro rs e k
      cases rs with
      | nil => cases e
      | cons r rs =>
        refine .cons (us := [r.1, r.2]) (k 0 p r rfl rfl) (ih rs (by simpa using e) fun i q x e1 e2 => k (i + 1) q x ?_ ?_)
        · simpa using e1
        · simpa using e2
  exact key ps rs h.len h.at'
theorem RowK.dp {K : PySem.W.Frag} {H : Hp} {l : Addr} {ps : List Addr} {rs : List (Int × Int)} (h : RowK H l ps rs) : Dp K H (.ref l) (.list (tupsD (two rs))) := .lst (SqL.of h.l) h.tups.dp
theorem tups_can : ∀ uss : List (List Int), PyData.canLayAll0 (tupsD uss) = true
  | [] => rfl
  | us :: uss => by
    show (PyData.canLayAll0 (us.map PyData.int) && PyData.canLayAll0 (tupsD uss)) = true
    rw [lay_ints, tups_can uss]
    rfl
theorem tups_shaped (uss : List (List Int)) : SeqAt.shaped (.list (tupsD uss)) = true := by
  show (PyData.canLayAll0 (tupsD uss) && decide (PyData.depthAll (tupsD uss) + 1 ≤ 64)) = true
  rw [tups_can, decide_eq_true (by have := tups_lay uss; omega)]
  rfl
theorem rows_nil (rs : List (Int × Int)) : PyData.eqv (.list (tupsD (two rs))) (.list []) = decide (rs = []) := by
  cases rs with
  | nil => rfl
  | cons r rs => rfl
theorem nil_shaped : SeqAt.shaped (.list []) = true := rfl
theorem nil_dp {K : PySem.W.Frag} {H : Hp} {q : Addr} (h : H q = some (.lst [])) : Dp K H (.ref q) (.list []) := .lst (SqL.of h) .nil
def spPairs (CC CR : Addr) : Sp := fun vs H Q _ => ∃ (p : Addr) (rs : List (Int × Int)), vs = [.ref p] ∧ ClipAt CC CR H p rs ∧ ∀ l ps H', H l = none → RowK H' l ps rs → Same H H' → Q (.ref l) H'
def LgR (r : Int × Int) : Prop := r.1.natAbs.log2 < 1920 ∧ r.2.natAbs.log2 < 1920
def OkR (r : Int × Int) : Prop := Lw r.1 r.2 ∧ Sm r.1 ∧ Sm r.2
theorem OkR.lg {r : Int × Int} (h : OkR r) : LgR r := ⟨h.2.1.log, h.2.2.log⟩
theorem emp_app (s : Str) : Str.empty ++ s = s := by
  exact Str.empty_append s
/-- the law's own text of a fraction -/
def spWordK : Sp := fun vs H Q _ => ∃ (p : Addr) (r : Int × Int), vs = [.ref p] ∧ TupAt H p r ∧ LgR r ∧ Q (.str (ratT r.1 r.2)) H
def spText : Sp := fun vs H Q _ => ∃ (l : Addr) (ps : List Addr) (rs : List (Int × Int)), vs = [.ref l] ∧ RowK H l ps rs ∧ rs.length ≤ 8 ∧ (∀ r ∈ rs, LgR r) ∧ ∀ H', Same H H' → Q (.str (clipT rs)) H'
section
variable {P : Program} {w : World} {K : PySem.W.Frag} {mg : Str → Option Value} {base : Heap} {Cs : List Addr} {CR CC CL fL CP fP CS fS CM fM : Addr}
theorem ok_pairs {f : Addr} {fd : FuncData} (F : Fun K "_law_pairs" "_law_pairs" s_pairs f fd) (T : CTx P K mg Cs CR CC CL fL CP fP CS fS CM fM) (G_each : GMeth P w K mg base 2 CC "each" (spEach CC)) : FnOk P w K mg base CX0 4 f fd ["_law_clip_here"] (spPairs CC CR) := by
  refine F.ok sc_pairs (fun vs H Q E h => ?_) (fun cdv A outer s H vs Q E hr h => ?_)
  · obtain ⟨p, rs, rfl, _⟩ := h
    rfl
  · obtain ⟨p, rs, rfl, ⟨t, zs, ⟨dx, e⟩, e2, r, l⟩, k⟩ := h
    refine ⟨_, (pss_one (ps_ret (My.pe_lcG (own := [("_law_one", 1)]) rfl sc_pairs.nd (My.pig_m0 G_each rfl T.clC (hr.mono (by decide)) (pv 0)) (blkOk_by (by show blkC ["_law_clip_here", "_law_one"] (defScope s_pairs) _ _ = true; decide +kernel)) (by decide +kernel) (fun _ _ _ _ _ => (pg_name (i := 1) sc_pairs.nd rfl (Or.inl rfl))) (fun _ _ _ _ _ => pts_nil) (fun _ _ _ _ _ => (pe_tup (pa_cons (My.pe_fldB (K := K) rfl (pv 1) rfl) (pa_cons (My.pe_fldB (K := K) rfl (pv 1) rfl) pa_nil))))))), ?_⟩
    refine ⟨_, rfl, p, dx, _, rfl, e, cfs_no t (by decide), _, ⟨p, dx, t, zs, rfl, rfl⟩, fun D hD => ?_⟩
    refine lcG_it walk_tupG (fun i Hh => ∃ ps, RowK Hh D ps (rs.take i) ∧ Same H Hh) ⟨[], .nil upd_same, same_new hD⟩ (fun i Hh _ hh => by obtain ⟨_, _, s⟩ := hh; exact ⟨s _ _ e, s _ _ e2⟩) ?_ ?_
    · rintro i v Hh H2 hi ⟨ps, R, s⟩ ⟨rfl, hv⟩
      obtain ⟨q, rv, rfl, hr', lr⟩ := r.get hv
      obtain ⟨dq, eq⟩ := lr.same s
      refine ⟨rfl, yes_go ⟨_, rfl, q, CR, dq, _, _, rfl, eq, T.cl, T.nT, rfs_top _ _, _, rfl, q, CR, dq, _, _, rfl, eq, T.cl, T.nB, rfs_bot _ _, (by show 2 ≤ sizeLine; decide), fun l hl => ?_⟩⟩
      have s2 := same_new (o := .tup [.int rv.1, .int rv.2]) hl
      refine ⟨_, s2 _ _ R.l, ?_, ps ++ [l], ?_, ?_⟩
      · rw [List.length_map, R.len, List.length_take, sizeLine_eq]
        omega
      · rw [List.take_add_one, hr']
        exact (R.same s2).snoc upd_same
      · intro b o e'
        rw [upd_ne (ne_of_none e' hD)]
        exact s2 _ _ (s _ _ e')
    · rintro H2 ⟨ps, R, s⟩
      rw [List.take_of_length_le (by rw [r.1]; exact Nat.le_refl _)] at R
      exact k D ps H2 hD R s
theorem ok_word {f : Addr} {fd : FuncData} (F : Fun K "_law_word" "_law_word" s_word f fd) (T : CTx P K mg Cs CR CC CL fL CP fP CS fS CM fM) : FnOk P w K mg base CX0 1 f fd ["_law_one"] spWordK := by
  refine F.ok sc_word (fun vs H Q E h => ?_) (fun cdv A outer s H vs Q E hr h => ?_)
  · obtain ⟨p, r, rfl, _⟩ := h
    rfl
  · obtain ⟨p, r, rfl, tp, ⟨la, lb⟩, k⟩ := h
    refine ⟨_, (pss_one (ps_ret (pe_ifExp (pt_cmpR op_eq (pe_ix ix_tup (pv 0) pe_int (fun _ _ => rfl)) pe_int (nomark _)) (pe_callTy call_str_int (by rfl) T.z_str boot_str (pa_cons (pe_ix ix_tup (pv 0) pe_int (fun _ _ => rfl)) pa_nil)) (pe_op op_add_str (pe_op op_add_str (pe_callTy call_str_int (by rfl) T.z_str boot_str (pa_cons (pe_ix ix_tup (pv 0) pe_int (fun _ _ => rfl)) pa_nil)) pe_str) (pe_callTy call_str_int (by rfl) T.z_str boot_str (pa_cons (pe_ix ix_tup (pv 0) pe_int (fun _ _ => rfl)) pa_nil)))))), ?_⟩
    have na := num_len la
    have nb := num_len lb
    refine ⟨_, rfl, p, _, _, _, rfl, rfl, SqT.of tp, at1, rfl, _, rfl, ite2 (fun c => ?_) (fun c => ?_)⟩
    · unfold ratT at k
      rw [if_pos (V.int.inj (of_decide_eq_true c))] at k
      exact ⟨_, rfl, p, _, _, _, rfl, rfl, SqT.of tp, at0, r.1, rfl, la, k⟩
    · have e2 : (("/" : Str)).length = 1 := rfl
      unfold ratT at k
      rw [if_neg (fun z => c (decide_eq_true (congrArg V.int z))), emp_app] at k
      exact ⟨_, rfl, p, _, _, _, rfl, rfl, SqT.of tp, at0, r.1, rfl, la, _, _, rfl, rfl, (by rw [e2, sizeLine_eq]; omega), _, rfl, p, _, _, _, rfl, rfl, SqT.of tp, at1, r.2, rfl, lb, _, _, rfl, rfl, (by rw [app_len, sizeLine_eq]; omega), k⟩
theorem ok_ltext {f : Addr} {fd : FuncData} (F : Fun K "_law_text" "_law_text" s_ltext f fd) (T : CTx P K mg Cs CR CC CL fL CP fP CS fS CM fM) (D_word : DefAt P w K mg base CX0 1 "_law_word" ["_law_one"] spWordK) : FnOk P w K mg base CX0 2 f fd ["_law_row_here"] spText := by
  refine F.ok sc_ltext (fun vs H Q E h => ?_) (fun cdv A outer s H vs Q E hr h => ?_)
  · obtain ⟨l, ps, rs, rfl, _⟩ := h
    rfl
  · obtain ⟨l, ps, rs, rfl, R, ln, ok, k⟩ := h
    refine ⟨_, (pss_one (ps_ret (pe_ifExp (pt_cmpR (op_eqD hr.units) (pv 0) (pe_lst pa_nil) (nomark _)) pe_str (pe_join pe_str (pe_lc (own := [("_law_one", 1)]) rfl sc_ltext.nd (pi_list (pv 0)) (blkOk_by (by show blkC ["_law_row_here", "_law_one"] (defScope s_ltext) _ _ = true; decide +kernel)) (fun _ _ _ _ _ => (pg_name (i := 1) sc_ltext.nd rfl (Or.inl rfl))) (fun _ _ _ _ _ => pts_nil) (fun _ _ _ _ _ => (My.pe_d D_word (hr.mono (by decide)) (by rfl) pass0 (pa_cons (pv 1) pa_nil)))))))), ?_⟩
    refine ⟨_, rfl, (by show 0 ≤ sizeLine; decide), fun q hq => ?_⟩
    have s1 := same_new (o := .lst []) hq
    refine ⟨_, _, (R.same s1).dp, nil_dp upd_same, tups_shaped _, nil_shaped, _, rfl, ?_⟩
    rw [rows_nil]
    refine ite2 (fun c => ?_) (fun c => ?_)
    · have c := of_decide_eq_true c
      have kk := k _ s1
      unfold clipT at kk
      rw [if_pos c] at kk
      exact kk
    · have c : ¬ rs = [] := fun z => c (decide_eq_true z)
      refine ⟨⟨_, rfl⟩, _, rfl, l, rfl, ⟨_, SqL.of (s1 _ _ R.l)⟩, fun D hD => ?_⟩
      refine lc_it walk_list (fun i Hh => Hh D = some (.lst (((rs.take i).map fun r => ratT r.1 r.2).map V.str)) ∧ Same H Hh) ⟨upd_same, s1.trans (same_new hD)⟩ (fun i Hh _ hh => SqL.of (hh.2 _ _ R.l)) ?_ ?_
      · rintro i v H2 Hh hi ⟨g1, g4⟩ ⟨rfl, hv⟩
        rw [List.length_map, R.len] at hi
        obtain ⟨p, r, rfl, _, hr', tp⟩ := R.get hv
        refine ⟨rfl, yes_go ⟨_, rfl, p, r, rfl, g4 _ _ tp, ok r (List.mem_of_getElem? hr'), ⟨_, g1, ?_, ?_, ?_⟩⟩⟩
        · rw [List.length_map, List.length_map, List.length_take, sizeLine_eq]
          omega
        · rw [List.take_add_one, hr', List.map_append, List.map_append]
          exact upd_same
        · intro b o e
          rw [upd_ne (ne_of_none e (by
            cases z : H D with
            | none => rfl
            | some o => rw [s1 _ _ z] at hD; cases hD))]
          exact g4 _ _ e
      · rintro H2 ⟨g1, g4⟩
        rw [List.length_map, R.len, List.take_length] at g1
        have kk := k _ g4
        unfold clipT at kk
        rw [if_neg c] at kk
        have e1 : ((" " : Str)).length = 1 := rfl
        have lw := sum_le (n := 4000) (l := rs.map fun r => ratT r.1 r.2) fun x hx => by
          obtain ⟨r, hr, rfl⟩ := List.mem_map.mp hx
          obtain ⟨h1, h2⟩ := ok r hr
          exact ratT_len h1 h2
        rw [List.length_map] at lw
        exact ⟨_, D, rs.map fun r => ratT r.1 r.2, rfl, rfl, .inl (SqL.of g1), by rw [e1, List.length_map]; omega, kk⟩
end
end My
/-! Which texts are those of fractions. -/
namespace RT
open PySem PySem.Spec PyProof.Rows L2 TX My
theorem val_snoc (l : List Nat) (c : Nat) : NumText.digitsVal (l ++ [c]) = NumText.digitsVal l * 10 + (c - 48) := by
  unfold NumText.digitsVal
  rw [List.foldl_append]
  rfl
theorem val_pos : ∀ (l : List Nat), NumText.AllDigits l → l ≠ [] → l.head? ≠ some 48 → 1 ≤ NumText.digitsVal l := by
  have ge : ∀ (l : List Nat) (a : Nat), a ≤ l.foldl (fun acc c => acc * 10 + (c - 48)) a := by
    intro l
    induction l with
    | nil => intro a; exact Nat.le_refl _
    | cons c l ih =>
      intro a
      show a ≤ l.foldl _ (a * 10 + (c - 48))
      have := ih (a * 10 + (c - 48))
      omega
  intro l hd hne hh
  cases l with
  | nil => exact absurd rfl hne
  | cons c l =>
    have hc := hd c List.mem_cons_self
    have c0 : c ≠ 48 := fun z => hh (by rw [z]; rfl)
    show 1 ≤ l.foldl _ (0 * 10 + (c - 48))
    have := ge l (0 * 10 + (c - 48))
    omega
theorem num_val : ∀ (n : Nat) (l : List Nat), l.length = n + 1 → NumText.AllDigits l → (1 < l.length → l.head? ≠ some 48) → TL.numL (NumText.digitsVal l) = l
  | 0, l, e, hd, _ => by
    rcases l with _ | ⟨c, _ | ⟨d, r⟩⟩
    · cases e
    · have hc := hd c List.mem_cons_self
      have ev : NumText.digitsVal [c] = c - 48 := by
        show 0 * 10 + (c - 48) = _
        omega
      rw [ev, TL.numL_lt (by omega)]
      congr 1
      omega
    · cases e
  | n + 1, l, e, hd, hh => by
    have hne : l ≠ [] := fun z => by rw [z] at e; cases e
    obtain ⟨l', c, rfl⟩ : ∃ l' c, l = l' ++ [c] := ⟨l.dropLast, l.getLast hne, (List.dropLast_concat_getLast hne).symm⟩
    rw [List.length_append] at e
    have e' : l'.length = n + 1 := by
      have : ([c] : List Nat).length = 1 := rfl
      omega
    have hne' : l' ≠ [] := fun z => by rw [z] at e'; cases e'
    have hd' : NumText.AllDigits l' := fun x hx => hd x (List.mem_append_left _ hx)
    have hc := hd c (List.mem_append_right _ List.mem_cons_self)
    have hh' : l'.head? ≠ some 48 := fun z => hh (by rw [List.length_append, e']; show 1 < n + 1 + 1; omega) (by
      cases l' with
      | nil => exact absurd rfl hne'
      | cons a r => exact z)
    have ih := num_val n l' e' hd' fun _ => hh'
    have vp := val_pos l' hd' hne' hh'
    rw [val_snoc, TL.numL_step (by omega)]
    have e1 : (NumText.digitsVal l' * 10 + (c - 48)) / 10 = NumText.digitsVal l' := by omega
    have e2 : 48 + (NumText.digitsVal l' * 10 + (c - 48)) % 10 = c := by omega
    rw [e1, e2, ih]
/-- figures tell their number alone -/
theorem dg_inv {l : List Nat} {z : Int} (h : dg l = some z) : 0 ≤ z ∧ TL.numL z.natAbs = l := by
  have b := dg_lt h
  refine ⟨b.1, ?_⟩
  unfold dg at h
  split at h
  · rename_i ok
    obtain ⟨h1, h2, h3⟩ := okD_all ok
    split at h
    · cases h
    · rename_i g
      have e := Option.some.inj h
      have e2 : z.natAbs = NumText.digitsVal l := by omega
      rw [e2]
      exact num_val (l.length - 1) l (by omega) h3 fun x y => g ⟨x, y⟩
  · cases h
theorem dg_free {l : List Nat} {z : Int} (h : dg l = some z) : (47 : Nat) ∉ l := by
  rw [← (dg_inv h).2]
  exact TL.numL_free (by decide)
theorem intL_inj {a b : Int} (h : intL a = intL b) : a = b := by
  obtain ⟨n1, t1⟩ := neg_int a
  obtain ⟨n2, t2⟩ := neg_int b
  rw [h] at n1 t1
  have e1 : decide (a < 0) = decide (b < 0) := n1.symm.trans n2
  have e2 := TL.numL_inj (t1.symm.trans t2)
  by_cases c : a < 0
  · rw [decide_eq_true c] at e1
    have := of_decide_eq_true e1.symm
    omega
  · rw [decide_eq_false c] at e1
    have : ¬ b < 0 := of_decide_eq_false e1.symm
    omega
theorem spl_cons (s : Nat) : ∀ (l acc : List Nat), ∃ w ws, TL.spl [s] 0 acc l = w :: ws
  | [], acc => ⟨acc, [], TL.spl_nil _ _ _⟩
  | c :: r, acc => by
    by_cases h : TL.pre [s] (c :: r) = true
    · exact ⟨acc, _, TL.spl_hit h⟩
    · rw [TL.spl_miss (by simpa using h)]
      exact spl_cons s r _
theorem join_spl (s : Nat) : ∀ (l acc : List Nat), TL.joinL [s] (TL.spl [s] 0 acc l) = acc ++ l
  | [], acc => by
    rw [TL.spl_nil, List.append_nil]
    rfl
  | c :: r, acc => by
    by_cases h : TL.pre [s] (c :: r) = true
    · rw [TL.spl_hit h]
      have hc : c = s := by
        have h : ([c] == [s]) = true := h
        have := beq_iff_eq.mp h
        exact (List.cons.inj this).1
      show TL.joinL [s] (acc :: TL.spl [s] 0 [] r) = _
      have ih := join_spl s r []
      obtain ⟨w, ws, e⟩ := spl_cons s r []
      rw [e] at ih ⊢
      show acc ++ ([s] ++ TL.joinL [s] (w :: ws)) = _
      rw [ih, hc]
      rfl
    · rw [TL.spl_miss (by simpa using h), join_spl s r, List.append_assoc]
      rfl
/-- the law's own look at a text -/
def isL (ws : List (List Nat)) (l : List Nat) : Bool := match ws with
  | [] => false
  | w0 :: rest => if ((top0 w0 :: rest).all fun w => (dg w).isSome) = true then
      (if 1 < rest.length ∨ l = [45, 48] then false
      else match rest with
        | [] => true
        | w1 :: _ => match dg w1, dg (top0 w0) with
          | some b, some t => decide (1 < b) && decide (lowT t b = t ∧ lowB t b = b)
          | _, _ => false)
    else false
theorem low_neg {t b : Int} (hb : 0 < b) : lowT (-t) b = -lowT t b ∧ lowB (-t) b = lowB t b := by
  have e : sgcd (-t) b = sgcd t b := by
    unfold sgcd
    rw [Int.neg_gcd]
  constructor
  · have h1 := low_t (-t) b
    have h2 := low_t t b
    rw [e] at h1
    have z := sgcd_ne (t := t) (b := b) (by omega)
    refine Int.eq_of_mul_eq_mul_left z ?_
    rw [h1, Int.mul_neg, h2]
  · have h1 := low_b (-t) b
    have h2 := low_b t b
    rw [e] at h1
    have z := sgcd_ne (t := t) (b := b) (by omega)
    exact Int.eq_of_mul_eq_mul_left z (h1.trans h2.symm)
theorem low_one {t b : Int} (hb : 0 < b) (h : lowB t b = b) : lowT t b = t := by
  have h2 := low_b t b
  rw [h] at h2
  have e : sgcd t b = 1 := Int.eq_of_mul_eq_mul_right (a := b) (by omega) (by rw [h2, Int.one_mul])
  have h1 := low_t t b
  rw [e, Int.one_mul] at h1
  exact h1
theorem lowB1 (t : Int) : lowT t 1 = t ∧ lowB t 1 = 1 := low_self (by decide) (by rw [Int.gcd_one_right])
theorem sg_t {w : List Nat} {t : Int} (h : dg (top0 w) = some t) (hz : ¬ (neg w = true ∧ t = 0)) : intL ((if neg w = true then -1 else 1) * t) = w := by
  obtain ⟨t0, ti⟩ := dg_inv h
  unfold top0 at ti
  cases c : neg w with
  | true =>
    rw [c] at hz ti
    have ti : TL.numL t.natAbs = w.drop 1 := ti
    have t1 : t ≠ 0 := fun z => hz ⟨rfl, z⟩
    have e : (if true = true then (-1 : Int) else 1) * t = -t := by
      rw [if_pos rfl]
      omega
    rw [e]
    unfold intL
    rw [if_pos (by omega), Int.natAbs_neg, ti]
    have hw : w.take 1 = [45] := of_decide_eq_true c
    have := List.take_append_drop 1 w
    rw [hw] at this
    exact this
  | false =>
    rw [c] at ti
    have ti : TL.numL t.natAbs = w := ti
    have e : (if false = true then (-1 : Int) else 1) * t = t := by
      rw [if_neg (by decide)]
      omega
    rw [e]
    unfold intL
    rw [if_neg (by omega), ti]
theorem low_sg {t b : Int} (s : Bool) (hb : 0 < b) : lowT ((if s = true then -1 else 1) * t) b = (if s = true then -1 else 1) * lowT t b ∧ lowB ((if s = true then -1 else 1) * t) b = lowB t b := by
  cases s with
  | true =>
    have e : ∀ z : Int, (if true = true then (-1 : Int) else 1) * z = -z := fun z => by
      rw [if_pos rfl]
      omega
    rw [e, e]
    exact low_neg hb
  | false =>
    have e : ∀ z : Int, (if false = true then (-1 : Int) else 1) * z = z := fun z => by
      rw [if_neg (by decide)]
      omega
    rw [e, e]
    exact ⟨rfl, rfl⟩
theorem isL_read (l : List Nat) : isL (TL.spl [47] 0 [] l) l = (readR l).isSome := by
  have hj := join_spl 47 l []
  rw [List.nil_append] at hj
  obtain ⟨w0, rest, ew⟩ := spl_cons 47 l []
  have key : ∀ t b, partsR (w0 :: rest) = some (t, b) → readR l = if txt (lowT t b) (lowB t b) = l then some (lowT t b, lowB t b) else none := fun t b h => by
    unfold readR
    rw [ew, h]
  have keyN : partsR (w0 :: rest) = none → (readR l).isSome = false := fun h => by
    unfold readR
    rw [ew, h]
    rfl
  rw [ew] at hj ⊢
  unfold isL
  show (if ((top0 w0 :: rest).all fun w => (dg w).isSome) = true then _ else false) = _
  rcases rest with _ | ⟨w1, _ | ⟨w2, rest⟩⟩
  · -- one part
    have hj : w0 = l := hj
    cases e0 : dg (top0 w0) with
    | none =>
      rw [keyN (parts_one0 e0), if_neg]
      rw [List.all_cons, e0]
      simp
    | some t =>
      rw [if_pos (by rw [List.all_cons, e0]; rfl)]
      obtain ⟨k1, k2⟩ := lowB1 ((if neg w0 = true then -1 else 1) * t)
      rw [key _ _ (parts_one e0), k1, k2]
      have et : txt ((if neg w0 = true then -1 else 1) * t) 1 = intL ((if neg w0 = true then -1 else 1) * t) := if_pos rfl
      rw [et]
      by_cases hz : l = [45, 48]
      · rw [if_pos (.inr hz), if_neg]
        · rfl
        · rw [← hj] at hz
          rw [hz] at e0 ⊢
          have t0 : t = 0 := by
            have : dg (top0 [45, 48]) = some 0 := by decide +kernel
            rw [this] at e0
            exact (Option.some.inj e0).symm
          rw [t0, Int.mul_zero, ← hj, hz]
          decide +kernel
      · rw [if_neg (by
          rintro (z | z)
          · exact absurd z (by decide)
          · exact hz z), if_pos]
        · rfl
        · rw [sg_t e0, hj]
          rintro ⟨n1, n2⟩
          have h1 : w0.take 1 = [45] := of_decide_eq_true n1
          obtain ⟨_, ti⟩ := dg_inv e0
          unfold top0 at ti
          rw [if_pos n1, n2] at ti
          have z0 : TL.numL (0 : Int).natAbs = [48] := by decide +kernel
          rw [z0] at ti
          have := List.take_append_drop 1 w0
          rw [h1, ← ti] at this
          exact hz (hj.symm.trans this.symm)
  · -- two parts
    have hj : w0 ++ ([47] ++ w1) = l := hj
    cases e0 : dg (top0 w0) with
    | none =>
      rw [keyN (parts_two0 e0), if_neg]
      rw [List.all_cons, e0]
      simp
    | some t =>
      cases e1 : dg w1 with
      | none =>
        rw [keyN (parts_two1 e1), if_neg]
        rw [List.all_cons, List.all_cons, e0, e1]
        simp
      | some b =>
        rw [if_pos (by rw [List.all_cons, List.all_cons, e0, e1]; rfl)]
        have n2 : ¬ (1 < [w1].length ∨ l = [45, 48]) := by
          rintro (z | z)
          · exact absurd z (by show ¬ 1 < 1; decide)
          · have : (47 : Nat) ∈ l := by
              rw [← hj]
              simp
            rw [z] at this
            exact absurd this (by decide)
        rw [if_neg n2]
        simp only [e1]
        obtain ⟨b0, bi⟩ := dg_inv e1
        by_cases hb : 0 < b
        case neg =>
          rw [keyN (by rw [parts_two e0 e1, if_neg hb]), decide_eq_false (by omega), Bool.false_and]
        rw [key _ _ (by rw [parts_two e0 e1, if_pos hb])]
        obtain ⟨k1, k2⟩ := low_sg (t := t) (neg w0) hb
        rw [k1, k2]
        have ib : intL b = w1 := by
          unfold intL
          rw [if_neg (by omega), bi]
        by_cases c : 1 < b ∧ lowT t b = t ∧ lowB t b = b
        · obtain ⟨c1, c2, c3⟩ := c
          rw [decide_eq_true c1, decide_eq_true ⟨c2, c3⟩, c2, c3, if_pos]
          · rfl
          · unfold txt
            rw [if_neg (by omega), ib, sg_t e0, hj]
            rintro ⟨_, z⟩
            have h2 := low_b t b
            rw [c3] at h2
            have e : sgcd t b = 1 := Int.eq_of_mul_eq_mul_right (a := b) (by omega) (by rw [h2, Int.one_mul])
            unfold sgcd at e
            rw [if_neg (by omega), z, Int.gcd_zero_left] at e
            omega
        · have ef : (decide (1 < b) && decide (lowT t b = t ∧ lowB t b = b)) = false := by
            rw [← Bool.decide_and]
            exact decide_eq_false c
          rw [ef, if_neg]
          · rfl
          · intro ht
            have hs := congrArg (TL.spl [47] 0 []) ht
            rw [spl_txt, ew] at hs
            by_cases hB : lowB t b = 1
            · rw [if_pos hB] at hs
              cases (List.cons.inj hs).2
            · rw [if_neg hB] at hs
              have h2 := (List.cons.inj (List.cons.inj hs).2).1
              rw [← ib] at h2
              have e := intL_inj h2
              have hp := lowB_pos (t := t) (b := b) (by omega)
              exact c ⟨by omega, low_one hb e, e⟩
  · -- more
    have hm : partsR (w0 :: w1 :: w2 :: rest) = none := rfl
    rw [keyN hm]
    have hl : 1 < (w1 :: w2 :: rest).length := by
      show 1 < rest.length + 1 + 1
      omega
    by_cases z : ((top0 w0 :: w1 :: w2 :: rest).all fun w => (dg w).isSome) = true
    · rw [if_pos z, if_pos (.inl hl)]
    · rw [if_neg z]
end RT
set_option pp.maxSteps 1500
set_option pp.deepTerms.threshold 8
/-! ### the law's own reader -/
namespace My
open PySem PySem.Spec PyProof.Rows L2 TX
abbrev s_isfig : Stmt := topS 48
theorem sc_isfig : FnScope ["_law_text_here", "_law_sign"] ["_law_text_here"] (defScope s_isfig) := ⟨rfl, rfl, rfl, by decide +kernel, rfl, by decide +kernel, by decide +kernel⟩
abbrev s_lread : Stmt := topS 49
theorem sc_lread : FnScope ["_law_word_here", "_law_plain", "_law_top", "_law_stroke", "_law_bottom", "_law_found"] ["_law_word_here"] (defScope s_lread) := ⟨rfl, rfl, rfl, by decide +kernel, rfl, by decide +kernel, by decide +kernel⟩
def spIsfig : Sp := fun vs H Q _ => ∃ x : Str, vs = [.str x] ∧ x.length ≤ 5000 ∧ ∀ H', Same H H' → Q (.bl (dg (TL.tl x)).isSome) H'
/-- the fraction of a word, or None -/
def FrV (H H' : Hp) (v : V) : Option (Int × Int) → Prop
  | none => v = .non
  | some r => ∃ t, v = .ref t ∧ H t = none ∧ TupAt H' t r
def spLread : Sp := fun vs H Q _ => ∃ x : Str, vs = [.str x] ∧ x.length ≤ 5000 ∧ ∀ v H', FrV H H' v (wR x) → Same H H' → Q v H'
theorem fil_t {c : Nat} (e : isDig c = true) : [c].filter (fun c => !isDig c) = [] := by
  show List.filter _ [c] = []
  rw [List.filter_cons, e]
  rfl
theorem fil_f {c : Nat} (e : isDig c = false) : [c].filter (fun c => !isDig c) = [c] := by
  show List.filter _ [c] = [c]
  rw [List.filter_cons, e]
  rfl
theorem dp_strs9 {K : PySem.W.Frag} {H : Hp} : ∀ zs : List Str, DpAll K H (zs.map V.str) (zs.map PyData.str)
  | [] => .nil
  | z :: zs => .cons (.str z) (dp_strs9 zs)
theorem spl_acc (s : Nat) : ∀ (l acc p w : List Nat) (ws : List (List Nat)), TL.spl [s] 0 acc l = w :: ws → TL.spl [s] 0 (p ++ acc) l = (p ++ w) :: ws
  | [], acc, p, w, ws, h => by
    rw [TL.spl_nil] at h ⊢
    cases h
    rfl
  | c :: r, acc, p, w, ws, h => by
    by_cases g : TL.pre [s] (c :: r) = true
    · rw [TL.spl_hit g] at h ⊢
      cases h
      rfl
    · have g : TL.pre [s] (c :: r) = false := by simpa using g
      rw [TL.spl_miss g] at h ⊢
      rw [List.append_assoc]
      exact spl_acc s r _ p w ws h
/-- the sign stands in the first part -/
theorem spl_topN (l : List Nat) : ∃ w0 rest, TL.spl [47] 0 [] l = w0 :: rest ∧ TL.spl [47] 0 [] (RT.top0 l) = RT.top0 w0 :: rest ∧ RT.neg l = RT.neg w0 := by
  unfold RT.top0 RT.neg
  cases l with
  | nil => exact ⟨[], [], by rw [TL.spl_nil], by decide +kernel, rfl⟩
  | cons c r =>
    by_cases hc : c = 45
    · subst hc
      have g : TL.pre [47] (45 :: r) = false := rfl
      obtain ⟨w, ws, e⟩ := RT.spl_cons 47 r []
      refine ⟨45 :: w, ws, ?_, ?_, rfl⟩
      · rw [TL.spl_miss g]
        exact spl_acc 47 r [] [45] w ws e
      · exact e
    · obtain ⟨w, ws, e⟩ := RT.spl_cons 47 (c :: r) []
      have n1 : ¬ (c :: r).take 1 = [45] := fun z => hc (List.cons.inj z).1
      have n2 : ¬ w.take 1 = [45] := fun z => by
        by_cases g : TL.pre [47] (c :: r) = true
        · rw [TL.spl_hit g] at e
          cases e
          cases z
        · have g : TL.pre [47] (c :: r) = false := by simpa using g
          rw [TL.spl_miss g] at e
          obtain ⟨w', ws', e'⟩ := RT.spl_cons 47 r []
          have e2 := spl_acc 47 r [] [c] w' ws' e'
          rw [List.append_nil] at e2
          rw [show ([] : List Nat) ++ [c] = [c] from rfl, e2] at e
          cases e
          exact hc (List.cons.inj z).1
      refine ⟨w, ws, e, ?_, ?_⟩
      · rw [if_neg (fun z => n1 (of_decide_eq_true z)), if_neg (fun z => n2 (of_decide_eq_true z))]
        exact e
      · rw [decide_eq_false n1, decide_eq_false n2]
theorem par_spl : ∀ (l acc w : List Nat) (ws : List (List Nat)), TL.spl [47] 0 acc l = w :: ws → (ws = [] → TL.par [47] acc l = none ∧ w = acc ++ l) ∧ (ws ≠ [] → ∃ r, TL.par [47] acc l = some (w, r) ∧ TL.spl [47] 0 [] r = ws)
  | [], acc, w, ws, h => by
    rw [TL.spl_nil] at h
    cases h
    exact ⟨fun _ => ⟨TL.par_none fun i hi => absurd hi (Nat.not_lt_zero _), (List.append_nil _).symm⟩, fun z => absurd rfl z⟩
  | c :: r, acc, w, ws, h => by
    by_cases g : TL.pre [47] (c :: r) = true
    · rw [TL.spl_hit g] at h
      cases h
      refine ⟨fun z => ?_, fun _ => ⟨r, TL.par_hit g, rfl⟩⟩
      obtain ⟨a, b, e⟩ := RT.spl_cons 47 r []
      have z : TL.spl [47] 0 [] r = [] := z
      rw [e] at z
      cases z
    · have g : TL.pre [47] (c :: r) = false := by simpa using g
      rw [TL.spl_miss g] at h
      rw [TL.par_miss g]
      obtain ⟨h1, h2⟩ := par_spl r (acc ++ [c]) w ws h
      exact ⟨fun z => by obtain ⟨a, b⟩ := h1 z; exact ⟨a, by rw [b, List.append_assoc]; rfl⟩, h2⟩
theorem dg_int {y : Str} {z : Int} (h : dg (TL.tl y) = some z) : PySem.intText? y = some z ∧ y.length ≤ 640 := by
  unfold dg at h
  split at h
  · rename_i ok
    split at h
    · cases h
    · have := int_of ok
      rw [← Option.some.inj h]
      exact this
  · cases h
/-- what stands above and below the stroke -/
theorem part_of {pl : Str} {w0 : List Nat} {rest : List (List Nat)} (lp : pl.length ≤ 5000) (h : TL.spl [47] 0 [] (TL.tl pl) = w0 :: rest) : ∃ tp st bt : Str, Txt.partition pl "/" = (tp, st, bt) ∧ TL.tl tp = w0 ∧ tp.length ≤ 5000 ∧ ((rest = [] ∧ st = Str.empty) ∨ (rest ≠ [] ∧ st = ("/" : Str) ∧ TL.spl [47] 0 [] (TL.tl bt) = rest ∧ bt.length ≤ 5000)) := by
  have e47 : TL.tl ("/" : Str) = [47] := by decide +kernel
  have pp := TL.partition_par pl "/" (by rw [e47]; exact fun z => nomatch z)
  rw [e47] at pp
  obtain ⟨h1, h2⟩ := par_spl (TL.tl pl) [] w0 rest h
  have lx := TL.len_tl pl
  by_cases hr : rest = []
  · obtain ⟨a, b⟩ := h1 hr
    rw [a] at pp
    exact ⟨pl, Str.empty, Str.empty, pp, b.symm, lp, .inl ⟨hr, rfl⟩⟩
  · obtain ⟨r, a, b⟩ := h2 hr
    rw [a] at pp
    have j := RT.join_spl 47 (TL.tl pl) []
    rw [h] at j
    have lj : w0.length ≤ (TL.tl pl).length := by
      have j' : TL.joinL [47] (w0 :: rest) = TL.tl pl := j
      rw [← j']
      cases rest with
      | nil => exact Nat.le_refl _
      | cons q rs =>
        show w0.length ≤ (w0 ++ ([47] ++ TL.joinL [47] (q :: rs))).length
        rw [List.length_append]
        omega
    have lr : r.length ≤ (TL.tl pl).length := by
      have j2 := RT.join_spl 47 r []
      rw [b] at j2
      have j' : TL.joinL [47] (w0 :: rest) = TL.tl pl := j
      rw [← j', ← show TL.joinL [47] rest = r from j2]
      cases rest with
      | nil => exact absurd rfl hr
      | cons q rs =>
        show _ ≤ (w0 ++ ([47] ++ TL.joinL [47] (q :: rs))).length
        rw [List.length_append, List.length_append]
        omega
    refine ⟨_, _, _, pp, rfl, ?_, .inr ⟨hr, rfl, b, ?_⟩⟩
    · rw [TL.len_tl]
      show w0.length ≤ _
      omega
    · rw [TL.len_tl]
      show r.length ≤ _
      omega
/-- the parts by top and bottom -/
theorem parts_tb {w0 : List Nat} {rest : List (List Nat)} {bt : Str} (h : (rest = [] ∧ bt = ("1" : Str)) ∨ (rest ≠ [] ∧ TL.spl [47] 0 [] (TL.tl bt) = rest)) :
    (dg (RT.top0 w0) = none → RT.partsR (w0 :: rest) = none) ∧ (dg (TL.tl bt) = none → RT.partsR (w0 :: rest) = none) ∧ ∀ t b, dg (RT.top0 w0) = some t → dg (TL.tl bt) = some b → RT.partsR (w0 :: rest) = if 0 < b then some ((if RT.neg w0 = true then -1 else 1) * t, b) else none := by
  rcases h with ⟨rfl, rfl⟩ | ⟨hr, h⟩
  · have e1 : dg (TL.tl ("1" : Str)) = some 1 := by decide +kernel
    refine ⟨fun z => RT.parts_one0 z, fun z => (by rw [e1] at z; cases z), fun t b z1 z2 => ?_⟩
    rw [e1] at z2
    cases z2
    rw [RT.parts_one z1]
    exact (if_pos (show (0 : Int) < 1 by decide)).symm
  · have j := RT.join_spl 47 (TL.tl bt) []
    rw [h] at j
    have j : TL.joinL [47] rest = TL.tl bt := j
    rcases rest with _ | ⟨w1, _ | ⟨w2, rs⟩⟩
    · exact absurd rfl hr
    · have j : w1 = TL.tl bt := j
      subst j
      exact ⟨fun z => RT.parts_two0 z, fun z => RT.parts_two1 z, fun t b z1 z2 => RT.parts_two z1 z2⟩
    · refine ⟨fun _ => RT.parts_more, fun _ => RT.parts_more, fun t b z1 z2 => ?_⟩
      refine absurd ?_ (RT.dg_free z2)
      rw [← j]
      show (47 : Nat) ∈ w1 ++ ([47] ++ TL.joinL [47] (w2 :: rs))
      simp
section
variable {P : Program} {w : World} {K : PySem.W.Frag} {mg : Str → Option Value} {base : Heap} {Cs : List Addr} {CR CC CL fL CP fP CS fS CM fM CT fT : Addr} {tM tE : Tok}
theorem ok_isfig {f : Addr} {fd : FuncData} (F : Fun K "_law_is_figures" "_law_is_figures" s_isfig f fd) (T : BI mg) : FnOk P w K mg base CX0 1 f fd ["_law_text_here"] spIsfig := by
  refine F.ok sc_isfig (fun vs H Q E h => ?_) (fun cdv A outer s H vs Q E hr h => ?_)
  · obtain ⟨y, rfl, _⟩ := h
    rfl
  · obtain ⟨y, rfl, ly, k⟩ := h
    refine ⟨_, (pss_cons (ps_if (PW.pt (pw_or (pt_not (pt_chain op_le op_le pe_int (pe_callB call_len (by rfl) T.z_len PySem.boot_len (pa_cons (pv 0) pa_nil)) pe_int)) (pw_or1 (PW.pt (pw_and (pt_cmpR op_gt (pe_callB call_len (by rfl) T.z_len PySem.boot_len (pa_cons (pv 0) pa_nil)) pe_int (nomark _)) (pw_and1 (pt_cmpR op_eq (pe_ix ix_str (pv 0) pe_int (fun _ _ => rfl)) pe_str (nomark _)))))))) (pss_one (ps_ret pe_bl)) pss_nil)
      (pss_one (ps_ret (pe_cmpR (My.op_eqP hr.units) (pe_lc (own := [("_law_sign", 1)]) rfl sc_isfig.nd (pi_str (pv 0)) (blkOk_by (by show blkC ["_law_text_here", "_law_sign"] (defScope s_isfig) _ _ = true; decide +kernel)) (fun _ _ _ _ _ => (pg_name (i := 1) sc_isfig.nd rfl (Or.inl rfl))) (fun _ _ _ _ _ => (pts_one (pt_cmpR op_notIn_sign (pv 1) pe_str (by rfl)))) (fun _ _ _ _ _ => (pv 1))) (pe_lst pa_nil) (nomark _))))), ?_⟩
    have lx := TL.len_tl y
    have none_of : dg (TL.tl y) = none → ∀ Hy, Same H Hy → Q (.bl false) Hy := fun e Hy s => by
      have z := k Hy s
      rw [e] at z
      exact z
    have dn : okD (TL.tl y) = false → dg (TL.tl y) = none := fun e => by
      unfold dg
      rw [if_neg (by rw [e]; decide)]
    have bad1 : ¬ (1 ≤ y.length ∧ y.length ≤ 60) → okD (TL.tl y) = false := fun z => by
      rw [Bool.eq_false_iff]
      intro w
      obtain ⟨y1, y2, _⟩ := okD_all w
      omega
    have e0 : TL.tl ("0" : Str) = [48] := by decide +kernel
    refine ⟨_, rfl, _, _, rfl, ⟨sl5 ly, rfl⟩, _, _, rfl, rfl, _, rfl, ite2 (fun c1 => ?_) (fun c1 => ?_)⟩
    rotate_left
    · have c1 : ¬ (1 : Int) ≤ y.length := fun z => c1 (decide_eq_true z)
      exact ⟨_, rfl, iteT (iteT (none_of (dn (bad1 (by omega))) H fun _ _ e => e))⟩
    have c1 := of_decide_eq_true c1
    refine ⟨_, _, rfl, rfl, _, rfl, ?_⟩
    by_cases y2 : (y.length : Int) ≤ 60
    rotate_left
    · rw [decide_eq_false y2]
      exact iteT (iteT (none_of (dn (bad1 (by omega))) H fun _ _ e => e))
    rw [decide_eq_true y2]
    refine iteF ?_
    refine ⟨_, rfl, _, _, rfl, ⟨sl5 ly, rfl⟩, _, _, rfl, rfl, _, rfl, ?_⟩
    obtain ⟨c, hc⟩ : ∃ c, (TL.tl y)[0]? = some c := ⟨_, List.getElem?_eq_getElem (by omega)⟩
    have hh : (TL.tl y).head? = some c := by rw [← hc]; cases TL.tl y <;> rfl
    by_cases good : 1 < (TL.tl y).length ∧ c = 48
    · have ha : atI y.cps.toList (0 : Int) = some c := atI_0 hc
      rw [decide_eq_true (show (y.length : Int) > 1 by omega)]
      refine iteT ⟨_, rfl, y, 0, c, rfl, rfl, sl5 ly, ha, rfl, ?_⟩
      rw [str_eq, e0, decide_eq_true (show TL.tl ⟨#[c]⟩ = [48] by rw [good.2] <;> rfl)]
      refine ⟨_, rfl, iteT (none_of ?_ H fun _ _ e => e)⟩
      unfold dg
      split
      · rw [if_pos ⟨good.1, by rw [hh, good.2]⟩]
      · rfl
    have fl : ∀ i, ((((TL.tl y).take i).filter fun c => !isDig c).length ≤ i) := fun i => Nat.le_trans (List.length_filter_le _ _) (by rw [List.length_take]; exact Nat.min_le_left _ _)
    have some_of : okD (TL.tl y) = true → ∀ Hy, Same H Hy → Q (.bl true) Hy := fun eo Hy s => by
      have q := k Hy s
      have e : (dg (TL.tl y)).isSome = true := by
        unfold dg
        rw [if_pos eo, if_neg (fun z => good ⟨z.1, Option.some.inj (hh.symm.trans z.2)⟩)]
        rfl
      rw [e] at q
      exact q
    refine ite2 (fun c2 => ?_) (fun c2 => iteF ?_)
    focus
      have c2 : (y.length : Int) > 1 := of_decide_eq_true c2
      have ha : atI y.cps.toList (0 : Int) = some c := atI_0 hc
      refine ⟨_, rfl, y, 0, c, rfl, rfl, sl5 ly, ha, rfl, ?_⟩
      rw [str_eq, e0, decide_eq_false (show ¬ TL.tl ⟨#[c]⟩ = [48] from fun z => good ⟨by omega, (List.cons.inj z).1⟩)]
      refine ⟨_, rfl, iteF ?_⟩
    all_goals
      refine ⟨_, rfl, y, rfl, fun D hD => ?_⟩
      refine lc_it walk_str (fun i Hh => Hh D = some (.lst ((((TL.tl y).take i).filter fun c => !isDig c).map fun c => V.str ⟨#[c]⟩)) ∧ Same H Hh) ⟨upd_same, same_new hD⟩ (fun _ _ _ _ => trivial) ?_ ?_
      · rintro i v Hh H' hi ⟨g1, g2⟩ ⟨rfl, c, hc, rfl⟩
        have hc' : (TL.tl y)[i]? = some c := by
          rw [← hc]
          exact Array.getElem?_toList
        refine ⟨rfl, _, rfl, c, _, rfl, rfl, _, rfl, ?_⟩
        rw [dig_mem]
        cases e : isDig c with
        | true =>
          refine iteF ⟨?_, g2⟩
          rw [take1 hc', List.filter_append, fil_t e, List.append_nil]
          exact g1
        | false =>
          refine iteT ⟨_, rfl, _, g1, ?_, ?_, ?_⟩
          · have := fl i
            have : i < y.length := hi
            rw [List.length_map, sizeLine_eq]
            omega
          · rw [take1 hc', List.filter_append, fil_f e, List.map_append]
            exact upd_same
          · intro b o e
            rw [upd_ne (ne_of_none e hD)]
            exact g2 _ _ e
      rintro Hh ⟨g1, g2⟩
      have el : (TL.tl y).take y.cps.size = TL.tl y := List.take_of_length_le (by rw [← lx]; exact Nat.le_refl _)
      rw [el] at g1
      refine ⟨(by show 0 ≤ sizeLine; decide), fun l6 h6 => ?_⟩
      have s6 := g2.trans (same_new (o := .lst []) h6)
      have g1 := same_new (o := .lst []) h6 _ _ g1
      have em : ((TL.tl y).filter fun c => !isDig c).map (fun c => V.str ⟨#[c]⟩) = (((TL.tl y).filter fun c => !isDig c).map fun c => (⟨#[c]⟩ : Str)).map V.str := by rw [List.map_map]; rfl
      rw [em] at g1
      refine ⟨.list ((((TL.tl y).filter fun c => !isDig c).map fun c => (⟨#[c]⟩ : Str)).map PyData.str), .list [], .lst (SqL.of g1) (dp_strs9 _), .lst (SqL.of upd_same) .nil, plain_strs _, rfl, Nat.le_trans (Nat.min_le_right _ _) (by decide), ?_⟩
      have eo : okD (TL.tl y) = (TL.tl y).all isDig := by
        unfold okD
        rw [decide_eq_true (show 1 ≤ (TL.tl y).length by omega), decide_eq_true (show (TL.tl y).length ≤ 60 by omega), Bool.true_and, Bool.true_and]
      have ev : PyData.eqv (.list ((((TL.tl y).filter fun c => !isDig c).map fun c => (⟨#[c]⟩ : Str)).map PyData.str)) (.list []) = (TL.tl y).all isDig := by
        cases e : (TL.tl y).all isDig with
        | true =>
          have : (TL.tl y).filter (fun c => !isDig c) = [] := List.filter_eq_nil_iff.mpr fun c hc z => by
            rw [List.all_eq_true] at e
            rw [e c hc] at z
            exact absurd z (by decide)
          rw [this]
          rfl
        | false =>
          cases g : (TL.tl y).filter (fun c => !isDig c) with
          | nil =>
            exfalso
            rw [Bool.eq_false_iff] at e
            refine e (List.all_eq_true.mpr fun c hc => ?_)
            have := List.filter_eq_nil_iff.mp g c hc
            cases z : isDig c with
            | true => rfl
            | false => exact absurd (by rw [z]; rfl) this
          | cons a r => rfl
      rw [ev]
      cases e : (TL.tl y).all isDig with
      | false => exact none_of (dn (by rw [eo, e])) _ s6
      | true => exact some_of (by rw [eo, e]) _ s6
theorem ok_lread {f : Addr} {fd : FuncData} (F : Fun K "_law_read" "_law_read" s_lread f fd) (T : CTx P K mg Cs CR CC CL fL CP fP CS fS CM fM) (D_isfig : DefAt P w K mg base CX0 1 "_law_is_figures" ["_law_text_here"] spIsfig) (D_frac : DefAt P w K mg base CX0 1 "_law_frac" ["_law_top", "_law_bottom"] spFrac) (D_word : DefAt P w K mg base CX0 1 "_law_word" ["_law_one"] spWordK) : FnOk P w K mg base CX0 2 f fd ["_law_word_here"] spLread := by
  refine F.ok sc_lread (fun vs H Q E h => ?_) (fun cdv A outer s H vs Q E hr h => ?_)
  · obtain ⟨x, rfl, _⟩ := h
    rfl
  · obtain ⟨x, rfl, hx, k⟩ := h
    refine ⟨_, (C8.pss_cut (ps_set (i := 1) sc_lread.nd rfl (Or.inl rfl) (pe_ifExp (pt_cmpR op_eq (pe_slice sl_str (pv 0) po_none (po_some pe_int)) pe_str (nomark _)) (pe_slice sl_str (pv 0) (po_some pe_int) po_none) (pv 0)))
      (pss_cons (ps_asg (pe_partition (pv 1) pe_str) (pg_tup rfl (pgs_cons (pg_name (i := 2) sc_lread.nd rfl (Or.inl rfl)) (pgs_cons (pg_name (i := 3) sc_lread.nd rfl (Or.inl rfl)) (pgs_cons (pg_name (i := 4) sc_lread.nd rfl (Or.inl rfl)) pgs_nil)))))
      (C8.pss_cut (ps_if (pt_cmpR op_eq (pv 3) pe_str (nomark _)) (pss_one (ps_set (i := 4) sc_lread.nd rfl (Or.inl rfl) pe_str)) pss_nil)
      (pss_cons (ps_if (PW.pt (pw_or (pt_not (pt_val (My.pe_d D_isfig (hr.mono (by decide)) (by rfl) pass0 (pa_cons (pv 2) pa_nil)))) (pw_or (pt_not (pt_val (My.pe_d D_isfig (hr.mono (by decide)) (by rfl) pass0 (pa_cons (pv 4) pa_nil)))) (pw_or1 (pt_cmpR op_eq (pv 4) pe_str (nomark _)))))) (pss_one (ps_ret pe_non)) pss_nil)
      (pss_cons (ps_set (i := 5) sc_lread.nd rfl (Or.inl rfl) (My.pe_d D_frac (hr.mono (by decide)) (by rfl) pass0 (pa_cons (pe_ifExp (pt_cmpR op_eq (pv 1) (pv 0) (nomark _)) (pe_callTy call_int_str (by rfl) T.z_int boot_int (pa_cons (pv 2) pa_nil)) (pe_op op_sub pe_int (pe_callTy call_int_str (by rfl) T.z_int boot_int (pa_cons (pv 2) pa_nil)))) (pa_cons (pe_callTy call_int_str (by rfl) T.z_int boot_int (pa_cons (pv 4) pa_nil)) pa_nil))))
      (pss_one (ps_ret (pe_ifExp (pt_cmpR op_eq (My.pe_d D_word (hr.mono (by decide)) (by rfl) pass0 (pa_cons (pv 5) pa_nil)) (pv 0) (nomark _)) (pv 5) pe_non)))))))), ?_⟩
    have e45 : TL.tl ("-" : Str) = [45] := by decide +kernel
    obtain ⟨w0, rest, es, et, en⟩ := spl_topN (TL.tl x)
    refine ⟨fun σ Hz => ∃ pl : Str, σ = [some (.str x), some (.str pl), none, none, none, none] ∧ TL.tl pl = RT.top0 (TL.tl x) ∧ pl.length ≤ 5000 ∧ decide (V.str pl = V.str x) = !RT.neg (TL.tl x) ∧ Hz = H, ?_, ?_⟩
    · refine ⟨_, rfl, 1, rfl, x, rfl, sl5 hx, rfl, _, rfl, ?_⟩
      rw [str_eq, cut_to1, e45]
      refine ite2 (fun c => ?_) (fun c => ?_)
      · refine ⟨_, rfl, 1, rfl, x, rfl, sl5 hx, ?_⟩
        have c : RT.neg (TL.tl x) = true := c
        have e : TL.tl (L2.cutS x (some 1) none) = (TL.tl x).drop 1 := cut_from1 x
        refine ⟨_, rfl, ?_, Nat.le_trans (cutS_length ..) hx, ?_, rfl⟩
        · rw [e]
          unfold RT.top0
          rw [if_pos c]
        · rw [c, str_eq, e]
          refine decide_eq_false fun z => ?_
          have c2 : (TL.tl x).take 1 = [45] := of_decide_eq_true c
          have := congrArg List.length z
          rw [List.length_drop] at this
          cases g : TL.tl x with
          | nil => rw [g] at c2; cases c2
          | cons a r =>
            rw [g] at this
            have : r.length + 1 - 1 = r.length + 1 := this
            omega
      · have c : RT.neg (TL.tl x) = false := by
          have c : ¬ RT.neg (TL.tl x) = true := c
          simpa using c
        refine ⟨_, rfl, x, rfl, ?_, hx, ?_, rfl⟩
        · unfold RT.top0
          rw [c, if_neg (by decide)]
        · rw [c, decide_eq_true rfl]
          rfl
    rintro σ Hz ⟨pl, rfl, epl, lpl, neq, rfl⟩
    rw [← epl] at et
    obtain ⟨tp, st, bt, ep, e1, l1, hst⟩ := part_of lpl et
    refine ⟨_, rfl, ⟨_, rfl⟩, pl, "/", rfl, rfl, by decide +kernel, sl5 lpl, fun p hp => ?_⟩
    rw [ep]
    have s1 := same_new (o := .tup [.str tp, .str st, .str bt]) hp
    refine ⟨p, _, rfl, SqT.of upd_same, rfl, _, _, rfl, _, _, rfl, _, _, rfl, rfl, ?_⟩
    show C8.tCut _ _ _ _ (upd Hz p (.tup [.str tp, .str st, .str bt]))
    generalize upd Hz p (.tup [.str tp, .str st, .str bt]) = H1 at s1 ⊢
    refine ⟨fun σ Hy => ∃ bo : Str, σ = [some (.str x), some (.str pl), some (.str tp), some (.str st), some (.str bo), none] ∧ bo.length ≤ 5000 ∧ ((rest = [] ∧ bo = ("1" : Str)) ∨ (rest ≠ [] ∧ TL.spl [47] 0 [] (TL.tl bo) = rest)) ∧ Hy = H1, ?_, ?_⟩
    · refine ⟨_, rfl, rfl, _, rfl, ?_⟩
      show (if decide (V.str st = V.str "") = true then _ else _)
      rw [str_eq, tl_no]
      rcases hst with ⟨hr, rfl⟩ | ⟨hr, rfl, eb, lb⟩
      · rw [decide_eq_true (show TL.tl Str.empty = [] from rfl)]
        exact iteT ⟨"1", rfl, by decide +kernel, .inl ⟨hr, rfl⟩, rfl⟩
      · rw [decide_eq_false (show ¬ TL.tl ("/" : Str) = [] by decide +kernel)]
        exact iteF ⟨bt, rfl, lb, .inr ⟨hr, eb⟩, rfl⟩
    rintro σ Hy ⟨bo, rfl, lbo, hb, rfl⟩
    obtain ⟨PN, PO, PS⟩ := parts_tb (w0 := w0) hb
    have rd : wR x = match RT.partsR (w0 :: rest) with | some (t, b) => (if RT.txt (lowT t b) (lowB t b) = TL.tl x then some (lowT t b, lowB t b) else none) | none => none := by
      show RT.readR (TL.tl x) = _
      unfold RT.readR
      rw [es]
      cases RT.partsR (w0 :: rest) <;> rfl
    have none_of : RT.partsR (w0 :: rest) = none → ∀ Hx, Same Hz Hx → Q .non Hx := fun e Hx s => by
      refine k .non Hx ?_ s
      rw [rd, e]
      rfl
    refine ⟨_, rfl, tp, rfl, l1, fun H2 s2 => ⟨_, rfl, ?_⟩⟩
    rw [e1]
    have t2 := s1.trans s2
    cases z1 : dg (RT.top0 w0) with
    | none => exact iteT (iteT (none_of (PN z1) _ t2))
    | some t =>
      refine iteF ⟨_, rfl, bo, rfl, lbo, fun H3 s3 => ⟨_, rfl, ?_⟩⟩
      have t3 := t2.trans s3
      cases z2 : dg (TL.tl bo) with
      | none => exact iteT (iteT (none_of (PO z2) _ t3))
      | some b =>
        refine iteF ?_
        obtain ⟨b0, eb⟩ := RT.dg_inv z2
        refine ⟨_, rfl, rfl, _, rfl, ?_⟩
        have e0 : TL.tl ("0" : Str) = [48] := by decide +kernel
        rw [str_eq, e0]
        by_cases hb0 : b = 0
        · have e48 : TL.tl bo = [48] := by
            rw [← eb, hb0]
            decide +kernel
          rw [decide_eq_true e48]
          refine iteT (none_of ?_ _ t3)
          rw [PS t b z1 z2, if_neg (by omega)]
        have n48 : ¬ TL.tl bo = [48] := fun z => by
          rw [z] at z2
          have : dg [48] = some 0 := by decide +kernel
          rw [this] at z2
          exact hb0 (Option.some.inj z2).symm
        rw [decide_eq_false n48]
        have bp : 0 < b := by omega
        have pp := PS t b z1 z2
        rw [if_pos bp, ← en] at pp
        rw [pp] at rd
        obtain ⟨i1, i2⟩ := dg_int (y := tp) (by rw [e1]; exact z1)
        obtain ⟨i3, i4⟩ := dg_int z2
        obtain ⟨t0, tl⟩ := dg_lt z1
        obtain ⟨_, bl⟩ := dg_lt z2
        refine iteF ⟨_, rfl, _, rfl, rfl, _, rfl, ?_⟩
        rw [neq]
        have bb : b.natAbs < 10 ^ 60 := by omega
        have b300 : Sm b := Nat.lt_trans bb (by decide +kernel)
        have key : ∀ (t' : Int) (l : Addr), H3 l = none → t' = (if RT.neg (TL.tl x) = true then -1 else 1) * t → LgR (lowT t' b, lowB t' b) ∧
            (decide (V.str (ratT (lowT t' b) (lowB t' b)) = V.str x) = true → Q (.ref l) (upd H3 l (.tup [.int (lowT t' b), .int (lowB t' b)]))) ∧ (¬ decide (V.str (ratT (lowT t' b) (lowB t' b)) = V.str x) = true → Q .non (upd H3 l (.tup [.int (lowT t' b), .int (lowB t' b)]))) := fun t' l hl e => by
          have st : Sm t' := by
            refine Nat.lt_trans (m := 10 ^ 60) ?_ (by decide +kernel)
            rw [e, Int.natAbs_mul]
            have : (if RT.neg (TL.tl x) = true then (-1 : Int) else 1).natAbs = 1 := by split <;> rfl
            rw [this]
            omega
          have s4 := t3.trans (same_new (o := .tup [.int (lowT t' b), .int (lowB t' b)]) hl)
          rw [← e] at rd
          have rd : wR x = if RT.txt (lowT t' b) (lowB t' b) = TL.tl x then some (lowT t' b, lowB t' b) else none := rd
          refine ⟨⟨Sm.log (Nat.lt_of_le_of_lt (lowT_abs hb0) st), Sm.log (Nat.lt_of_le_of_lt (lowB_abs hb0) b300)⟩, fun c => ?_, fun c => ?_⟩
          · rw [str_eq, tl_rat] at c
            rw [if_pos (of_decide_eq_true c)] at rd
            refine k _ _ ?_ s4
            rw [rd]
            exact ⟨l, rfl, none_back t3 hl, upd_same⟩
          · rw [str_eq, tl_rat] at c
            rw [if_neg (fun z => c (decide_eq_true z))] at rd
            refine k _ _ ?_ s4
            rw [rd]
            rfl
        have lb : b.natAbs.log2 < 9000 := Nat.lt_trans (Sm.log b300) (by decide)
        cases ng : RT.neg (TL.tl x) with
        | false =>
          refine iteT ⟨_, rfl, tp, t, rfl, i1, by omega, _, rfl, bo, b, rfl, i3, by omega, t, b, rfl, bp, lb, fun l hl => ?_⟩
          obtain ⟨k1, k2, k3⟩ := key t l hl (by rw [ng, if_neg (by decide), Int.one_mul])
          exact ⟨_, rfl, l, (lowT t b, lowB t b), rfl, upd_same, k1, _, rfl, rfl, _, rfl, ite2 (fun c => ⟨_, rfl, k2 c⟩) (fun c => k3 c)⟩
        | true =>
          refine iteF ⟨_, rfl, tp, t, rfl, i1, by omega, _, _, rfl, rfl, _, rfl, bo, b, rfl, i3, by omega, 0 - t, b, rfl, bp, lb, fun l hl => ?_⟩
          obtain ⟨k1, k2, k3⟩ := key (0 - t) l hl (by rw [ng, if_pos rfl]; omega)
          exact ⟨_, rfl, l, (lowT (0 - t) b, lowB (0 - t) b), rfl, upd_same, k1, _, rfl, rfl, _, rfl, ite2 (fun c => ⟨_, rfl, k2 c⟩) (fun c => k3 c)⟩
end
end My
/-! l.count(x), data. -/
namespace My
open PySem PySem.Spec PyProof.Rows L2
def rCountL (K : PySem.W.Frag) : V → List V → Hp → VK → Prop := fun x xs H Q => ∃ (a : Addr) (y : V) (d : PyData) (ds : List PyData), x = V.ref a ∧ xs = [y] ∧ Dp K H (V.ref a) (.list ds) ∧ Dp K H y d ∧ PyData.plainAll ds = true ∧ d.plain = true ∧ d.depth ≤ 60 ∧
  Q (.int ((ds.countP fun z => PyData.eqv z d : Nat) : Int)) H
theorem mt_countL {X : Cx} (hu : X.A.units + 64 < cLine) : MtR X "list.count" (rCountL X.K) := by
  intro pins s σ H x xs v us Q I rx rxs h
  obtain ⟨a, y, d, ds, rfl, rfl, hl, hy, sl, sd, dp, q⟩ := h
  cases rx
  cases rxs with
  | cons ry rt =>
    rename_i uy ut
    cases rt
    obtain ⟨bs, r1⟩ := Dp.reads I d y uy hy ry
    cases hl with
    | lst hs ha =>
      obtain ⟨its, rv, hil, hlen⟩ := I.list hs
      obtain ⟨as, h4⟩ := Dp.readsAll I ds _ its ha rv
      refine PySem.SeqAt.count_list_data (vs := its.toArray) hil.isList (by simpa using h4) r1 sl sd (by omega) ?_
      exact ⟨.int _, H, I.tok _, ⟨_, rfl⟩, q⟩
end My
set_option pp.maxSteps 1500
set_option pp.deepTerms.threshold 8
/-! ### what a call refuses -/
namespace My
open PySem PySem.Spec PyProof.Rows L2
abbrev s_fields : Stmt := topS 47
theorem sc_fields : FnScope ["_law_caught", "_law_which"] ["_law_caught", "_law_which"] (defScope s_fields) := ⟨rfl, rfl, rfl, by decide +kernel, rfl, by decide +kernel, by decide +kernel⟩
abbrev s_errors : Stmt := topS 46
theorem sc_errors : FnScope ["_law_ask", "_law_caught", "error", "_law_kinds"] ["_law_ask"] (defScope s_errors) := ⟨rfl, rfl, rfl, by decide +kernel, rfl, by decide +kernel, by decide +kernel⟩
/-- an error class that may be heard: the i-th of the law's row -/
structure Kd (K : PySem.W.Frag) (CE CS CP CL B3 B4 CM B6 B7 B8 C : Addr) (i : Nat) : Prop where
  x : PySem.W.exmOne K (.ref C) (.ref CE) = some true
  kB : ExcK K C
  rd : XfC K C
  k0 : PySem.W.kitOne K (.ref C) (.ref CS) = some (decide (i = 0))
  k1 : PySem.W.kitOne K (.ref C) (.ref CP) = some (decide (i = 1))
  k2 : PySem.W.kitOne K (.ref C) (.ref CL) = some (decide (i = 2))
  k3 : PySem.W.kitOne K (.ref C) (.ref B3) = some (decide (i = 3))
  k4 : PySem.W.kitOne K (.ref C) (.ref B4) = some (decide (i = 4))
  k5 : PySem.W.kitOne K (.ref C) (.ref CM) = some (decide (i = 5))
  k6 : PySem.W.kitOne K (.ref C) (.ref B6) = some (decide (i = 6))
  k7 : PySem.W.kitOne K (.ref C) (.ref B7) = some (decide (i = 7))
  k8 : PySem.W.kitOne K (.ref C) (.ref B8) = some (decide (i = 8))
  kv : PySem.W.kitOne K (.ref C) (.type "ValueError") = some true
/-- what is told of it -/
def Out (i : Nat) (fs : List (Str × V)) (ws : List V) : Prop := i = 8 ∧ ∃ v u, fs = [(("line" : Str), v), (("word" : Str), u)] ∧ ws = [.str "text", v, u]
theorem Out.lt {i : Nat} {fs : List (Str × V)} {ws : List V} (h : Out i fs ws) : i < 9 := by
  have := h.1
  omega
structure ETx (K : PySem.W.Frag) (mg : Str → Option Value) (CE CS CP CL B3 B4 CM B6 B7 B8 : Addr) : Prop extends BI mg where
  gClip : mg "ClipError" = some (.ref CE)
  gS : mg "BadSample" = some (.ref CS)
  gP : mg "BadPlace" = some (.ref CP)
  gL : mg "BadLength" = some (.ref CL)
  g3 : mg "BadEdit" = some (.ref B3)
  g4 : mg "BadStep" = some (.ref B4)
  gM : mg "TooMany" = some (.ref CM)
  g6 : mg "NoIndex" = some (.ref B6)
  g7 : mg "NoChange" = some (.ref B7)
  g8 : mg "BadText" = some (.ref B8)
  z_ValueError : mg "ValueError" = none
/-- the error at a: its class C, its fields fs in d -/
def KeptE (K : PySem.W.Frag) (H : Hp) (a C d : Addr) (fs : List (Str × V)) : Prop := H a = some (ExA (.ref C) (some d) a) ∧ H d = some (.xd fs) ∧ ∀ p ∈ fs, PySem.W.findIn K (.ref C) p.1 = some none
theorem KeptE.same {K : PySem.W.Frag} {H H' : Hp} {a C d : Addr} {fs : List (Str × V)} (h : KeptE K H a C d fs) (s : Same H H') : KeptE K H' a C d fs := ⟨s _ _ h.1, s _ _ h.2.1, h.2.2⟩
def spFields (K : PySem.W.Frag) : Sp := fun vs H Q _ => ∃ (a C d : Addr) (fs : List (Str × V)) (i : Nat) (ws : List V), vs = [.ref a, .int i] ∧ KeptE K H a C d fs ∧ XfC K C ∧ Out i fs ws ∧ ∀ t H', H t = none → H' t = some (.tup ws) → Same H H' → Q (.ref t) H'
/-- what errors hands back of an error -/
def WErr (K : PySem.W.Frag) (CE CS CP CL B3 B4 CM B6 B7 B8 : Addr) (Q : VK) : XK := fun cls d H => ∃ (C dd : Addr) (fs : List (Str × V)) (i : Nat) (ws : List V), cls = .ref C ∧ d = some dd ∧ H dd = some (.xd fs) ∧ (∀ p ∈ fs, PySem.W.findIn K (.ref C) p.1 = some none) ∧ Kd K CE CS CP CL B3 B4 CM B6 B7 B8 C i ∧ Out i fs ws ∧
  ∀ t H', H t = none → Same H H' → H' t = some (.tup ws) → Q (.ref t) H'
def TErr (K : PySem.W.Frag) (CE CS CP CL B3 B4 CM B6 B7 B8 : Addr) : (XK → Hp → VK → Prop) → Hp → VK → Prop := fun tl H Q => tl (WErr K CE CS CP CL B3 B4 CM B6 B7 B8 Q) H fun v H' => [v].length ≤ sizeLine ∧ ∀ l, H' l = none → Q (.ref l) (upd H' l (.lst [v]))
theorem len4 {σ : List (Option V)} (h : σ.length = 4) : ∃ x y z u, σ = [x, y, z, u] := by
  match σ, h with
  | [x, y, z, u], _ => exact ⟨x, y, z, u, rfl⟩
def kinds (i : Nat) : List PyData := [.bool (decide (i = 0)), .bool (decide (i = 1)), .bool (decide (i = 2)), .bool (decide (i = 3)), .bool (decide (i = 4)), .bool (decide (i = 5)), .bool (decide (i = 6)), .bool (decide (i = 7)), .bool (decide (i = 8))]
theorem kinds_one {i : Nat} (h : i < 9) : (kinds i).countP (fun z => PyData.eqv z (.bool true)) = 1 := by
  have key : ∀ i : Fin 9, (kinds i.1).countP (fun z => PyData.eqv z (.bool true)) = 1 := by decide +kernel
  exact key ⟨i, h⟩
theorem kinds_plain (i : Nat) : PyData.plainAll (kinds i) = true := rfl
def kindV (i : Nat) : List V := [.bl (decide (i = 0)), .bl (decide (i = 1)), .bl (decide (i = 2)), .bl (decide (i = 3)), .bl (decide (i = 4)), .bl (decide (i = 5)), .bl (decide (i = 6)), .bl (decide (i = 7)), .bl (decide (i = 8))]
theorem kind_at {i : Nat} (h : i < 9) : (kindV i)[i]? = some (.bl true) := by
  match i, h with
  | 0, _ | 1, _ | 2, _ | 3, _ | 4, _ | 5, _ | 6, _ | 7, _ | 8, _ => rfl
theorem kind_no {i m : Nat} (h : i < 9) {z : V} (hm : m < i) (e : (kindV i)[m]? = some z) : eqV z (.bl true) = false := by
  have hm9 : m < 9 := by omega
  have : z = .bl false := by
    match i, h, m, hm, hm9, e with
    | i, h, 0, hm, _, e => cases e; congr 1; exact decide_eq_false (by omega)
    | i, h, 1, hm, _, e => cases e; congr 1; exact decide_eq_false (by omega)
    | i, h, 2, hm, _, e => cases e; congr 1; exact decide_eq_false (by omega)
    | i, h, 3, hm, _, e => cases e; congr 1; exact decide_eq_false (by omega)
    | i, h, 4, hm, _, e => cases e; congr 1; exact decide_eq_false (by omega)
    | i, h, 5, hm, _, e => cases e; congr 1; exact decide_eq_false (by omega)
    | i, h, 6, hm, _, e => cases e; congr 1; exact decide_eq_false (by omega)
    | i, h, 7, hm, _, e => cases e; congr 1; exact decide_eq_false (by omega)
    | i, h, 8, hm, _, e => cases e; congr 1; exact decide_eq_false (by omega)
  rw [this]
  rfl
section
variable {P : Program} {w : World} {K : PySem.W.Frag} {mg : Str → Option Value} {base : Heap}
theorem ok_fields {f : Addr} {fd : FuncData} (F : Fun K "_law_fields" "_law_fields" s_fields f fd) (T : BI mg) : FnOk P w K mg base CX0 1 f fd ["_law_caught", "_law_which"] (spFields K) := by
  refine F.ok sc_fields (fun vs H Q E h => ?_) (fun cdv A outer s H vs Q E hr h => ?_)
  · obtain ⟨a, C, d, fs, i, ws, rfl, _⟩ := h
    rfl
  · obtain ⟨a, C, d, fs, i, ws, rfl, ⟨ha, hd, nf⟩, rd, o, k⟩ := h
    refine ⟨_, (pss_cons (ps_if (pt_cmpR op_eq (pv 1) pe_int (nomark _)) (pss_one (ps_ret (pe_tup (pa_cons pe_str (pa_cons (My.pe_xa (pv 0)) pa_nil))))) pss_nil)
      (pss_cons (ps_if (pt_cmpR op_in_seq (pv 1) (pe_tup (pa_cons pe_int (pa_cons pe_int (pa_cons pe_int pa_nil)))) (by rfl)) (pss_one (ps_ret (pe_tup (pa_cons (pe_ix ix_list (pe_lst (pa_cons pe_str (pa_cons pe_str (pa_cons pe_str (pa_cons pe_str (pa_cons pe_str (pa_cons pe_str (pa_cons pe_str pa_nil)))))))) (pv 1) (fun _ _ => rfl)) (pa_cons (My.pe_xa (pv 0)) pa_nil))))) pss_nil)
      (pss_cons (ps_if (pt_cmpR op_eq (pv 1) pe_int (nomark _)) (pss_one (ps_ret (pe_tup (pa_cons pe_str (pa_cons (My.pe_xa (pv 0)) pa_nil))))) pss_nil)
      (pss_cons (ps_if (pt_cmpR op_eq (pv 1) pe_int (nomark _)) (pss_one (ps_ret (pe_tup (pa_cons pe_str (pa_cons (My.pe_xa (pv 0)) pa_nil))))) pss_nil)
      (pss_cons (ps_if (pt_cmpR op_eq (pv 1) pe_int (nomark _)) (pss_one (ps_ret (pe_tup (pa_cons pe_str (pa_cons (My.pe_xa (pv 0)) (pa_cons (My.pe_xa (pv 0)) pa_nil)))))) pss_nil)
      (pss_one (ps_ret (pe_ifExp (pt_cmpR op_eq (pv 1) pe_int (nomark _)) (pe_tup (pa_cons pe_str pa_nil)) (pe_tup (pa_cons pe_str (pa_cons (My.pe_xa (pv 0)) (pa_cons (My.pe_xa (pv 0)) pa_nil)))))))))))), ?_⟩
    obtain ⟨rfl, v, u, rfl, rfl⟩ := o
    refine ⟨_, rfl, rfl, _, rfl, iteF ?_⟩
    refine ⟨_, rfl, (by show 3 ≤ sizeLine; decide), fun t ht => ⟨t, _, rfl, .inr (SqT.of upd_same), rfl, rfl, _, rfl, iteF ?_⟩⟩
    have s1 := same_new (o := .tup [.int 1, .int 2, .int 6]) ht
    refine ⟨_, rfl, rfl, _, rfl, iteF ?_⟩
    refine ⟨_, rfl, rfl, _, rfl, iteF ?_⟩
    refine ⟨_, rfl, rfl, _, rfl, iteF ?_⟩
    refine ⟨_, rfl, rfl, _, rfl, iteF ?_⟩
    exact ⟨_, rfl, a, C, d, _, v, rfl, s1 _ _ ha, s1 _ _ hd, rd, nf (("line" : Str), v) (.head _), by simp [List.lookup], _, rfl, a, C, d, _, u, rfl, s1 _ _ ha, s1 _ _ hd, rd, nf (("word" : Str), u) (.tail _ (.head _)), (by simp [List.lookup]; rfl), (by show 3 ≤ sizeLine; decide), fun t ht => k t _ (none_back s1 ht) upd_same (s1.trans (same_new ht))⟩
end
theorem errors_gives {X : Cx} {CE CS CP CL B3 B4 CM B6 B7 B8 : Addr} (T : ETx X.K X.mg CE CS CP CL B3 B4 CM B6 B7 B8) {k : Nat} (hrX : Room (k + 2) X.A) (hgX : X.A.guards = some []) {g : Addr} {cdg : Value} {q : Str} (D_fields : DefAt X.prog X.w X.K X.mg X.base CX0 1 "_law_fields" ["_law_caught", "_law_which"] (spFields X.K)) :
    LamX.GivesTo X ["_law_ask", "_law_caught", "error", "_law_kinds"] "_law_errors" (defScope s_errors) g cdg (defBody s_errors) "_law_ask" q (TErr X.K CE CS CP CL B3 B4 CM B6 B7 B8) := by
  intro f c' s H Q tl act hc h
  have hr : Room (k + 1) (cxOf C8.CX0 X.prog X.w X.K X.mg X.base ["_law_ask", "_law_caught", "error", "_law_kinds"] "_law_errors" (defScope s_errors) g cdg X.A X.stack s H C8.E0).nox.A := hrX.deeper _
  have hgd : (cxOf C8.CX0 X.prog X.w X.K X.mg X.base ["_law_ask", "_law_caught", "error", "_law_kinds"] "_law_errors" (defScope s_errors) g cdg X.A X.stack s H C8.E0).nox.A.guards = some [] := hgX
  refine ⟨_, (pss_cons (ps_set (i := 1) sc_errors.nd rfl (Or.inl rfl) pe_non)
      (pss_cons (My.ps_try_keep (X := (cxOf C8.CX0 X.prog X.w X.K X.mg X.base ["_law_ask", "_law_caught", "error", "_law_kinds"] "_law_errors" (defScope s_errors) g cdg X.A X.stack s H C8.E0).nox) (i := 2) (j := 1) (c := .ref CE) (tb := fun W D σ H => ∃ Ech : XK, (∀ cls d σ' H', Ech cls d H' → W cls d σ' H') ∧ σ[0]? = some (some (.ref f)) ∧ H c' = some (LamX.CodeO c' q) ∧ tl Ech H fun v H' => [v].length ≤ sizeLine ∧ ∀ l, H' l = none → D.rt (.ref l) (upd H' l (.lst [v]))) (Wout := fun _ _ _ _ => False) rfl rfl sc_errors.nd rfl rfl rfl rfl rfl ⟨rfl, by decide, .inl T.gClip⟩ LamX.takes0 (fun W pn xe tk _ => ?_))
      (pss_cons (ps_set (i := 3) sc_errors.nd rfl (Or.inl rfl) (pe_lst (pa_cons (pe_callB My.call_isA (by rfl) T.z_isinstance boot_isinstance (pa_cons (pv 1) (pa_cons (pe_glob (v := .ref CS) (by rfl) T.gS rfl) pa_nil))) (pa_cons (pe_callB My.call_isA (by rfl) T.z_isinstance boot_isinstance (pa_cons (pv 1) (pa_cons (pe_glob (v := .ref CP) (by rfl) T.gP rfl) pa_nil))) (pa_cons (pe_callB My.call_isA (by rfl) T.z_isinstance boot_isinstance (pa_cons (pv 1) (pa_cons (pe_glob (v := .ref CL) (by rfl) T.gL rfl) pa_nil))) pa_nil)))))
      (pss_cons (ps_set (i := 3) sc_errors.nd rfl (Or.inl rfl) (pe_op op_cat (pv 3) (pe_lst (pa_cons (pe_callB My.call_isA (by rfl) T.z_isinstance boot_isinstance (pa_cons (pv 1) (pa_cons (pe_glob (v := .ref B3) (by rfl) T.g3 rfl) pa_nil))) (pa_cons (pe_callB My.call_isA (by rfl) T.z_isinstance boot_isinstance (pa_cons (pv 1) (pa_cons (pe_glob (v := .ref B4) (by rfl) T.g4 rfl) pa_nil))) (pa_cons (pe_callB My.call_isA (by rfl) T.z_isinstance boot_isinstance (pa_cons (pv 1) (pa_cons (pe_glob (v := .ref CM) (by rfl) T.gM rfl) pa_nil))) pa_nil))))))
      (pss_cons (ps_set (i := 3) sc_errors.nd rfl (Or.inl rfl) (pe_op op_cat (pv 3) (pe_lst (pa_cons (pe_callB My.call_isA (by rfl) T.z_isinstance boot_isinstance (pa_cons (pv 1) (pa_cons (pe_glob (v := .ref B6) (by rfl) T.g6 rfl) pa_nil))) (pa_cons (pe_callB My.call_isA (by rfl) T.z_isinstance boot_isinstance (pa_cons (pv 1) (pa_cons (pe_glob (v := .ref B7) (by rfl) T.g7 rfl) pa_nil))) (pa_cons (pe_callB My.call_isA (by rfl) T.z_isinstance boot_isinstance (pa_cons (pv 1) (pa_cons (pe_glob (v := .ref B8) (by rfl) T.g8 rfl) pa_nil))) pa_nil))))))
      (pss_cons (ps_if (PW.pt (pw_or (pt_cmpR op_ne (pe_bm PySem.F.plainAttrs_list PySem.F.slot_list_count PySem.F.type_list_count (My.mt_countL hr.units) (pv 3) (pa_cons pe_bl pa_nil)) pe_int (nomark _)) (pw_or1 (pt_not (pt_val (pe_callB My.call_isA (by rfl) T.z_isinstance boot_isinstance (pa_cons (pv 1) (pa_cons (pe_bltn (v := .ty "ValueError") (by rfl) T.z_ValueError L2.boot_ValueError rfl) pa_nil)))))))) (pss_one (ps_ret (pe_tup (pa_cons pe_str pa_nil)))) pss_nil)
      (pss_one (ps_ret (My.pe_d D_fields (hr.mono (by omega)) (by rfl) pass0 (pa_cons (pv 1) (pa_cons (pe_bm PySem.F.plainAttrs_list PySem.F.slot_list_index PySem.F.type_list_index mt_index (pv 3) (pa_cons pe_bl pa_nil)) pa_nil))))))))))), ?_⟩
  · refine ⟨fun pins s' σ H' D I h' => ?_⟩
    obtain ⟨Ech, hW, h1, h2, h3⟩ := h'
    exact (pss_one (ps_ret (pe_lst (pa_cons (act W pn xe Ech _ _ tk hW) pa_nil)))).run pins s' σ H' D I ⟨h1, h2, h3⟩
  · refine ⟨WErr X.K CE CS CP CL B3 B4 CM B6 B7 B8 Q, ?_, rfl, hc, h⟩
    intro cls d σ' H' hw
    obtain ⟨C, dd, fs, i, ws, rfl, rfl, hd, nf, kd, o, kk⟩ := hw
    refine ⟨true, kd.x, fun _ a na hl => ?_, fun z => Bool.noConfusion z⟩
    obtain ⟨x0, x1, x2, x3, rfl⟩ := len4 hl
    have hd' := same_new (o := ExA (.ref C) (some dd) a) na _ _ hd
    have ha : upd H' a (ExA (.ref C) (some dd) a) a = some (ExA (.ref C) (some dd) a) := upd_same
    have sa : Same H' (upd H' a (ExA (.ref C) (some dd) a)) := same_new na
    generalize upd H' a (ExA (.ref C) (some dd) a) = H1 at ha hd' sa ⊢
    have i9 := o.lt
    refine ⟨_, rfl, a, C, dd, fs, _, _, _, rfl, .own _, kd.kB, ha, hd', kd.k0, _, rfl, a, C, dd, fs, _, _, _, rfl, .own _, kd.kB, ha, hd', kd.k1, _, rfl, a, C, dd, fs, _, _, _, rfl, .own _, kd.kB, ha, hd', kd.k2, (by show 3 ≤ sizeLine; decide), fun l1 hl1 => ?_⟩
    have s1 := same_new (o := .lst [.bl (decide (i = 0)), .bl (decide (i = 1)), .bl (decide (i = 2))]) hl1
    have L1 : upd H1 l1 (.lst [.bl (decide (i = 0)), .bl (decide (i = 1)), .bl (decide (i = 2))]) l1 = some (.lst [.bl (decide (i = 0)), .bl (decide (i = 1)), .bl (decide (i = 2))]) := upd_same
    generalize upd H1 l1 (.lst [.bl (decide (i = 0)), .bl (decide (i = 1)), .bl (decide (i = 2))]) = H2 at s1 L1 ⊢
    have ha2 := s1 _ _ ha
    have hd2 := s1 _ _ hd'
    refine ⟨_, rfl, _, rfl, a, C, dd, fs, _, _, _, rfl, .own _, kd.kB, ha2, hd2, kd.k3, _, rfl, a, C, dd, fs, _, _, _, rfl, .own _, kd.kB, ha2, hd2, kd.k4, _, rfl, a, C, dd, fs, _, _, _, rfl, .own _, kd.kB, ha2, hd2, kd.k5, (by show 3 ≤ sizeLine; decide), fun l2 hl2 => ?_⟩
    have s2 := same_new (o := .lst [.bl (decide (i = 3)), .bl (decide (i = 4)), .bl (decide (i = 5))]) hl2
    refine ⟨l1, l2, _, _, rfl, rfl, s2 _ _ L1, upd_same, by show 3 + 3 ≤ sizeLine; decide, fun l3 hl3 => ?_⟩
    have s3 := s2.trans (same_new (o := .lst ([.bl (decide (i = 0)), .bl (decide (i = 1)), .bl (decide (i = 2))] ++ [.bl (decide (i = 3)), .bl (decide (i = 4)), .bl (decide (i = 5))])) hl3)
    have L3 : upd (upd H2 l2 (.lst [.bl (decide (i = 3)), .bl (decide (i = 4)), .bl (decide (i = 5))])) l3 (.lst ([.bl (decide (i = 0)), .bl (decide (i = 1)), .bl (decide (i = 2))] ++ [.bl (decide (i = 3)), .bl (decide (i = 4)), .bl (decide (i = 5))])) l3 = some (.lst ([.bl (decide (i = 0)), .bl (decide (i = 1)), .bl (decide (i = 2))] ++ [.bl (decide (i = 3)), .bl (decide (i = 4)), .bl (decide (i = 5))])) := upd_same
    generalize upd (upd H2 l2 (.lst [.bl (decide (i = 3)), .bl (decide (i = 4)), .bl (decide (i = 5))])) l3 (.lst ([.bl (decide (i = 0)), .bl (decide (i = 1)), .bl (decide (i = 2))] ++ [.bl (decide (i = 3)), .bl (decide (i = 4)), .bl (decide (i = 5))])) = H3 at s3 L3 ⊢
    have ha3 := s3 _ _ ha2
    have hd3 := s3 _ _ hd2
    refine ⟨_, rfl, _, rfl, a, C, dd, fs, _, _, _, rfl, .own _, kd.kB, ha3, hd3, kd.k6, _, rfl, a, C, dd, fs, _, _, _, rfl, .own _, kd.kB, ha3, hd3, kd.k7, _, rfl, a, C, dd, fs, _, _, _, rfl, .own _, kd.kB, ha3, hd3, kd.k8, (by show 3 ≤ sizeLine; decide), fun l4 hl4 => ?_⟩
    have s4 := same_new (o := .lst [.bl (decide (i = 6)), .bl (decide (i = 7)), .bl (decide (i = 8))]) hl4
    refine ⟨l3, l4, _, _, rfl, rfl, s4 _ _ L3, upd_same, by show 6 + 3 ≤ sizeLine; decide, fun l5 hl5 => ?_⟩
    have s5 := s4.trans (same_new (o := .lst (kindV i)) hl5)
    have L5 : upd (upd H3 l4 (.lst [.bl (decide (i = 6)), .bl (decide (i = 7)), .bl (decide (i = 8))])) l5 (.lst (kindV i)) l5 = some (.lst (kindV i)) := upd_same
    show _
    have eK : (.lst (([.bl (decide (i = 0)), .bl (decide (i = 1)), .bl (decide (i = 2))] ++ [.bl (decide (i = 3)), .bl (decide (i = 4)), .bl (decide (i = 5))]) ++ [.bl (decide (i = 6)), .bl (decide (i = 7)), .bl (decide (i = 8))]) : HO) = .lst (kindV i) := rfl
    rw [eK]
    generalize upd (upd H3 l4 (.lst [.bl (decide (i = 6)), .bl (decide (i = 7)), .bl (decide (i = 8))])) l5 (.lst (kindV i)) = H5 at s5 L5 ⊢
    have ha5 := s5 _ _ ha3
    have hd5 := s5 _ _ hd3
    have sT := sa.trans (s1.trans (s3.trans s5))
    have dK : Dp X.K H5 (.ref l5) (.list (kinds i)) := .lst (SqL.of L5) (.cons (.bl _) (.cons (.bl _) (.cons (.bl _) (.cons (.bl _) (.cons (.bl _) (.cons (.bl _) (.cons (.bl _) (.cons (.bl _) (.cons (.bl _) .nil)))))))))
    refine ⟨_, rfl, Or.inl ⟨rfl, _, Or.inl (Or.inl L5)⟩, l5, _, .bool true, kinds i, rfl, rfl, dK, .bl true, kinds_plain i, rfl, by decide, rfl, ?_⟩
    refine ⟨_, rfl, ?_⟩
    rw [kinds_one i9]
    refine iteF ?_
    refine ⟨_, rfl, a, C, dd, fs, _, _, _, rfl, .ty _, kd.kB, ha5, hd5, kd.kv, _, rfl, iteF ?_⟩
    exact ⟨_, rfl, _, rfl, Or.inl ⟨rfl, _, Or.inl (Or.inl L5)⟩, l5, kindV i, .bl true, i, .bl true, rfl, rfl, SqL.of L5, rfl, rfl, kind_at i9, rfl, fun m z hm e => kind_no i9 hm e, a, C, dd, fs, i, ws, rfl, ⟨ha5, hd5, nf⟩, kd.rd, o, fun t H' ht0 ht s => kk t H' (none_back sT ht0) (sT.trans s) ht⟩
end My
/-! x() of a def that is run where nothing is being shown. -/
namespace My
open PySem PySem.Spec PyProof.Rows L2
theorem pe_dG0 {X : Cx} {CX : CXT} {k : Nat} {sp : Sp} {E : XK} {x : Str} {p pos : Pos} (D : DefG X.prog X.w X.K X.mg X.base CX k x [] sp) (hgd : X.A.guards = some []) (hr : Room k X.A) (hg : Gl X x) (hx : Passes CX X E) (hdb : (x == ("__debug__" : Str)) = false := by decide) : PE X (.Call (.Name x p) [] [] pos) (tCall sp [] E tNil) := by
  obtain ⟨f, fd, F, hm, hk, hb⟩ := D.ex
  refine ⟨fun pins s σ H Q I h => ?_⟩
  refine wpAny_Call_Name_kw (ld_glob I hg hm ?_ hdb)
  refine PySem.W.callWith_K0 I.kIn hk ?_
  have q' : sp [] H Q E := h
  have hb' : BindsTo s fd ⟨[], []⟩ (([] : List Str).zip ([] : List Value)) := hb s [] I.kIn rfl
  refine wpAny_call (codeAny_mono (F.run X.A X.stack s H ⟨[], []⟩ [] [] Q E hgd hr I.env0 hb' .nil q') fun res s2 hq => ?_)
  cases res with
  | error er => exact hx pins σ H s er s2 I hq
  | ok fl =>
    cases fl with
    | ret u => exact I.after hq
    | next => exact False.elim hq
    | brk => exact False.elim hq
    | cont => exact False.elim hq
end My
/-! repr of data with empty dicts at any depth. -/
namespace My
open PySem PySem.Spec PyProof.Rows L2
/-- sys.modules is a dict of the top -/
def smB (K : PySem.W.Frag) : Bool := match K.lookup sysModules with
  | some ⟨.type c, _, _, _⟩ => c == "dict"
  | _ => false
theorem smB_ok {K : PySem.W.Frag} (h : smB K = true) : ∃ o, K.lookup sysModules = some o ∧ o.cls = .type "dict" := by
  unfold smB at h
  cases q : K.lookup sysModules with
  | none => rw [q] at h; cases h
  | some o =>
    obtain ⟨c, d, dt, sl⟩ := o
    rw [q] at h
    cases c with
    | type c =>
      have e : c = "dict" := eq_of_beq h
      subst e
      exact ⟨_, rfl, rfl⟩
    | _ => cases h
mutual
inductive Dq (K : PySem.W.Frag) (H : Hp) : V → PyData → Prop
  | non : Dq K H .non .none
  | bl (b : Bool) : Dq K H (.bl b) (.bool b)
  | int (i : Int) : Dq K H (.int i) (.int i)
  | str (x : Str) : Dq K H (.str x) (.str x)
  | lst {a : Addr} {xs : List V} {ds : List PyData} : SqL K H a xs → DqAll K H xs ds → Dq K H (.ref a) (.list ds)
  | tup {a : Addr} {xs : List V} {ds : List PyData} : SqT K H a xs → DqAll K H xs ds → Dq K H (.ref a) (.tuple ds)
  | dic {a : Addr} : H a = some (.dK []) → Dq K H (.ref a) (.dict [])
inductive DqAll (K : PySem.W.Frag) (H : Hp) : List V → List PyData → Prop
  | nil : DqAll K H [] []
  | cons {v : V} {vs : List V} {d : PyData} {ds : List PyData} : Dq K H v d → DqAll K H vs ds → DqAll K H (v :: vs) (d :: ds)
end
mutual
theorem Dq.same {K : PySem.W.Frag} {H H' : Hp} (k : Same H H') : ∀ (d : PyData) (v : V), Dq K H v d → Dq K H' v d
  | _, _, .non => .non
  | _, _, .bl b => .bl b
  | _, _, .int i => .int i
  | _, _, .str x => .str x
  | .list ds, _, .lst h ha => .lst (k.seq h) (DqAll.same k ds _ ha)
  | .tuple ds, _, .tup h ha => .tup (sqt_same k h) (DqAll.same k ds _ ha)
  | .dict [], _, .dic h => .dic (k _ _ h)
theorem DqAll.same {K : PySem.W.Frag} {H H' : Hp} (k : Same H H') : ∀ (ds : List PyData) (vs : List V), DqAll K H vs ds → DqAll K H' vs ds
  | [], _, .nil => .nil
  | d :: ds, _, .cons h1 h2 => .cons (Dq.same k d _ h1) (DqAll.same k ds _ h2)
end
section
variable {X : Cx} {pins : List (Addr × Obj)} {σ : L2.St} {H : Hp} {s : Shared}
theorem sm_free (I : Inv X pins σ H s) (hs : smB X.K = true) : H sysModules = none := by
  obtain ⟨o, e, _⟩ := smB_ok hs
  exact (I.bs _ _ (I.mod.kin _ _ e)).2
mutual
theorem Dq.reads (I : Inv X pins σ H s) (hs : smB X.K = true) : ∀ (d : PyData) (v : V) (u : Value), Dq X.K H v d → RelV v u → ∃ as, Reads s.heap u d as ∧ sysModules ∉ as
  | .none, _, _, h, r => by
    cases h
    cases r
    exact ⟨_, Reads.none, by simp⟩
  | .bool b, _, _, h, r => by
    cases h
    cases r
    exact ⟨_, Reads.bool b, by simp⟩
  | .int i, _, _, h, r => by
    cases h
    obtain ⟨t, rfl⟩ := r
    exact ⟨_, Reads.int i t, by simp⟩
  | .str x, _, _, h, r => by
    cases h
    obtain ⟨t, rfl⟩ := r
    exact ⟨_, Reads.str x t, by simp⟩
  | .list ds, _, _, h, r => by
    cases h with
    | @lst a xs _ hq ha =>
      cases r
      obtain ⟨its, rv, ⟨o, n, ho, hc, _, hd⟩, _⟩ := I.list hq
      obtain ⟨as, hr, hn⟩ := DqAll.reads I hs ds _ its ha rv
      refine ⟨_, Reads.list ho hc hd hr, fun z => ?_⟩
      rcases List.mem_cons.mp z with z | z
      · subst z
        rcases hq with h | ⟨o', its', n', hk, hc', _⟩
        · rcases h with h | ⟨o', h⟩
          · rw [sm_free I hs] at h; cases h
          · rw [sm_free I hs] at h; cases h
        · obtain ⟨o2, e2, c2⟩ := smB_ok hs
          rw [hk] at e2
          cases e2
          rw [c2] at hc'
          exact absurd (Value.type.inj hc') (by decide)
      · exact hn z
  | .tuple ds, _, _, h, r => by
    cases h with
    | tup hq ha =>
      cases r
      obtain ⟨its, rv, ⟨o, ho, hc, n, hd⟩, _⟩ := I.tuple hq
      obtain ⟨as, hr, hn⟩ := DqAll.reads I hs ds _ its ha rv
      exact ⟨_, Reads.tuple ho hc hd hr, hn⟩
  | .dict [], _, _, h, r => by
    cases h with
    | @dic a ha =>
      cases r
      obtain ⟨_, hne, vs, kv, o, es, ep, e1, e2, e3, e4⟩ := (show ObjOk X.prog X.w H s.heap a (.dK []) from I.hok a _ ha)
      cases kv
      have hes : es.toList = [] := by
        obtain ⟨_, pr, _⟩ := e4
        revert pr
        generalize es.toList = l
        intro pr
        cases pr
        rfl
      have rd : Reads s.heap (.ref a) (.dict []) (a :: [] ++ []) := .dict e1 e2.1 e3 (by rw [hes]; exact .nil) (by rw [hes]; exact .nil)
      refine ⟨_, rd, fun hm => ?_⟩
      simp at hm
      simp [← hm] at hne
  | .dict (_ :: _), _, _, h, _ => by cases h
theorem DqAll.reads (I : Inv X pins σ H s) (hs : smB X.K = true) : ∀ (ds : List PyData) (vs : List V) (us : List Value), DqAll X.K H vs ds → Vals vs us → ∃ as, ReadsAll s.heap us ds as ∧ sysModules ∉ as
  | [], _, _, h, r => by
    cases h
    cases r
    exact ⟨_, ReadsAll.nil, by simp⟩
  | d :: ds, _, _, h, r => by
    cases h with
    | cons h1 h2 =>
      cases r with
      | cons r1 r2 =>
        obtain ⟨as, q1, n1⟩ := Dq.reads I hs d _ _ h1 r1
        obtain ⟨bs, q2, n2⟩ := DqAll.reads I hs ds _ _ h2 r2
        refine ⟨_, ReadsAll.cons q1 q2, fun z => ?_⟩
        rcases List.mem_append.mp z with z | z
        · exact n1 z
        · exact n2 z
end
end
def rReprN (K : PySem.W.Frag) : List V → Hp → VK → Prop := fun xs H Q => ∃ (v : V) (d : PyData), xs = [v] ∧ Dq K H v d ∧ d.showable = true ∧ d.depth ≤ 60 ∧ d.shown.length ≤ sizeLine ∧ Q (.str d.shown) H
section
variable {X : Cx} {k : Nat}
theorem call_reprN (hsm : smB X.K = true) (hgd : X.A.guards = some []) (hr : Room k X.A) : CallR X (.builtin "repr") (rReprN X.K) := by
  intro pins s σ H xs us Q I r h
  obtain ⟨v, d, rfl, hd, hs, hdp, hz, q⟩ := h
  obtain ⟨u, rfl, r1⟩ := vals1 r
  have hu : X.A.units + (d.depth + 1) < cLine := by
    have := hr.units
    omega
  have fin : ∀ (h' : Heap) (t : Tok) (tk : Nat), (∀ b o, s.heap.get? b = some o → h'.get? b = some o) → EP X pins σ Q (.str d.shown t) { s with heap := h', toks := tk } :=
    fun h' t tk hk => ⟨.str d.shown, H, I.kept (t' := tk) hk, ⟨t, rfl⟩, q⟩
  obtain ⟨as, rd, hno⟩ := Dq.reads I hsm d v u hd r1
  cases hd with
  | non => cases (show u = Value.none from r1); exact PySem.P.repr_of_none (fin s.heap _ _ fun _ _ e => e)
  | bl b => cases (show u = Value.bool b from r1); exact PySem.P.repr_of_bool (fin s.heap _ _ fun _ _ e => e)
  | int i =>
    obtain ⟨t, e⟩ := (show ∃ t, u = Value.int i t from r1)
    cases e
    exact PySem.P.repr_of_int (of_decide_eq_true hs) (fin s.heap _ _ fun _ _ e => e)
  | str z =>
    obtain ⟨t, e⟩ := (show ∃ t, u = Value.str z t from r1)
    cases e
    exact PySem.P.repr_of_str (fin s.heap _ _ fun _ _ e => e) hz
  | @lst a xs ds _ _ =>
    cases (show u = Value.ref a from r1)
    exact repr_of_reads' rd hs (fun _ => hno) hgd hu (fun _ _ e => e) (fun h' t tk hk => fin h' t tk hk) hz
  | @tup a xs ds _ _ =>
    cases (show u = Value.ref a from r1)
    exact repr_of_reads' rd hs (fun _ => hno) hgd hu (fun _ _ e => e) (fun h' t tk hk => fin h' t tk hk) hz
  | @dic a _ =>
    cases (show u = Value.ref a from r1)
    exact repr_of_reads' rd hs (fun _ => hno) hgd hu (fun _ _ e => e) (fun h' t tk hk => fin h' t tk hk) hz
end
end My
set_option pp.maxSteps 1500
set_option pp.deepTerms.threshold 8
/-! ### errors heard; what stays -/
namespace My
open PySem PySem.Spec PyProof.Rows L2 GenW
/-- errors as it stands in the module -/
structure ErrAt (K : PySem.W.Frag) (mg : Str → Option Value) : Prop where
  ex : ∃ g fd, Fun K "_law_errors" "_law_errors" s_errors g fd ∧ mg "_law_errors" = some (.ref g) ∧ L2.Binds K fd ["_law_ask"] []
/-- errors(lambda: body) -/
theorem pe_errors {X : Cx} {CE CS CP CL B3 B4 CM B6 B7 B8 : Addr} {TS : List (Addr × Str)} {c P : Addr} {k : Nat} {params : Arguments} {body : Expr} {scope : Scope} {t : XK → TE} {p lpos pos : Pos}
    (D : ErrAt X.K X.mg) (T : ETx X.K X.mg CE CS CP CL B3 B4 CM B6 B7 B8) (D_fields : DefAt X.prog X.w X.K X.mg X.base CX0 1 "_law_fields" ["_law_caught", "_law_which"] (spFields X.K)) (hgd : X.A.guards = some []) (hr : Room (k + 3) X.A) (TB : LamX.TabB X.base X.mg c P) (hcode : X.env.code = .ref c) (hmT : (P, X.env.qual ++ "<lambda>") ∈ TS) (hu : ∀ p ∈ TS, p.1 = P → p.2 = X.env.qual ++ "<lambda>")
    (hg : Gl X "_law_errors") (L : LamX.LamS X.env.scope scope) (hdef : defaultsOf params X.env = ([], []))
    (hbind : ∀ (q : Str) (cl : List (Str × Addr)) (pm cv ctv : Value), bindArgs (PySem.W.kla_fn "<lambda>" q params body scope cl pm cv ctv) ⟨[], []⟩ = pure [])
    (hbody : ∀ (A : Around) (outer : List Env) (s : Shared) (H : Hp) (E : XK) (f c' : Addr), Room k (A.deeper (LamX.lamEnv X scope s.heap.objs.size f c')) → PE (LamX.lamCx X A outer s H E scope f c') body (t E)) :
    PE X (.Call (.Name "_law_errors" p) [.Lambda params body scope lpos] [] pos) (LamX.tLam TS (TErr X.K CE CS CP CL B3 B4 CM B6 B7 B8) t) := by
  obtain ⟨g, fd, F, hm, hb⟩ := D.ex
  have kp := F.kp
  obtain ⟨oc, od, kV, doc, pm, an, cdv, ct, osl, rfl, lk, hcd⟩ := F.ex
  exact LamX.pe_lamcall hg hm kp lk hcd hb sc_errors rfl (Or.inl rfl) (errors_gives (k := k) T (hr.mono (by omega)) hgd D_fields) TB hcode hmT hu (hr.mono (by omega)) L hdef hbind hbody (by decide) (by decide) (by decide)
theorem tabs_same {TS : List (Addr × Str)} {H H' : Hp} (t : LamX.Tabs TS H) (s : Same H H') : LamX.Tabs TS H' := fun p hp => by
  obtain ⟨ps, h1, h2, h3⟩ := t p hp
  exact ⟨ps, s _ _ h1, h2, fun pos cv e => by obtain ⟨c, e1, e2⟩ := h3 pos cv e; exact ⟨c, e1, s _ _ e2⟩⟩
theorem tabs_keep {TS : List (Addr × Str)} {H H' : Hp} {p : Addr} {o : HO} (t : LamX.Tabs TS H) (hp : H p = some o) (n1 : ∀ ps, o ≠ .tbl ps) (n2 : ∀ c q, o ≠ LamX.CodeO c q) (k : ∀ b u, H b = some u → b ≠ p → H' b = some u) : LamX.Tabs TS H' := fun x hx => by
  obtain ⟨ps, h1, h2, h3⟩ := t x hx
  exact ⟨ps, k _ _ h1 (fun z => by rw [z, hp] at h1; cases h1; exact n1 _ rfl), h2, fun pos cv e => by
    obtain ⟨c, e1, e2⟩ := h3 pos cv e
    exact ⟨c, e1, k _ _ e2 fun z => by rw [z, hp] at e2; cases e2; exact n2 _ _ rfl⟩⟩
theorem tabs_lst {TS : List (Addr × Str)} {H H' : Hp} {p : Addr} {xs : List V} (t : LamX.Tabs TS H) (hp : H p = some (.lst xs)) (k : ∀ b u, H b = some u → b ≠ p → H' b = some u) : LamX.Tabs TS H' := tabs_keep t hp (fun _ z => nomatch z) (fun _ _ z => by unfold LamX.CodeO at z; cases z) k
/-- the tables of code stay -/
def KeepT (H H' : Hp) : Prop := ∀ TS, LamX.Tabs TS H → LamX.Tabs TS H'
theorem KeepT.trans {H H1 H2 : Hp} (a : KeepT H H1) (b : KeepT H1 H2) : KeepT H H2 := fun T t => b T (a T t)
theorem keepT_same {H H' : Hp} (s : Same H H') : KeepT H H' := fun _ t => tabs_same t s
theorem small_log {i : Int} (h0 : 0 ≤ i) (h : i ≤ 1000) : i.natAbs.log2 < 9000 := Nat.lt_of_lt_of_le (PySem.Flt.log2_lt_of (k := 40) (by decide) (by omega)) (by decide)
theorem RatAt.but {C pn cl : Addr} {n : Nat} {H H' : Hp} {q : Addr} {a b : Int} (h : RatAt C H q a b) (hp : PenC H pn cl n) (u : But pn H H') : RatAt C H' q a b := by
  obtain ⟨dx, e⟩ := h
  refine ⟨dx, u _ _ e fun z => ?_⟩
  obtain ⟨_, _, _, e1, _⟩ := hp
  rw [z, e1] at e
  cases e
theorem ClipAt.but {CC CR pn cl : Addr} {n : Nat} {H H' : Hp} {p : Addr} {rs : List (Int × Int)} (h : ClipAt CC CR H p rs) (hp : PenC H pn cl n) (u : But pn H H') : ClipAt CC CR H' p rs := by
  obtain ⟨t, zs, ⟨dx, e⟩, e2, r, l⟩ := h
  obtain ⟨_, _, _, e1, _⟩ := id hp
  refine ⟨t, zs, ⟨dx, u _ _ e fun z => ?_⟩, u _ _ e2 (fun z => ?_), ⟨r.1, fun i x hx => ?_⟩, l⟩
  · rw [z, e1] at e; cases e
  · rw [z, e1] at e2; cases e2
  · obtain ⟨q, g1, g2⟩ := r.2 i x hx
    exact ⟨q, g1, g2.but hp u⟩
theorem ClipAt.ins {CC CR : Addr} {H : Hp} {p : Addr} {rs : List (Int × Int)} (h : ClipAt CC CR H p rs) : ∃ dx fs, H p = some (.ins CC dx fs) := by
  obtain ⟨t, zs, ⟨dx, e⟩, _⟩ := h
  exact ⟨dx, _, e⟩
theorem NumAt.but {C pn cl : Addr} {n : Nat} {H H' : Hp} {v : V} {a b : Int} (h : NumAt C H v a b) (hp : PenC H pn cl n) (u : But pn H H') : NumAt C H' v a b := by
  rcases h with ⟨q, e, l⟩ | h
  · exact .inl ⟨q, e, l.but hp u⟩
  · exact .inr h
theorem Nums.but {C pn cl : Addr} {n : Nat} {H H' : Hp} {vs : List V} {rs : List (Int × Int)} (h : Nums C H vs rs) (hp : PenC H pn cl n) (u : But pn H H') : Nums C H' vs rs := ⟨h.1, fun i v r e1 e2 => (h.2 i v r e1 e2).but hp u⟩
theorem Nums.put {C D : Addr} {H : Hp} {xs : List V} {o : HO} {vs : List V} {rs : List (Int × Int)} (h : Nums C H vs rs) (hD : H D = some (.lst xs)) : Nums C (upd H D o) vs rs := ⟨h.1, fun i v r e1 e2 => by
  rcases h.2 i v r e1 e2 with ⟨q, e, dx, l⟩ | h
  · refine .inl ⟨q, e, dx, ?_⟩
    rw [upd_ne (fun z => by rw [z, hD] at l; cases l)]
    exact l
  · exact .inr h⟩
theorem Nums.snoc {C : Addr} {H : Hp} {vs : List V} {rs : List (Int × Int)} {v : V} {r : Int × Int} (h : Nums C H vs rs) (l : NumAt C H v r.1 r.2) : Nums C H (vs ++ [v]) (rs ++ [r]) := by
  refine ⟨by rw [List.length_append, List.length_append, h.1]; rfl, fun i u x e1 e2 => ?_⟩
  by_cases hi : i < rs.length
  · rw [List.getElem?_append_left hi] at e2
    rw [List.getElem?_append_left (by rw [h.1]; exact hi)] at e1
    exact h.2 i u x e1 e2
  · rw [List.getElem?_append_right (by omega)] at e2
    have hz : i - rs.length = 0 := by
      have := (List.getElem?_eq_some_iff.mp e2).1
      have : i - rs.length < 1 := this
      omega
    rw [hz] at e2
    rw [List.getElem?_append_right (by rw [h.1]; omega), h.1, hz] at e1
    cases e1
    cases e2
    exact l
theorem keepT_but {H H' : Hp} {pn cl : Addr} {n : Nat} (u : But pn H H') (hp : PenC H pn cl n) : KeepT H H' := by
  obtain ⟨ns, a, r, e1, _⟩ := hp
  exact fun _ t => tabs_lst t e1 u
theorem but_none {pn : Addr} {H H' : Hp} {c : Addr} (u : But pn H H') (h : H' c = none) {cl : Addr} {n : Nat} (hp : PenC H' pn cl n) : H c = none := by
  cases e : H c with
  | none => rfl
  | some o =>
    by_cases z : c = pn
    · obtain ⟨_, _, _, e1, _⟩ := hp
      rw [z, e1] at h
      cases h
    · rw [u _ _ e z] at h
      cases h
/-- all but the pen and the tables stays -/
def Kn (pn : Addr) (H H' : Hp) : Prop := ∀ b o, H b = some o → b ≠ pn → (∀ ps, o ≠ .tbl ps) → H' b = some o
theorem Kn.refl (pn : Addr) (H : Hp) : Kn pn H H := fun _ _ e _ _ => e
theorem Kn.trans {pn : Addr} {H H1 H2 : Hp} (a : Kn pn H H1) (b : Kn pn H1 H2) : Kn pn H H2 := fun c o e n t => b c o (a c o e n t) n t
theorem kp_but {pn : Addr} {H H' : Hp} (u : But pn H H') : Kn pn H H' := fun b o e n _ => u b o e n
theorem kp_same {pn : Addr} {H H' : Hp} (u : Same H H') : Kn pn H H' := fun b o e _ _ => u b o e
theorem kp_ext {pn : Addr} {H H' : Hp} (u : LamX.ExtN H H') : Kn pn H H' := fun b o e _ t => u b o e t
theorem PenC.ext {H H' : Hp} {pn cl : Addr} {n : Nat} (h : PenC H pn cl n) (x : LamX.ExtN H H') : PenC H' pn cl n := by
  obtain ⟨ns, a, r, e1, e2, h3⟩ := h
  exact ⟨ns, a, r, x _ _ e1 (fun _ z => nomatch z), x _ _ e2 (fun _ z => nomatch z), h3⟩
theorem RatAt.kp {C pn cl : Addr} {n : Nat} {H H' : Hp} {q : Addr} {a b : Int} (h : RatAt C H q a b) (hp : PenC H pn cl n) (u : Kn pn H H') : RatAt C H' q a b := by
  obtain ⟨dx, e⟩ := h
  refine ⟨dx, u _ _ e (fun z => ?_) (fun _ z => nomatch z)⟩
  obtain ⟨_, _, _, e1, _⟩ := hp
  rw [z, e1] at e
  cases e
theorem ClipAt.kp {CC CR pn cl : Addr} {n : Nat} {H H' : Hp} {p : Addr} {rs : List (Int × Int)} (h : ClipAt CC CR H p rs) (hp : PenC H pn cl n) (u : Kn pn H H') : ClipAt CC CR H' p rs := by
  obtain ⟨t, zs, ⟨dx, e⟩, e2, r, l⟩ := h
  obtain ⟨_, _, _, e1, _⟩ := id hp
  refine ⟨t, zs, ⟨dx, u _ _ e (fun z => ?_) (fun _ z => nomatch z)⟩, u _ _ e2 (fun z => ?_) (fun _ z => nomatch z), ⟨r.1, fun i x hx => ?_⟩, l⟩
  · rw [z, e1] at e; cases e
  · rw [z, e1] at e2; cases e2
  · obtain ⟨q, g1, g2⟩ := r.2 i x hx
    exact ⟨q, g1, g2.kp hp u⟩
theorem RowK.kp {H H' : Hp} {pn cl l : Addr} {n : Nat} {ps : List Addr} {rs : List (Int × Int)} (h : RowK H l ps rs) (hp : PenC H pn cl n) (ne : l ≠ pn) (u : Kn pn H H') : RowK H' l ps rs :=
  ⟨u _ _ h.l ne (fun _ z => nomatch z), h.len, fun i q r e1 e2 => by
    have y : H q = _ := h.at' i q r e1 e2
    exact u _ _ y (fun z => hp.notup _ (by rw [← z]; exact y)) (fun _ z => nomatch z)⟩
/-- it holds, and goes on to hold -/
def StB (pn : Addr) (G : Hp → Prop) (H : Hp) : Prop := ∀ H', Kn pn H H' → G H'
theorem StB.kp {pn : Addr} {G : Hp → Prop} {H H' : Hp} (h : StB pn G H) (u : Kn pn H H') : StB pn G H' := fun H2 u2 => h H2 (u.trans u2)
theorem StB.now {pn : Addr} {G : Hp → Prop} {H : Hp} (h : StB pn G H) : G H := h H (.refl _ _)
/-- data of a small text -/
def SmD (d : PyData) : Prop := d.showable = true ∧ d.depth ≤ 5 ∧ d.shown.length ≤ 200
/-- no number -/
def GoodO (Cs : List Addr) (CR : Addr) (H : Hp) (v : V) : Prop := AnyF Cs H v ∧ notIns CR H v ∧ isI v = false
/-- a value of a built-in kind, no pair, with a small text -/
def GoodP (Cs : List Addr) (K : PySem.W.Frag) (H : Hp) (v : V) : Prop := (∃ t, Ty0 H v t) ∧ strB H v = false ∧ ∃ d, Dq K H v d ∧ SmD d
theorem GoodO.num {Cs : List Addr} {CR : Addr} {H : Hp} {v : V} (h : GoodO Cs CR H v) : IsNum Cs CR H v false := IsNum.odd h.1 h.2.1 h.2.2
end My
set_option pp.maxSteps 1500
set_option pp.deepTerms.threshold 8
/-! ### the first word that cannot stand -/
namespace My
open PySem PySem.Spec PyProof.Rows L2 TX
abbrev s_ldue : Stmt := topS 50
theorem sc_ldue : FnScope ["_law_text_here", "_law_words", "_law_wrong", "_law_at"] ["_law_text_here"] (defScope s_ldue) := ⟨rfl, rfl, rfl, by decide +kernel, rfl, by decide +kernel, by decide +kernel⟩
def badB (ws : List Str) (j : Nat) : Bool := decide (j = 2000) || (match ws[j]? with | some w => (wR w).isNone | none => false)
def badL (ws : List Str) : List Nat := (List.range ws.length).filter (badB ws)
/-- where the law finds a text wrong -/
def dueP (x : Str) : Option Nat := if (wsOf x)[0]? = some ("empty" : Str) then (if 1 < (wsOf x).length then some 1 else none) else (badL (wsOf x)).head?
def DuV (v : V) : Option Nat → Prop
  | none => v = .non
  | some i => v = .int (i : Int)
theorem head_bad {ws : List Str} {i : Nat} (h : (badL ws).head? = some i) : i < ws.length ∧ badB ws i = true ∧ ∀ j, j < i → badB ws j = false := by
  unfold badL at h
  rw [List.head?_filter] at h
  obtain ⟨h1, as, bs, h2, h3⟩ := List.find?_eq_some_iff_append.mp h
  have hi : i ∈ List.range ws.length := by rw [h2]; simp
  refine ⟨List.mem_range.mp hi, h1, fun j hj => ?_⟩
  have hj2 : j ∈ as := by
    have e := congrArg (fun l => l[j]?) h2
    have e : (List.range ws.length)[j]? = (as ++ i :: bs)[j]? := e
    have hil := List.mem_range.mp hi
    rw [List.getElem?_range (by omega)] at e
    by_cases c : j < as.length
    · rw [List.getElem?_append_left c] at e
      exact List.mem_of_getElem? e.symm
    · exfalso
      have e2 := congrArg (fun l => l[as.length]?) h2
      have e2 : (List.range ws.length)[as.length]? = (as ++ i :: bs)[as.length]? := e2
      rw [List.getElem?_append_right (Nat.le_refl _), Nat.sub_self] at e2
      have la : as.length < ws.length := by
        have := congrArg List.length h2
        rw [List.length_range, List.length_append, List.length_cons] at this
        omega
      rw [List.getElem?_range la] at e2
      cases e2
      omega
  have := h3 j hj2
  simpa using this
theorem none_bad {ws : List Str} (h : (badL ws).head? = none) : ws.length ≤ 2000 ∧ ∀ w ∈ ws, wR w ≠ none := by
  have e : badL ws = [] := List.head?_eq_none_iff.mp h
  have k : ∀ j, j < ws.length → badB ws j = false := fun j hj => by
    have := List.filter_eq_nil_iff.mp e j (List.mem_range.mpr hj)
    simpa using this
  refine ⟨?_, fun w hw e2 => ?_⟩
  · rcases Nat.lt_or_ge 2000 ws.length with z | z
    · have := k 2000 z
      unfold badB at this
      rw [decide_eq_true rfl, Bool.true_or] at this
      cases this
    · exact z
  · obtain ⟨j, hj⟩ := List.getElem?_of_mem hw
    have := k j (List.getElem?_eq_some_iff.mp hj).1
    unfold badB at this
    rw [hj] at this
    have : (decide (j = 2000) || (wR w).isNone) = false := this
    rw [e2] at this
    simp at this
theorem ix_listB {X : Cx} {K : PySem.W.Frag} (h : X.K = K) : IxR X (rIxL K) := by
  subst h
  exact ix_list
theorem plain_ints : ∀ zs : List Int, PyData.plainAll (zs.map PyData.int) = true
  | [] => rfl
  | z :: zs => by
    show (true && PyData.plainAll (zs.map PyData.int)) = true
    rw [plain_ints zs]
    rfl
def spLdue : Sp := fun vs H Q _ => ∃ x : Str, vs = [.str x] ∧ x.length ≤ 20000 ∧ (∀ w ∈ wsOf x, w.length ≤ 5000) ∧ ∀ v H', DuV v (dueP x) → Same H H' → Q v H'
section
variable {P : Program} {w : World} {K : PySem.W.Frag} {mg : Str → Option Value} {base : Heap} {Cs : List Addr} {CR CC CL fL CP fP CS fS CM fM CT fT : Addr} {tM tE : Tok}
theorem ok_ldue {f : Addr} {fd : FuncData} (F : Fun K "_law_due" "_law_due" s_ldue f fd) (T : CTx P K mg Cs CR CC CL fL CP fP CS fS CM fM) (D_lread : DefAt P w K mg base CX0 2 "_law_read" ["_law_word_here"] spLread) : FnOk P w K mg base CX0 3 f fd ["_law_text_here"] spLdue := by
  refine F.ok sc_ldue (fun vs H Q E h => ?_) (fun cdv A outer s H vs Q E hr h => ?_)
  · obtain ⟨x, rfl, _⟩ := h
    rfl
  · obtain ⟨x, rfl, l1, l2, k⟩ := h
    refine ⟨_, (pss_cons (ps_set (i := 1) sc_ldue.nd rfl (Or.inr rfl) (pe_split (pv 0) pe_str))
      (pss_cons (ps_if (pt_cmpR op_eq (pe_ix ix_list (pv 1) pe_int (fun _ _ => rfl)) pe_str (nomark _)) (pss_one (ps_ret (pe_ifExp (pt_cmpR op_gt (pe_callB call_len (by rfl) T.z_len PySem.boot_len (pa_cons (pv 1) pa_nil)) pe_int (nomark _)) pe_int pe_non))) pss_nil)
      (pss_cons (ps_setLc (i := 2) (own := [("_law_at", 3)]) rfl sc_ldue.nd rfl rfl (sw_true rfl rfl rfl rfl) (pi_range1 rfl T.z_range (pa_cons (pe_callB call_len (by rfl) T.z_len PySem.boot_len (pa_cons (pv 1) pa_nil)) pa_nil)) (blkOk_by (by show blkC ["_law_text_here", "_law_words", "_law_wrong", "_law_at"] (defScope s_ldue) _ _ = true; decide +kernel)) (fun _ _ _ _ _ => (pg_name (i := 3) sc_ldue.nd rfl (Or.inl rfl))) (fun _ _ _ _ _ => (pts_one (PW.pt (pw_or (pt_cmpR op_eq (pv 3) pe_int (nomark _)) (pw_or1 (pt_cmpR op_isN (My.pe_d D_lread (hr.mono (by decide)) (by rfl) pass0 (pa_cons (pe_ix (My.ix_listB (K := K) rfl) (pv 1) (pv 3) (fun _ _ => rfl)) pa_nil)) pe_non (nomark _))))))) (fun _ _ _ _ _ => (pv 3)))
      (pss_one (ps_ret (pe_ifExp (pt_cmpR (My.op_neP hr.units) (pv 2) (pe_lst pa_nil) (nomark _)) (pe_ix ix_list (pv 2) pe_int (fun _ _ => rfl)) pe_non)))))), ?_⟩
    refine ⟨_, rfl, ⟨_, rfl⟩, x, " ", rfl, rfl, by decide +kernel, (by rw [sizeLine_eq]; omega), fun lw hlw => ?_⟩
    rw [show Txt.split x " " = wsOf x from rfl]
    have s1 := same_new (o := .lst ((wsOf x).map V.str)) hlw
    have e1 : upd H lw (.lst ((wsOf x).map V.str)) lw = some (.lst ((wsOf x).map V.str)) := upd_same
    generalize upd H lw (.lst ((wsOf x).map V.str)) = H1 at s1 e1 ⊢
    have wn : (wsOf x).length ≤ 20001 := by
      obtain ⟨h, _, _⟩ := split1_len (x := x) (y := " ") (s := 32) (by decide +kernel) (by decide +kernel)
      show (Txt.split x " ").length ≤ _
      omega
    obtain ⟨w0, wr, ew⟩ : ∃ w0 wr, wsOf x = w0 :: wr := by
      obtain ⟨w, ws, e⟩ := split1_ne (x := x) (y := " ") (s := 32) (by decide +kernel) (by decide +kernel)
      cases g : wsOf x with
      | nil =>
        have g : Txt.split x " " = [] := g
        rw [g] at e
        cases e
      | cons a b => exact ⟨a, b, rfl⟩
    have kd : ∀ v H', DuV v (if (wsOf x)[0]? = some ("empty" : Str) then (if 1 < (wsOf x).length then some 1 else none) else (badL (wsOf x)).head?) → Same H H' → Q v H' := k
    rw [ew] at e1 wn l2 kd
    rw [List.getElem?_cons_zero] at kd
    refine ⟨_, rfl, lw, _, _, _, rfl, rfl, SqL.of e1, at0, rfl, _, rfl, ?_⟩
    by_cases hw : w0 = ("empty" : Str)
    · subst hw
      rw [decide_eq_true rfl]
      rw [if_pos rfl] at kd
      refine iteT ⟨_, rfl, _, _, rfl, .inl ⟨_, SqL.of e1, rfl⟩, _, _, rfl, rfl, _, rfl, ?_⟩
      refine ite2 (fun c => ?_) (fun c => ?_)
      · have c : 1 < (((("empty" : Str) :: wr).map V.str).length : Int) := of_decide_eq_true c
        rw [List.length_map] at c
        rw [if_pos (by omega)] at kd
        exact kd _ _ rfl s1
      · have c : ¬ 1 < (((("empty" : Str) :: wr).map V.str).length : Int) := fun z => c (decide_eq_true z)
        rw [List.length_map] at c
        rw [if_neg (by omega)] at kd
        exact kd _ _ rfl s1
    rw [decide_eq_false (show ¬ V.str w0 = V.str ("empty" : Str) from fun z => hw (V.str.inj z))]
    rw [if_neg (fun z => hw (Option.some.inj z))] at kd
    generalize w0 :: wr = ws at e1 wn l2 kd
    refine iteF ?_
    have el : (ws.map V.str).length = ws.length := List.length_map ..
    refine ⟨_, rfl, _, _, rfl, .inl ⟨_, SqL.of e1, rfl⟩, ((ws.map V.str).length : Nat), rfl, by rw [el]; omega, by rw [el]; omega, fun D hD => ?_⟩
    rw [el]
    have s2 := same_new (o := .lst []) hD
    have fl : ∀ i, ((List.range i).filter (badB ws)).length ≤ i := fun i => Nat.le_trans (List.length_filter_le _ _) (by rw [List.length_range]; exact Nat.le_refl _)
    refine lc_range (lo := 0) (n := ws.length) (fun i Hh => Hh D = some (.lst (((List.range i).filter (badB ws)).map fun j : Nat => V.int (j : Int))) ∧ Same H1 Hh) ⟨upd_same, s2⟩ ?_ ?_
    · rintro i Hh hi ⟨g1, sh⟩
      have put : ∀ Hx, Same Hh Hx → badB ws i = true → ∃ acc, Hx D = some (.lst acc) ∧ acc.length + 1 ≤ sizeLine ∧ (upd Hx D (.lst (acc ++ [.int (i : Int)])) D = some (.lst (((List.range (i + 1)).filter (badB ws)).map fun j : Nat => V.int (j : Int))) ∧ Same H1 (upd Hx D (.lst (acc ++ [.int (i : Int)])))) := fun Hx sx hb => by
        refine ⟨_, sx _ _ g1, ?_, ?_, fun b o e => ?_⟩
        · have := fl i
          rw [List.length_map, sizeLine_eq]
          omega
        · rw [List.range_succ, List.filter_append, List.map_append, List.filter_cons, hb]
          exact upd_same
        · rw [upd_ne (ne_of_none e hD)]
          exact sx _ _ (sh _ _ e)
      have stay : ∀ Hx, Same Hh Hx → badB ws i = false → Hx D = some (.lst (((List.range (i + 1)).filter (badB ws)).map fun j : Nat => V.int (j : Int))) ∧ Same H1 Hx := fun Hx sx hb => by
        refine ⟨?_, sh.trans sx⟩
        rw [List.range_succ, List.filter_append, List.filter_cons, hb]
        rw [if_neg (by decide), List.filter_nil, List.append_nil]
        exact sx _ _ g1
      obtain ⟨z, hz⟩ : ∃ z, ws[i]? = some z := ⟨_, List.getElem?_eq_getElem hi⟩
      refine ⟨rfl, _, rfl, rfl, _, rfl, ?_⟩
      by_cases c : i = 2000
      · rw [decide_eq_true (show V.int (0 + (i : Int)) = V.int 2000 by rw [c]; rfl)]
        obtain ⟨acc, h1, h2, h3⟩ := put Hh (fun _ _ e => e) (by unfold badB; rw [decide_eq_true c, Bool.true_or])
        rw [← Int.zero_add (i : Int)] at h3
        exact iteT (iteT ⟨_, rfl, acc, h1, h2, h3⟩)
      · rw [decide_eq_false (show ¬ V.int (0 + (i : Int)) = V.int 2000 from fun z => c (by have := V.int.inj z; omega))]
        have ez : atI (ws.map V.str) (0 + (i : Int)) = some (.str z) := by
          rw [Int.zero_add]
          exact atI_nat (by rw [List.getElem?_map, hz] <;> rfl)
        refine iteF ⟨_, rfl, _, rfl, lw, _, _, _, rfl, rfl, SqL.of (sh _ _ e1), ez, z, rfl, l2 z (List.mem_of_getElem? hz), fun v H5 fv s5 => ⟨rfl, _, rfl, ?_⟩⟩
        have bb : badB ws i = (wR z).isNone := by
          unfold badB
          rw [hz, decide_eq_false c]
          exact Bool.false_or _
        have ev : decide (v = V.non) = (wR z).isNone := by
          cases e : wR z with
          | none =>
            rw [e] at fv
            exact decide_eq_true fv
          | some r =>
            rw [e] at fv
            obtain ⟨t, rfl, _⟩ := fv
            exact decide_eq_false fun z => nomatch z
        rw [ev, ← bb]
        cases hb : badB ws i with
        | true =>
          obtain ⟨acc, h1, h2, h3⟩ := put H5 s5 hb
          rw [← Int.zero_add (i : Int)] at h3
          exact iteT ⟨_, rfl, acc, h1, h2, h3⟩
        | false => exact iteF (stay H5 s5 hb)
    · rintro H3 ⟨g1, sh⟩
      refine ⟨_, rfl, (by show 0 ≤ sizeLine; decide), fun l6 h6 => ?_⟩
      have s6 := same_new (o := .lst []) h6
      have em : ((List.range ws.length).filter (badB ws)).map (fun j : Nat => V.int (j : Int)) = ((badL ws).map fun j : Nat => (j : Int)).map V.int := by rw [List.map_map]; rfl
      rw [em] at g1
      have g2 := s6 _ _ g1
      refine ⟨.list (((badL ws).map fun j : Nat => (j : Int)).map PyData.int), .list [], .lst (SqL.of g2) (dp_ints _), .lst (SqL.of upd_same) .nil, plain_ints _, rfl, Nat.le_trans (Nat.min_le_right _ _) (by decide), _, rfl, ?_⟩
      have st := s1.trans (sh.trans s6)
      cases e : badL ws with
      | nil =>
        rw [e] at kd
        exact iteF (kd _ _ rfl st)
      | cons i r =>
        rw [e] at kd g2
        exact iteT ⟨_, rfl, D, _, _, _, rfl, rfl, SqL.of g2, at0, kd _ _ rfl st⟩
end
end My
/-! A text times an int. -/
namespace My
open PySem PySem.Spec PyProof.Rows L2
def mulS (a : Str) (n : Nat) : Str := ⟨(List.replicate n a.cps).foldl (· ++ ·) #[]⟩
def rMulS : R2 := fun x y H Q => ∃ a n, x = .str a ∧ y = .int n ∧ 2 ≤ n ∧ n ≤ 1000 ∧ 1 ≤ a.length ∧ a.length ≤ 1000 ∧ (mulS a n.toNat).length ≤ sizeLine ∧ Q (.str (mulS a n.toNat)) H
theorem op_mulS {X : Cx} : OpR X (binaryOp .Mult) rMulS := by
  intro pins s σ H x y v u Q I rx ry h
  obtain ⟨a, n, rfl, rfl, n1, n2, a1, a2, hz, q⟩ := h
  obtain ⟨t, rfl⟩ := rx
  obtain ⟨t', rfl⟩ := ry
  have e1 : (n == 1 || a.length == 0) = false := by
    rw [Bool.or_eq_false_iff, beq_eq_false_iff_ne, beq_eq_false_iff_ne]
    exact ⟨by omega, by omega⟩
  have hlo : ¬ n < -(2 ^ 63 : Int) := by omega
  have h2 : ¬ n ≥ 2 ^ 63 := by omega
  have hd : (2 ^ 63 - 1 : Int) / n ≥ 1000 := by
    have : (1000 : Int) * n ≤ 2 ^ 63 - 1 := by omega
    exact (Int.le_ediv_iff_mul_le (by omega)).mpr this
  have hl : a.length * n.toNat ≤ 1000000 := by
    have := Nat.mul_le_mul a2 (show n.toNat ≤ 1000 by omega)
    omega
  refine P.mul_str (by rw [decide_eq_false hlo, decide_eq_false h2]; rfl) (fun _ _ => by omega) (fun _ _ => ?_) ?_
  · unfold Builtin.Str.tooLong
    have hs := sizeLine_eq
    first | exact decide_eq_false (by omega) | simp; omega
  · rw [if_neg (show ¬ n < 1 by omega), e1, if_neg (by decide)]
    first
      | exact ⟨hz, ⟨.str (mulS a n.toNat), H, I.tok _, ⟨_, rfl⟩, q⟩⟩
      | exact ⟨.str (mulS a n.toNat), H, I.tok _, ⟨_, rfl⟩, q⟩
end My
set_option pp.maxSteps 1500
set_option pp.deepTerms.threshold 8
/-! ### a text bent -/
namespace My
open PySem PySem.Spec PyProof.Rows L2 TX
abbrev s_lbent : Stmt := topS 51
theorem sc_lbent : FnScope ["_law_pen_here", "_law_text_here", "_law_words", "_law_at", "_law_way", "_law_some", "_law_spot"] ["_law_pen_here", "_law_text_here"] (defScope s_lbent) := ⟨rfl, rfl, rfl, by decide +kernel, rfl, by decide +kernel, by decide +kernel⟩
def wt (ws : List Str) : Nat := (ws.map fun w => w.length + 1).sum
def cutW (ws : List Str) (lo hi : Option Int) : List Str := (ws.drop (HT.sIx ws.length 0 lo)).take (HT.sIx ws.length ws.length hi - HT.sIx ws.length 0 lo)
theorem cut_strs (ws : List Str) (lo hi : Option Int) : cutV (ws.map V.str) lo hi = (cutW ws lo hi).map V.str := by
  unfold cutV cutW
  rw [List.length_map, List.map_take, List.map_drop]
theorem wt_app (a b : List Str) : wt (a ++ b) = wt a + wt b := by
  unfold wt
  rw [List.map_append, List.sum_append]
theorem wt_drop (ws : List Str) : ∀ n, wt (ws.drop n) ≤ wt ws := by
  induction ws with
  | nil => intro n; rw [List.drop_nil]; exact Nat.le_refl _
  | cons w ws ih =>
    intro n
    cases n with
    | zero => exact Nat.le_refl _
    | succ n =>
      have := ih n
      show wt (ws.drop n) ≤ w.length + 1 + wt ws
      omega
theorem wt_take (ws : List Str) : ∀ n, wt (ws.take n) ≤ wt ws := by
  induction ws with
  | nil => intro n; rw [List.take_nil]; exact Nat.le_refl _
  | cons w ws ih =>
    intro n
    cases n with
    | zero => exact Nat.zero_le _
    | succ n =>
      have := ih n
      show w.length + 1 + wt (ws.take n) ≤ w.length + 1 + wt ws
      omega
theorem wt_cut (ws : List Str) (lo hi : Option Int) : wt (cutW ws lo hi) ≤ wt ws ∧ (cutW ws lo hi).length ≤ ws.length := by
  unfold cutW
  refine ⟨Nat.le_trans (wt_take _ _) (wt_drop _ _), ?_⟩
  rw [List.length_take, List.length_drop]
  omega
theorem wt_two (ws : List Str) {d e : Int} (h0 : 0 ≤ d) (h1 : d ≤ e) : wt (cutW ws none (some d)) + wt (cutW ws (some e) none) ≤ wt ws := by
  obtain ⟨a, rfl⟩ := Int.eq_ofNat_of_zero_le h0
  obtain ⟨b, rfl⟩ := Int.eq_ofNat_of_zero_le (Int.le_trans h0 h1)
  unfold cutW
  rw [HT.sIx_nat, HT.sIx_none, HT.sIx_nat, HT.sIx_none, List.drop_zero, Nat.sub_zero]
  have key : ∀ (ws : List Str) (i j : Nat), i ≤ j → wt (ws.take i) + wt (ws.drop j) ≤ wt ws := by
    intro ws
    induction ws with
    | nil => intro i j _; rw [List.take_nil, List.drop_nil]; exact Nat.le_refl _
    | cons w ws ih =>
      intro i j hij
      cases i with
      | zero =>
        have := wt_drop (w :: ws) j
        show 0 + _ ≤ _
        omega
      | succ i =>
        cases j with
        | zero => omega
        | succ j =>
          have := ih i j (by omega)
          show w.length + 1 + wt (ws.take i) + wt (ws.drop j) ≤ w.length + 1 + wt ws
          omega
  refine Nat.le_trans (Nat.add_le_add_left (wt_take _ _) _) (key ws _ _ ?_)
  omega
theorem wt_len : ∀ ws : List Str, ws.length ≤ wt ws
  | [] => Nat.le_refl _
  | w :: ws => by
    have := wt_len ws
    show ws.length + 1 ≤ w.length + 1 + wt ws
    omega
theorem wt_sum : ∀ ws : List Str, (ws.map (·.length)).sum + ws.length = wt ws
  | [] => rfl
  | w :: ws => by
    have := wt_sum ws
    show w.length + (ws.map (·.length)).sum + (ws.length + 1) = w.length + 1 + wt ws
    omega
theorem joinL_eq (s : Nat) : ∀ ps : List (List Nat), ps ≠ [] → (TL.joinL [s] ps).length + 1 = (ps.map fun p => p.length + 1).sum
  | [], h => absurd rfl h
  | [p], _ => rfl
  | p :: q :: r, _ => by
    have := joinL_eq s (q :: r) (fun z => nomatch z)
    show (p ++ ([s] ++ TL.joinL [s] (q :: r))).length + 1 = p.length + 1 + ((q :: r).map fun p => p.length + 1).sum
    rw [List.length_append, List.length_append]
    have e : ([s] : List Nat).length = 1 := rfl
    omega
theorem wt_tl (ws : List Str) : (((ws.map TL.tl).map fun p => p.length + 1).sum) = wt ws := by
  unfold wt
  rw [List.map_map]
  exact congrArg List.sum (List.map_congr_left fun w _ => by
    show (TL.tl w).length + 1 = w.length + 1
    rw [← TL.len_tl])
theorem join_wt (ps : List Str) : (Txt.join " " ps).length ≤ wt ps := by
  have ey : TL.tl (" " : Str) = [32] := by decide +kernel
  rw [TL.join_eq, TL.len_tl, TL.tl_join, ey]
  by_cases h : ps = []
  · rw [h]
    exact Nat.le_refl _
  · have := joinL_eq 32 (ps.map TL.tl) (fun z => h (List.map_eq_nil_iff.mp z))
    rw [wt_tl] at this
    omega
theorem wt_split (x : Str) : wt (wsOf x) = x.length + 1 := by
  have e32 : TL.tl (" " : Str) = [32] := by decide +kernel
  have es := split1_spl (x := x) (y := " ") (s := 32) e32 (by decide +kernel)
  obtain ⟨w, ws, e⟩ := RT.spl_cons 32 (TL.tl x) []
  have j := RT.join_spl 32 (TL.tl x) []
  have h := joinL_eq 32 (TL.spl [32] 0 [] (TL.tl x)) (by rw [e]; exact fun z => nomatch z)
  rw [j, ← es, wt_tl] at h
  rw [TL.len_tl]
  exact h.symm
theorem mem_strs {v : V} {zs : List Str} (h : v ∈ zs.map V.str) : ∃ z, v = .str z ∧ z ∈ zs := by
  obtain ⟨z, hz, e⟩ := List.mem_map.mp h
  exact ⟨z, e.symm, hz⟩
def spLbent : Sp := fun vs H Q _ => ∃ (pn cl : Addr) (x : Str) (n : Nat), vs = [.ref pn, .str x] ∧ x.length ≤ 2000 ∧ PenC H pn cl n ∧ n < 80000 ∧ ∀ (y : Str) (H' : Hp), y.length ≤ 2 * x.length + 100 → PenC H' pn cl (n + 4) → But pn H H' → Q (.str y) H'
def some3 : List Str := ["", "empty", "Empty", "0", "-0", "01", "1/2", "2/4", "1/1", "-1/2", "1/-2", "1/0", "+1", "1.0", "a", mulS "9" 60, mulS "9" 61, "1/" ++ mulS "7" 60, "1/" ++ mulS "7" 61, "0/1", "1/2/3", "1\n", "clip"]
theorem some3_len : ∀ y ∈ some3, y.length ≤ 70 := by decide +kernel
def signs8 : List Str := [" ", "-", "/", "0", "1", "\n", ".", "~"]
theorem signs8_len : ∀ y ∈ signs8, y.length ≤ 1 := by decide +kernel
section
variable {P : Program} {w : World} {K : PySem.W.Frag} {mg : Str → Option Value} {base : Heap} {Cs : List Addr} {CR CC CL fL CP fP CS fS CM fM CT fT : Addr} {tM tE : Tok}
theorem ok_lbent {f : Addr} {fd : FuncData} (F : Fun K "_law_bent" "_law_bent" s_lbent f fd) (T : RTx K mg Cs CR) (D_draw : DefAt P w K mg base CX0 1 "_law_draw" ["_law_pen_here", "_law_many"] spDrawC)
    (D_pick : DefAt P w K mg base CX0 2 "_law_pick" ["_law_pen_here", "_law_some"] spPickC) : FnOk P w K mg base CX0 3 f fd ["_law_pen_here", "_law_text_here"] spLbent := by
  refine F.ok sc_lbent (fun vs H Q E h => ?_) (fun cdv A outer s H vs Q E hr h => ?_)
  · obtain ⟨pn, cl, x, n, rfl, _⟩ := h
    rfl
  · obtain ⟨pn, cl, x, n, rfl, lx, hp, hn, k⟩ := h
    refine ⟨_, (pss_cons (ps_set (i := 2) sc_lbent.nd rfl (Or.inl rfl) (pe_split (pv 1) pe_str))
      (pss_cons (ps_par (i := 3) (j := 4) (by rfl) sc_lbent.nd rfl rfl (by decide) rfl rfl (pa_cons (My.pe_d D_draw (hr.mono (by decide)) (by rfl) pass0 (pa_cons (pv 0) (pa_cons (pe_callB call_len (by rfl) T.z_len PySem.boot_len (pa_cons (pv 2) pa_nil)) pa_nil))) (pa_cons (My.pe_d D_draw (hr.mono (by decide)) (by rfl) pass0 (pa_cons (pv 0) (pa_cons pe_int pa_nil))) pa_nil)) (by rfl))
      (pss_cons (ps_if (pt_cmpR op_eq (pv 4) pe_int (nomark _)) (pss_one (ps_ret (pe_join pe_str (pe_op op_cat (pe_slice sl_list (pv 2) po_none (po_some (pv 3))) (pe_slice sl_list (pv 2) (po_some (pe_op op_add (pv 3) pe_int)) po_none))))) pss_nil)
      (pss_cons (ps_if (pt_cmpR op_eq (pv 4) pe_int (nomark _)) (pss_one (ps_ret (pe_join pe_str (pe_op op_cat (pe_slice sl_list (pv 2) po_none (po_some (pe_op op_add (pv 3) pe_int))) (pe_slice sl_list (pv 2) (po_some (pv 3)) po_none))))) pss_nil)
      (pss_cons (ps_if (pt_cmpR op_lt (pv 4) pe_int (nomark _)) (pss_cons (ps_set (i := 5) sc_lbent.nd rfl (Or.inl rfl) (pe_lst (pa_cons pe_str (pa_cons pe_str (pa_cons pe_str (pa_cons pe_str (pa_cons pe_str (pa_cons pe_str (pa_cons pe_str (pa_cons pe_str (pa_cons pe_str (pa_cons pe_str (pa_cons pe_str (pa_cons pe_str (pa_cons pe_str (pa_cons pe_str (pa_cons pe_str pa_nil)))))))))))))))))
      (pss_cons (ps_set (i := 5) sc_lbent.nd rfl (Or.inl rfl) (pe_op op_cat (pv 5) (pe_lst (pa_cons (pe_op My.op_mulS pe_str pe_int) (pa_cons (pe_op My.op_mulS pe_str pe_int) (pa_cons (pe_op op_add_str pe_str (pe_op My.op_mulS pe_str pe_int)) (pa_cons (pe_op op_add_str pe_str (pe_op My.op_mulS pe_str pe_int)) (pa_cons pe_str (pa_cons pe_str (pa_cons pe_str (pa_cons pe_str pa_nil)))))))))))
      (pss_one (ps_ret (pe_join pe_str (pe_op op_cat (pe_op op_cat (pe_slice sl_list (pv 2) po_none (po_some (pv 3))) (pe_lst (pa_cons (My.pe_d D_pick (hr.mono (by decide)) (by rfl) pass0 (pa_cons (pv 0) (pa_cons (pv 5) pa_nil))) pa_nil))) (pe_slice sl_list (pv 2) (po_some (pe_op op_add (pv 3) pe_int)) po_none))))))) pss_nil)
      (pss_cons (ps_set (i := 6) sc_lbent.nd rfl (Or.inl rfl) (My.pe_d D_draw (hr.mono (by decide)) (by rfl) pass0 (pa_cons (pv 0) (pa_cons (pe_op op_add (pe_callB call_len (by rfl) T.z_len PySem.boot_len (pa_cons (pv 1) pa_nil)) pe_int) pa_nil))))
      (pss_cons (ps_if (pt_cmpR op_lt (pv 4) pe_int (nomark _)) (pss_one (ps_ret (pe_op op_add_str (pe_op op_add_str (pe_slice sl_str (pv 1) po_none (po_some (pv 6))) (My.pe_d D_pick (hr.mono (by decide)) (by rfl) pass0 (pa_cons (pv 0) (pa_cons (pe_lst (pa_cons pe_str (pa_cons pe_str (pa_cons pe_str (pa_cons pe_str (pa_cons pe_str (pa_cons pe_str (pa_cons pe_str (pa_cons pe_str pa_nil))))))))) pa_nil)))) (pe_slice sl_str (pv 1) (po_some (pv 6)) po_none)))) pss_nil)
      (pss_one (ps_ret (pe_op op_add_str (pe_slice sl_str (pv 1) po_none (po_some (pv 6))) (pe_slice sl_str (pv 1) (po_some (pe_op op_add (pv 6) pe_int)) po_none))))))))))), ?_⟩
    refine ⟨_, rfl, ⟨_, rfl⟩, x, " ", rfl, rfl, by decide +kernel, (by rw [sizeLine_eq]; omega), fun l hl => ?_⟩
    rw [show Txt.split x " " = wsOf x from rfl]
    have tW := wt_split x
    have lW1 : 1 ≤ (wsOf x).length := by
      cases g : wsOf x with
      | nil =>
        rw [g] at tW
        exact absurd tW (by show ¬ 0 = _ + 1; omega)
      | cons a b =>
        show 1 ≤ b.length + 1
        omega
    generalize wsOf x = W at tW lW1 ⊢
    have lW := wt_len W
    have s1 := same_new (o := .lst (W.map V.str)) hl
    have L1 : upd H l (.lst (W.map V.str)) l = some (.lst (W.map V.str)) := upd_same
    have nl : l ≠ pn := pen_ne hp.pen hl
    generalize upd H l (.lst (W.map V.str)) = H0 at s1 L1 ⊢
    have p0 := hp.same s1
    have u0 : But pn H H0 := but_same s1
    have el : (W.map V.str).length = W.length := List.length_map ..
    refine ⟨_, rfl, _, rfl, _, _, rfl, .inl ⟨_, SqL.of L1, rfl⟩, pn, cl, _, n, rfl, by omega, ?_, p0, by omega, fun d2 H1 a2 b2 p1 u1 => ?_⟩
    · exact Nat.lt_of_lt_of_le (PySem.Flt.log2_lt_of (k := 40) (by decide) (by rw [el]; show _ < 1099511627776; omega)) (by decide)
    have L2 := u1 _ _ L1 nl
    refine ⟨_, rfl, pn, cl, 7, n + 1, rfl, by decide, by decide +kernel, p1, by omega, fun d1 H2 a1 b1 p2 u2 => ⟨_, _, rfl, ?_⟩⟩
    have L3 := u2 _ _ L2 nl
    have U2 := (u0.trans u1).trans u2
    rw [el] at b2
    clear L2 L1 u0 u1 u2 p0 p1 s1
    have join0 : ∀ (ps : List Str) (r : Addr) (Hz : Hp), wt ps ≤ 2 * x.length + 100 → Same H2 Hz → Hz r = some (.lst (ps.map V.str)) → ∃ a p, ∃ ys : List Str, V.str " " = .str a ∧ [V.ref r] = [.ref p] ∧ (SqL K Hz p (ys.map V.str) ∨ SqT K Hz p (ys.map V.str)) ∧ (ys.map (·.length)).sum + ys.length * a.length ≤ 16777216 ∧ Q (.str (Txt.join a ys)) Hz := fun ps r Hz t1 s e => by
      have e1 : (" " : Str).length = 1 := rfl
      have := wt_sum ps
      exact ⟨" ", r, ps, rfl, rfl, .inl (SqL.of e), by rw [e1, Nat.mul_one]; omega, k _ Hz (Nat.le_trans (join_wt ps) t1) ((p2.same s).le (by omega)) (U2.trans (but_same s))⟩
    refine ⟨_, rfl, rfl, _, rfl, ite2 (fun c0 => ?_) (fun c0 => ?_)⟩
    · refine ⟨⟨" ", rfl⟩, _, rfl, _, rfl, d2, rfl, l, _, rfl, SqL.of L3, fun r1 g1 => ?_⟩
      rw [cut_strs]
      have s1 := same_new (o := .lst ((cutW W none (some d2)).map V.str)) g1
      refine ⟨_, rfl, _, rfl, _, _, rfl, rfl, _, rfl, l, _, rfl, SqL.of (s1 _ _ L3), fun r2 g2 => ?_⟩
      rw [cut_strs]
      have s2 := same_new (o := .lst ((cutW W (some (d2 + 1)) none).map V.str)) g2
      obtain ⟨t1, t2⟩ := wt_cut W none (some d2)
      obtain ⟨t3, t4⟩ := wt_cut W (some (d2 + 1)) none
      have t5 := wt_two W a2 (show d2 ≤ d2 + 1 by omega)
      refine ⟨r1, r2, _, _, rfl, rfl, s2 _ _ upd_same, upd_same, (by rw [List.length_map, List.length_map, sizeLine_eq]; omega), fun r3 g3 => ?_⟩
      rw [← List.map_append]
      exact join0 _ r3 _ (by rw [wt_app]; omega) ((s1.trans s2).trans (same_new (o := .lst ((cutW W none (some d2) ++ cutW W (some (d2 + 1)) none).map V.str)) g3)) upd_same
    refine ⟨_, rfl, rfl, _, rfl, ite2 (fun c1 => ?_) (fun c1 => ?_)⟩
    · refine ⟨⟨" ", rfl⟩, _, rfl, _, rfl, _, _, rfl, rfl, _, rfl, l, _, rfl, SqL.of L3, fun r1 g1 => ?_⟩
      rw [cut_strs]
      have s1 := same_new (o := .lst ((cutW W none (some (d2 + 1))).map V.str)) g1
      refine ⟨_, rfl, _, rfl, d2, rfl, l, _, rfl, SqL.of (s1 _ _ L3), fun r2 g2 => ?_⟩
      rw [cut_strs]
      have s2 := same_new (o := .lst ((cutW W (some d2) none).map V.str)) g2
      obtain ⟨t1, t2⟩ := wt_cut W none (some (d2 + 1))
      obtain ⟨t3, t4⟩ := wt_cut W (some d2) none
      refine ⟨r1, r2, _, _, rfl, rfl, s2 _ _ upd_same, upd_same, (by rw [List.length_map, List.length_map, sizeLine_eq]; omega), fun r3 g3 => ?_⟩
      rw [← List.map_append]
      exact join0 _ r3 _ (by rw [wt_app]; omega) ((s1.trans s2).trans (same_new (o := .lst ((cutW W none (some (d2 + 1)) ++ cutW W (some d2) none).map V.str)) g3)) upd_same
    refine ⟨_, rfl, _, _, rfl, rfl, _, rfl, ite2 (fun c2 => ?_) (fun c2 => ?_)⟩
    · refine ⟨(by show 15 ≤ sizeLine; decide), fun l1 h1 => ?_⟩
      have s1 := same_new (o := .lst [.str "", .str "empty", .str "Empty", .str "0", .str "-0", .str "01", .str "1/2", .str "2/4", .str "1/1", .str "-1/2", .str "1/-2", .str "1/0", .str "+1", .str "1.0", .str "a"]) h1
      have M1 : upd H2 l1 (.lst [.str "", .str "empty", .str "Empty", .str "0", .str "-0", .str "01", .str "1/2", .str "2/4", .str "1/1", .str "-1/2", .str "1/-2", .str "1/0", .str "+1", .str "1.0", .str "a"]) l1 = some (.lst [.str "", .str "empty", .str "Empty", .str "0", .str "-0", .str "01", .str "1/2", .str "2/4", .str "1/1", .str "-1/2", .str "1/-2", .str "1/0", .str "+1", .str "1.0", .str "a"]) := upd_same
      generalize upd H2 l1 (.lst [.str "", .str "empty", .str "Empty", .str "0", .str "-0", .str "01", .str "1/2", .str "2/4", .str "1/1", .str "-1/2", .str "1/-2", .str "1/0", .str "+1", .str "1.0", .str "a"]) = H3 at s1 M1 ⊢
      have m60 : (mulS "7" (Int.toNat 60)).length ≤ 61 := by decide +kernel
      have m61 : (mulS "7" (Int.toNat 61)).length ≤ 61 := by decide +kernel
      have e2 : ("1/" : Str).length = 2 := rfl
      refine ⟨_, rfl, "9", 60, rfl, rfl, by decide, by decide, by decide, by decide, by decide +kernel, "9", 61, rfl, rfl, by decide, by decide, by decide, by decide, by decide +kernel, "7", 60, rfl, rfl, by decide, by decide, by decide, by decide, by decide +kernel, "1/", _, rfl, rfl, (by rw [sizeLine_eq]; omega), ?_⟩
      refine ⟨"7", 61, rfl, rfl, by decide, by decide, by decide, by decide, by decide +kernel, "1/", _, rfl, rfl, (by rw [sizeLine_eq]; omega), (by show 8 ≤ sizeLine; decide), fun l2 h2 => ?_⟩
      have s2 := same_new (o := .lst [.str (mulS "9" (Int.toNat 60)), .str (mulS "9" (Int.toNat 61)), .str ("1/" ++ mulS "7" (Int.toNat 60)), .str ("1/" ++ mulS "7" (Int.toNat 61)), .str "0/1", .str "1/2/3", .str "1\n", .str "clip"]) h2
      refine ⟨l1, l2, _, _, rfl, rfl, s2 _ _ M1, upd_same, (by show 15 + 8 ≤ sizeLine; decide), fun l3 h3 => ?_⟩
      have M3 : upd (upd H3 l2 (.lst [.str (mulS "9" (Int.toNat 60)), .str (mulS "9" (Int.toNat 61)), .str ("1/" ++ mulS "7" (Int.toNat 60)), .str ("1/" ++ mulS "7" (Int.toNat 61)), .str "0/1", .str "1/2/3", .str "1\n", .str "clip"])) l3 (.lst (some3.map V.str)) l3 = some (.lst (some3.map V.str)) := upd_same
      have s3 := same_new (o := .lst (some3.map V.str)) h3
      show gName 5 _ _ (upd (upd H3 l2 _) l3 (.lst (some3.map V.str))) _
      have S3 := (s1.trans s2).trans s3
      have n3 : l3 ≠ pn := pen_ne ((p2.same s1).same s2).pen h3
      generalize upd (upd H3 l2 (.lst [.str (mulS "9" (Int.toNat 60)), .str (mulS "9" (Int.toNat 61)), .str ("1/" ++ mulS "7" (Int.toNat 60)), .str ("1/" ++ mulS "7" (Int.toNat 61)), .str "0/1", .str "1/2/3", .str "1\n", .str "clip"])) l3 (.lst (some3.map V.str)) = H4 at M3 S3 ⊢
      clear s1 s2 s3 h1 h2 h3 M1
      have L4 := S3 _ _ L3
      refine ⟨⟨" ", rfl⟩, _, rfl, _, rfl, d2, rfl, l, _, rfl, SqL.of L4, fun r1 g1 => ?_⟩
      rw [cut_strs]
      have s1 := same_new (o := .lst ((cutW W none (some d2)).map V.str)) g1
      have q4 := (p2.same S3).same s1
      refine ⟨_, rfl, _, rfl, pn, cl, l3, n + 2, _, rfl, s1 _ _ M3, n3, (by show 0 < 23; decide), (by show 23 ≤ 1000; decide), q4, by omega, fun v H5 hv p5 u5 => ?_⟩
      obtain ⟨y, rfl, hy⟩ := mem_strs hv
      have ly := some3_len y hy
      have R1 := u5 _ _ (upd_same (H := H4) (a := r1) (o := .lst ((cutW W none (some d2)).map V.str))) (pen_ne (p2.same S3).pen g1)
      have L5 := u5 _ _ (s1 _ _ L4) nl
      have U5 := (U2.trans (but_same (S3.trans s1))).trans u5
      clear u5 s1 g1 q4 L4 M3
      refine ⟨(by show 1 ≤ sizeLine; decide), fun r2 g2 => ?_⟩
      have s2 := same_new (o := .lst [.str y]) g2
      obtain ⟨t1, t2⟩ := wt_cut W none (some d2)
      obtain ⟨t3, t4⟩ := wt_cut W (some (d2 + 1)) none
      have t5 := wt_two W a2 (show d2 ≤ d2 + 1 by omega)
      have ty : wt [y] = y.length + 1 := rfl
      refine ⟨r1, r2, _, _, rfl, rfl, s2 _ _ R1, upd_same, (by rw [List.length_map, sizeLine_eq]; show _ + 1 ≤ _; omega), fun r3 g3 => ?_⟩
      have q3 : (cutW W none (some d2)).map V.str ++ [V.str y] = (cutW W none (some d2) ++ [y]).map V.str := by rw [List.map_append]; rfl
      rw [q3]
      have s3 := same_new (o := .lst ((cutW W none (some d2) ++ [y]).map V.str)) g3
      refine ⟨_, rfl, _, rfl, _, _, rfl, rfl, _, rfl, l, _, rfl, SqL.of (s3 _ _ (s2 _ _ L5)), fun r4 g4 => ?_⟩
      rw [cut_strs]
      have s4 := same_new (o := .lst ((cutW W (some (d2 + 1)) none).map V.str)) g4
      refine ⟨r3, r4, _, _, rfl, rfl, s4 _ _ upd_same, upd_same, (by rw [List.length_map, List.length_map, List.length_append, sizeLine_eq]; show _ + 1 + _ ≤ _; omega), fun r5 g5 => ?_⟩
      rw [← List.map_append]
      have sZ := ((s2.trans s3).trans s4).trans (same_new (o := .lst ((cutW W none (some d2) ++ [y] ++ cutW W (some (d2 + 1)) none).map V.str)) g5)
      have e1 : (" " : Str).length = 1 := rfl
      have tB : wt (cutW W none (some d2) ++ [y] ++ cutW W (some (d2 + 1)) none) ≤ 2 * x.length + 100 := by rw [wt_app, wt_app, ty]; omega
      have sm := wt_sum (cutW W none (some d2) ++ [y] ++ cutW W (some (d2 + 1)) none)
      exact ⟨" ", r5, _, rfl, rfl, .inl (SqL.of upd_same), by rw [e1, Nat.mul_one]; omega, k _ _ (Nat.le_trans (join_wt _) tB) ((p5.same sZ).le (by omega)) (U5.trans (but_same sZ))⟩
    have sx : x.length ≤ sizeLine := by rw [sizeLine_eq]; omega
    refine ⟨_, rfl, _, rfl, _, _, rfl, ⟨sx, rfl⟩, _, _, rfl, rfl, pn, cl, _, n + 2, rfl, by omega, ?_, p2, by omega, fun d3 H3 a3 b3 p3 u3 => ?_⟩
    · exact Nat.lt_of_lt_of_le (PySem.Flt.log2_lt_of (k := 40) (by decide) (by show _ < 1099511627776; omega)) (by decide)
    have U3 := U2.trans u3
    have c1 : ∀ lo hi, (L2.cutS x lo hi).length ≤ x.length := fun lo hi => cutS_length ..
    refine ⟨_, rfl, _, _, rfl, rfl, _, rfl, ite2 (fun c3 => ?_) (fun c3 => ?_)⟩
    · refine ⟨_, rfl, _, rfl, d3, rfl, x, rfl, sx, _, rfl, (by show 8 ≤ sizeLine; decide), fun l1 h1 => ?_⟩
      have s1 := same_new (o := .lst (signs8.map V.str)) h1
      refine ⟨pn, cl, l1, n + 3, _, rfl, (upd_same : upd H3 l1 (.lst (signs8.map V.str)) l1 = _), pen_ne p3.pen h1, (by show 0 < 8; decide), (by show 8 ≤ 1000; decide), p3.same s1, by omega, fun v H5 hv p5 u5 => ?_⟩
      obtain ⟨y, rfl, hy⟩ := mem_strs hv
      have ly := signs8_len y hy
      have k1 := c1 none (some d3)
      have k2 := c1 (some d3) none
      exact ⟨_, y, rfl, rfl, (by rw [sizeLine_eq]; omega), _, rfl, _, rfl, d3, rfl, x, rfl, sx, _, _, rfl, rfl, (by rw [app_len, sizeLine_eq]; omega), k _ _ (by rw [app_len, app_len]; omega) (p5.le (by omega)) ((U3.trans (but_same s1)).trans u5)⟩
    · have k1 := c1 none (some d3)
      have k2 := c1 (some (d3 + 1)) none
      exact ⟨_, rfl, _, rfl, d3, rfl, x, rfl, sx, _, rfl, _, rfl, _, _, rfl, rfl, _, rfl, x, rfl, sx, _, _, rfl, rfl, (by rw [sizeLine_eq]; omega), k _ _ (by rw [app_len]; omega) (p3.le (by omega)) U3⟩
end
end My
set_option pp.maxSteps 1500
set_option pp.deepTerms.threshold 8
/-! ### a clip is a row -/
namespace My
open PySem PySem.Spec PyProof.Rows L2 GenW
abbrev s_lis : Stmt := topS 44
theorem sc_lis : FnScope ["_law_clip_here", "_law_row_here", "_law_one"] ["_law_clip_here", "_law_row_here"] (defScope s_lis) := ⟨rfl, rfl, rfl, by decide +kernel, rfl, by decide +kernel, by decide +kernel⟩
theorem OkR.log {r : Int × Int} (h : OkR r) : r.1.natAbs.log2 < 1920 ∧ r.2.natAbs.log2 < 1920 := ⟨h.2.1.log, h.2.2.log⟩
theorem two_ok {rs : List (Int × Int)} (ok : ∀ r ∈ rs, OkR r) : ∀ us ∈ two rs, us.length ≤ 2 ∧ ∀ z ∈ us, z.natAbs.log2 < 1920 := fun us hu => by
  obtain ⟨r, hr, rfl⟩ := List.mem_map.mp hu
  refine ⟨Nat.le_refl _, fun z hz => ?_⟩
  have := (ok r hr).log
  simp only [List.mem_cons, List.not_mem_nil, or_false] at hz
  rcases hz with rfl | rfl
  · exact this.1
  · exact this.2
theorem tups_sum2 : ∀ uss : List (List Int), (∀ us ∈ uss, us.length ≤ 2 ∧ ∀ z ∈ us, z.natAbs.log2 < 1920) → ((PyData.shownAll (tupsD uss)).map (·.length)).sum ≤ 5000 * uss.length ∧ (PyData.shownAll (tupsD uss)).length = uss.length
  | [], _ => ⟨Nat.le_refl _, rfl⟩
  | us :: uss, h => by
    obtain ⟨h1, h2⟩ := tups_sum2 uss fun u hu => h u (List.mem_cons_of_mem _ hu)
    obtain ⟨l, z⟩ := h us List.mem_cons_self
    have a1 := tupleText_len_le (PyData.shownAll (us.map PyData.int))
    obtain ⟨a2, a3⟩ := shown_sum us z
    refine ⟨?_, ?_⟩
    · show (tupleText (PyData.shownAll (us.map PyData.int))).length + ((PyData.shownAll (tupsD uss)).map (·.length)).sum ≤ 5000 * (uss.length + 1)
      omega
    · show (PyData.shownAll (tupsD uss)).length + 1 = uss.length + 1
      omega
theorem tups_show2 {K : PySem.W.Frag} {H : Hp} {l : Addr} {xs : List V} (uss : List (List Int)) (h : H l = some (.lst xs)) (at_ : TupsAt H xs uss) (hz : ∀ us ∈ uss, us.length ≤ 2 ∧ ∀ z ∈ us, z.natAbs.log2 < 1920) (hl : uss.length ≤ 2000) :
    Dr K H (.ref l) (.list (tupsD uss)) ∧ (PyData.list (tupsD uss)).showable = true ∧ (PyData.list (tupsD uss)).depth ≤ 60 ∧ (PyData.list (tupsD uss)).shown.length ≤ sizeLine := by
  refine ⟨.inl (.lst (SqL.of h) at_.dp), tups_showable uss fun u hu => (hz u hu).2, ?_, ?_⟩
  · have := tups_lay uss
    show PyData.depthAll (tupsD uss) + 1 ≤ 60
    omega
  · have h1 := listText_len_le (PyData.shownAll (tupsD uss))
    obtain ⟨h2, h3⟩ := tups_sum2 uss hz
    show (listText (PyData.shownAll (tupsD uss))).length ≤ sizeLine
    rw [sizeLine_eq]
    omega
theorem RowK.show {K : PySem.W.Frag} {H : Hp} {l : Addr} {ps : List Addr} {rs : List (Int × Int)} (h : RowK H l ps rs) (ok : ∀ r ∈ rs, OkR r) (ln : rs.length ≤ 2000) :
    Dr K H (.ref l) (.list (tupsD (two rs))) ∧ (PyData.list (tupsD (two rs))).showable = true ∧ (PyData.list (tupsD (two rs))).depth ≤ 60 ∧ (PyData.list (tupsD (two rs))).shown.length ≤ sizeLine :=
  tups_show2 (two rs) h.l h.tups (two_ok ok) (by unfold two; rw [List.length_map]; exact ln)
theorem nat_show {K : PySem.W.Frag} {H : Hp} {n : Nat} (h : n ≤ 2000) : Dr K H (.int n) (.int n) ∧ (PyData.int n).showable = true ∧ (PyData.int n).depth ≤ 60 ∧ (PyData.int n).shown.length ≤ sizeLine := int_show (Nat.lt_of_lt_of_le (PySem.Flt.log2_lt_of (k := 40) (by decide) (by
  rw [Int.natAbs_natCast]
  exact Nat.lt_of_le_of_lt h (by decide))) (by decide))
def spClen (CC CR : Addr) : Sp := fun vs H Q _ => ∃ (p t : Addr) (zs : List V) (rs : List (Int × Int)), vs = [.ref p] ∧ ClipT CC CR H p t zs rs ∧ Q (.int rs.length) H
def spLis (CC CR : Addr) : Sp := fun vs H Q _ => ∃ (p l : Addr) (ps : List Addr) (rs : List (Int × Int)), vs = [.ref p, .ref l] ∧ ClipAt CC CR H p rs ∧ RowK H l ps rs ∧ (∀ r ∈ rs, OkR r) ∧ rs.length ≤ 2000 ∧ ∀ H', Same H H' → Q (.bl true) H'
section
variable {P : Program} {w : World} {K : PySem.W.Frag} {mg : Str → Option Value} {base : Heap} {Cs : List Addr} {CR CC CL fL CP fP CS fS CM fM : Addr}
theorem ok_lis {f : Addr} {fd : FuncData} (F : Fun K "_law_is" "_law_is" s_lis f fd) (T : CTx P K mg Cs CR CC CL fL CP fP CS fS CM fM) (G_each : GMeth P w K mg base 2 CC "each" (spEach CC)) (L_len : CmpAt P w K mg base CX0 1 CC "__len__" ["self"] (spClen CC CR))
    (D_pairs : DefAt P w K mg base CX0 4 "_law_pairs" ["_law_clip_here"] (spPairs CC CR)) : FnG P w K mg base CX0 5 f fd ["_law_clip_here", "_law_row_here"] (spLis CC CR) := by
  refine okG F sc_lis (fun vs H Q E h => ?_) (fun cdv A outer s H vs Q E hf hgd hr h => ?_)
  · obtain ⟨p, l, ps, rs, rfl, _⟩ := h
    rfl
  · obtain ⟨p, l, ps, rs, rfl, ⟨t, zs, ⟨dx, e⟩, e2, r, l2⟩, R, ok, ln, k⟩ := h
    refine ⟨_, (pss_cons (ps_if (PW.pt (pw_or (pt_not (pt_val (pe_callB call_isi (by rfl) T.z_isinstance boot_isinstance (pa_cons (pv 0) (pa_cons (pe_glob (v := .ref CC) (by rfl) T.gC rfl) pa_nil))))) (pw_or1 (pt_cmpR op_ne (pe_callB (My.call_repr hgd hr) (by rfl) T.z_repr boot_repr (pa_cons (pe_callB (My.call_lenO L_len (hr.mono (by decide)) pass0) (by rfl) T.z_len PySem.boot_len (pa_cons (pv 0) pa_nil)) pa_nil)) (pe_callB (My.call_repr hgd hr) (by rfl) T.z_repr boot_repr (pa_cons (pe_callB call_len (by rfl) T.z_len PySem.boot_len (pa_cons (pv 1) pa_nil)) pa_nil)) (nomark _))))) (pss_one (ps_ret pe_bl)) pss_nil)
      (pss_cons (ps_if (pt_cmpR (op_neD hr.units) (My.pe_lcG (own := [("_law_one", 2)]) rfl sc_lis.nd (My.pig_m0 G_each rfl T.clC (hr.mono (by decide)) (pv 0)) (blkOk_by (by show blkC ["_law_clip_here", "_law_row_here", "_law_one"] (defScope s_lis) _ _ = true; decide +kernel)) (by decide +kernel) (fun _ _ _ _ _ => (pg_name (i := 2) sc_lis.nd rfl (Or.inl rfl))) (fun _ _ _ _ _ => (pts_one (pt_not (pt_val (pe_callB (My.call_isiB (K := K) rfl) (by rfl) T.z_isinstance boot_isinstance (pa_cons (pv 2) (pa_cons (pe_glob (v := .ref CR) (by rfl) T.gR rfl) pa_nil))))))) (fun _ _ _ _ _ => (pv 2))) (pe_lst pa_nil) (nomark _)) (pss_one (ps_ret pe_bl)) pss_nil)
      (pss_one (ps_ret (pe_cmpR op_eq (pe_callB (My.call_repr hgd hr) (by rfl) T.z_repr boot_repr (pa_cons (My.pe_d D_pairs (hr.mono (by decide)) (by rfl) pass0 (pa_cons (pv 0) pa_nil)) pa_nil)) (pe_callB (My.call_repr hgd hr) (by rfl) T.z_repr boot_repr (pa_cons (pv 1) pa_nil)) (nomark _)))))), ?_⟩
    obtain ⟨n1, n2, n3, n4⟩ := nat_show (K := K) (H := H) l2
    have el : (ps.map V.ref).length = rs.length := by rw [List.length_map, R.len]
    refine ⟨_, rfl, .ref p, .ref CC, _, _, true, rfl, .own _, T.ownC.ty e, T.ownC.me, _, rfl, ?_⟩
    refine iteF ?_
    refine ⟨_, rfl, p, dx, _, rfl, e, p, t, zs, rs, rfl, ⟨⟨dx, e⟩, e2, r, l2⟩, _, rfl, by omega, by omega, _, .int rs.length, rfl, n1, n2, n3, n4, _, rfl, .ref l, _, rfl, .inl ⟨_, SqL.of R.l, rfl⟩, _, .int rs.length, by rw [el], n1, n2, n3, n4, rfl, _, rfl, ?_⟩
    rw [decide_eq_true (rfl : V.str (PyData.int rs.length).shown = V.str (PyData.int rs.length).shown)]
    refine iteF ?_
    refine ⟨_, rfl, p, dx, _, rfl, e, cfs_no t (by decide), _, ⟨p, dx, t, zs, rfl, rfl⟩, fun D hD => ?_⟩
    refine lcG_it walk_tupG (fun i Hh => Hh D = some (.lst []) ∧ Same H Hh) ⟨upd_same, same_new hD⟩ (fun i Hh _ hh => ⟨hh.2 _ _ e, hh.2 _ _ e2⟩) ?_ ?_
    · rintro i v Hh H2 hi ⟨g1, s1⟩ ⟨rfl, hv⟩
      obtain ⟨q, rv, rfl, hr', lr⟩ := r.get hv
      obtain ⟨dq, eq⟩ := lr.same s1
      refine ⟨rfl, _, rfl, .ref q, .ref CR, _, _, true, rfl, .own _, T.own.ty eq, T.own.me, _, rfl, ?_⟩
      exact iteF ⟨g1, s1⟩
    · rintro H2 ⟨g1, s1⟩
      refine ⟨(by show 0 ≤ sizeLine; decide), fun q hq => ?_⟩
      have s2 := s1.trans (same_new (o := .lst []) hq)
      refine ⟨_, _, nil_dp (same_new hq _ _ g1), nil_dp upd_same, nil_shaped, nil_shaped, _, rfl, iteF ?_⟩
      refine ⟨_, rfl, p, rs, rfl, ⟨t, zs, ⟨dx, s2 _ _ e⟩, s2 _ _ e2, r.same s2, l2⟩, fun l3 ps3 H4 hl R3 s4 => ?_⟩
      obtain ⟨i1, i2, i3, i4⟩ := R3.show (K := K) ok ln
      obtain ⟨j1, j2, j3, j4⟩ := (R.same (s2.trans s4)).show (K := K) ok ln
      refine ⟨_, _, rfl, i1, i2, i3, i4, _, rfl, _, _, rfl, j1, j2, j3, j4, rfl, ?_⟩
      rw [decide_eq_true (rfl : V.str (PyData.list (tupsD (two rs))).shown = V.str (PyData.list (tupsD (two rs))).shown)]
      exact k _ (s2.trans s4)
end
end My
set_option pp.maxSteps 1500
set_option pp.deepTerms.threshold 8
/-! ### a text is read as it must be -/
namespace My
open PySem PySem.Spec PyProof.Rows L2 TX
abbrev s_readR : Stmt := topS 52
theorem sc_readR : FnScope ["_law_text_here", "_law_heard", "_law_due_here", "_law_words", "_law_row_here", "_law_one"] ["_law_text_here"] (defScope s_readR) := ⟨rfl, rfl, rfl, by decide +kernel, rfl, by decide +kernel, by decide +kernel⟩
def RowOf (x : Str) (rs : List (Int × Int)) : Prop := ((wsOf x)[0]? = some ("empty" : Str) ∧ rs = []) ∨ ((wsOf x)[0]? ≠ some ("empty" : Str) ∧ (wsOf x).map wR = rs.map some ∧ (∀ r ∈ rs, OkR r) ∧ rs.length ≤ 2000)
theorem rd_of {CC CR CT : Addr} {x : Str} {H : Hp} {Q : VK} {E : XK} (l1 : x.length ≤ 20000) (l2 : ∀ w ∈ wsOf x, w.length ≤ 5000) (hA : ∀ i : Nat, dueP x = some i → ErrU E CT 0 (i : Int) H)
    (hB : dueP x = none → ∀ rs, RowOf x rs → ∀ c H', ClipAt CC CR H' c rs → H c = none → Same H H' → Q (.ref c) H') : RdC CC CR CT (.str x) H Q E := by
  refine ⟨fun z => absurd rfl (z x), fun x' e => ?_⟩
  cases e
  refine ⟨l1, l2, fun h0 => ⟨fun h1 => ?_, fun h1 c H' pc nc s => ?_⟩, fun h0 => ⟨fun i w i2 hw hb hn => ?_, fun hl rs hm hw hs c H' pc nc s => ?_⟩⟩
  · exact hA 1 (by unfold dueP; rw [if_pos h0, if_pos h1])
  · exact hB (by unfold dueP; rw [if_pos h0, if_neg (by omega)]) [] (.inl ⟨h0, rfl⟩) c H' pc nc s
  · refine hA i ?_
    unfold dueP
    rw [if_neg h0]
    have bi : badB (wsOf x) i = true := by
      unfold badB
      rcases hb with rfl | hb
      · rw [decide_eq_true rfl, Bool.true_or]
      · rw [hw]
        show (_ || (wR w).isNone) = true
        rw [hb]
        exact Bool.or_true _
    cases g : (badL (wsOf x)).head? with
    | none =>
      obtain ⟨g1, g2⟩ := none_bad g
      rcases hb with rfl | hb
      · have := (List.getElem?_eq_some_iff.mp hw).1
        omega
      · exact absurd hb (g2 w (List.mem_of_getElem? hw))
    | some j =>
      obtain ⟨g1, g2, g3⟩ := head_bad g
      rcases Nat.lt_trichotomy i j with h | h | h
      · rw [g3 i h] at bi
        cases bi
      · rw [h]
      · exfalso
        obtain ⟨u, hu⟩ : ∃ u, (wsOf x)[j]? = some u := ⟨_, List.getElem?_eq_getElem g1⟩
        have := hn j u h hu
        unfold badB at g2
        rw [hu, decide_eq_false (show ¬ j = 2000 by omega)] at g2
        have g2 : (wR u).isNone = true := g2
        exact this (Option.isNone_iff_eq_none.mp g2)
  · have lr : rs.length = (wsOf x).length := by
      have := congrArg List.length hm
      rw [List.length_map, List.length_map] at this
      exact this.symm
    refine hB ?_ rs (.inr ⟨h0, hm, fun r hr => ⟨hw r hr, hs r hr⟩, by omega⟩) c H' pc nc s
    unfold dueP
    rw [if_neg h0]
    cases g : (badL (wsOf x)).head? with
    | none => rfl
    | some j =>
      exfalso
      obtain ⟨g1, g2, _⟩ := head_bad g
      obtain ⟨u, hu⟩ : ∃ u, (wsOf x)[j]? = some u := ⟨_, List.getElem?_eq_getElem g1⟩
      unfold badB at g2
      rw [hu, decide_eq_false (show ¬ j = 2000 by omega)] at g2
      have g2 : (wR u).isNone = true := g2
      have e3 := congrArg (fun l => l[j]?) hm
      have e3 : ((wsOf x).map wR)[j]? = (rs.map some)[j]? := e3
      rw [List.getElem?_map, hu, List.getElem?_map] at e3
      have e3 : some (wR u) = (rs[j]?).map some := e3
      rw [Option.isNone_iff_eq_none.mp g2] at e3
      cases h : rs[j]? with
      | none => rw [h] at e3; cases e3
      | some y => rw [h] at e3; cases e3
theorem due_lt {x : Str} {i : Nat} (h : dueP x = some i) : i ≤ x.length := by
  have wn : (wsOf x).length ≤ x.length + 1 := by
    obtain ⟨h, _, _⟩ := split1_len (x := x) (y := " ") (s := 32) (by decide +kernel) (by decide +kernel)
    exact h
  unfold dueP at h
  split at h
  · split at h
    · cases h
      omega
    · cases h
  · have := (head_bad h).1
    omega
theorem werr_text {P : Program} {K : PySem.W.Frag} {mg : Str → Option Value} {CE CS CP CL B3 B4 CM B6 B7 CT fT : Addr} {H : Hp} {a b : Int} {Q : VK} (T : Sup.Err2 P K mg "BadText" "line" "word" CT fT) (kd : Kd K CE CS CP CL B3 B4 CM B6 B7 CT CT 8)
    (k : ∀ t H', H' t = some (.tup [.str "text", .int a, .int b]) → Same H H' → H t = none → Q (.ref t) H') : ErrU (WErr K CE CS CP CL B3 B4 CM B6 B7 CT Q) CT a b H := fun d H' hd hx s => by
  refine ⟨CT, d, _, 8, _, rfl, rfl, hx, fun p hp => ?_, kd, ⟨rfl, _, _, rfl, rfl⟩, fun t H2 ht s2 e => k t H2 e (s.trans s2) (none_back s ht)⟩
  rcases List.mem_cons.mp hp with rfl | hp
  · exact T.nf
  · cases List.mem_singleton.mp hp
    exact T.ng
/-- ("text", a, b) shown -/
theorem text_show {K : PySem.W.Frag} {H : Hp} {t : Addr} {a b : Int} (e : H t = some (.tup [.str "text", .int a, .int b])) (ha : a.natAbs.log2 < 1920) (hb : b.natAbs.log2 < 1920) :
    Dr K H (.ref t) (.tuple [.str "text", .int a, .int b]) ∧ (PyData.tuple [.str "text", .int a, .int b]).showable = true ∧ (PyData.tuple [.str "text", .int a, .int b]).depth ≤ 60 ∧ (PyData.tuple [.str "text", .int a, .int b]).shown.length ≤ sizeLine := by
  obtain ⟨_, a2, _, _⟩ := int_show (K := K) (H := H) ha
  obtain ⟨_, b2, _, _⟩ := int_show (K := K) (H := H) hb
  obtain ⟨s1, s2⟩ := shown_sum [a, b] fun z hz => by
    rcases List.mem_cons.mp hz with rfl | hz
    · exact ha
    · cases List.mem_singleton.mp hz
      exact hb
  refine ⟨.inl (.tup (SqT.of e) (.cons (.str _) (.cons (.int _) (.cons (.int _) .nil)))), ?_, ?_, ?_⟩
  · show ((PyData.str "text").showable && ((PyData.int a).showable && ((PyData.int b).showable && true))) = true
    rw [a2, b2, show (PyData.str "text").showable = true by decide +kernel]
    rfl
  · show PyData.depthAll [.str "text", .int a, .int b] + 1 ≤ 60
    exact (by decide : (0 : Nat) + 1 ≤ 60)
  · have h1 := tupleText_len_le (PyData.shownAll [.str "text", .int a, .int b])
    have e4 : ((PyData.str "text").shown).length ≤ 20 := by decide +kernel
    have e5 : ((PyData.shownAll [.str "text", .int a, .int b]).map (·.length)).sum = ((PyData.str "text").shown).length + ((PyData.shownAll ([a, b].map PyData.int)).map (·.length)).sum := rfl
    have e6 : (PyData.shownAll [.str "text", .int a, .int b]).length = 3 := rfl
    have e7 : ([a, b] : List Int).length = 2 := rfl
    show (tupleText (PyData.shownAll [.str "text", .int a, .int b])).length ≤ sizeLine
    rw [sizeLine_eq]
    omega
theorem extn_trans {H H1 H2 : Hp} (a : LamX.ExtN H H1) (b : LamX.ExtN H1 H2) : LamX.ExtN H H2 := fun p o e n => b p o (a p o e n) n
theorem extn_same {H H1 : Hp} (s : Same H H1) : LamX.ExtN H H1 := fun p o e _ => s p o e
def spReadR (TS : List (Addr × Str)) : Sp := fun vs H Q _ => ∃ x : Str, vs = [.str x] ∧ x.length ≤ 20000 ∧ (∀ w ∈ wsOf x, w.length ≤ 5000) ∧ LamX.Tabs TS H ∧ ∀ H', LamX.ExtN H H' → LamX.Tabs TS H' → Q (.bl true) H'
section
variable {P : Program} {w : World} {K : PySem.W.Frag} {mg : Str → Option Value} {base : Heap} {Cs : List Addr} {CR CC CL fL CP fP CS fS CM fM CT fT CE B3 B4 B6 B7 : Addr} {tM tE : Tok}
theorem ok_readR {f c tb : Addr} {fd : FuncData} {TS : List (Addr × Str)} (F : FunC K "_law_read_right" "_law_read_right" s_readR f fd c) (T : ZTx P K mg Cs CR CC CL fL CP fP CS fS CM fM CT fT tM tE) (TH : ETx K mg CE CS CP CL B3 B4 CM B6 B7 CT) (DH : ErrAt K mg) (D_fields : DefAt P w K mg base CX0 1 "_law_fields" ["_law_caught", "_law_which"] (spFields K))
    (kT : Kd K CE CS CP CL B3 B4 CM B6 B7 CT CT 8)
    (TB : LamX.TabB base mg c tb) (hmT : (tb, (("_law_read_right" : Str) ++ ".<locals>.") ++ "<lambda>") ∈ TS) (hu : ∀ p ∈ TS, p.1 = tb → p.2 = (("_law_read_right" : Str) ++ ".<locals>.") ++ "<lambda>")
    (K_cread : ClsAt P w K mg base (L2.CX P w) 10 CC "read" (spCread Cs CC CR CT)) (D_ldue : DefAt P w K mg base CX0 3 "_law_due" ["_law_text_here"] spLdue) (D_lread : DefAt P w K mg base CX0 2 "_law_read" ["_law_word_here"] spLread) (D_lis : DefG P w K mg base CX0 5 "_law_is" ["_law_clip_here", "_law_row_here"] (spLis CC CR)) :
    FnG P w K mg base CX0 14 f fd ["_law_text_here"] (spReadR TS) := by
  refine okGc F sc_readR (fun vs H Q E h => ?_) (fun A outer s H vs Q E hgd hr h => ?_)
  · obtain ⟨x, rfl, _⟩ := h
    rfl
  · obtain ⟨x, rfl, l1, l2, ht, k⟩ := h
    refine ⟨_, (pss_cons (ps_par (i := 1) (j := 2) (by rfl) sc_readR.nd rfl rfl (by decide) rfl rfl (pa_cons (My.pe_errors (k := 10) DH TH D_fields hgd (hr.mono (by decide)) TB rfl hmT hu (by rfl) (LamX.lamS_by (by show LamX.lamSB (defScope s_readR) _ = true; decide +kernel)) rfl (fun _ _ _ _ _ => rfl) (fun A outer s H E f c hrl => (My.pe_cm K_cread (hrl.mono (by decide)) (passes_call (takes_of rfl rfl rfl rfl) (fun _ _ _ _ h => h)) (pe_glob (v := .ref CC) (by rfl) T.gC rfl) (pa_cons (pv 0) pa_nil)))) (pa_cons (My.pe_d D_ldue (hr.mono (by decide)) (by rfl) pass0 (pa_cons (pv 0) pa_nil)) pa_nil)) (by rfl))
      (pss_cons (ps_if (pt_cmpR op_notN (pv 2) pe_non (nomark _)) (pss_one (ps_ret (pe_cmpR op_eq (pe_callB (My.call_repr hgd hr) (by rfl) T.z_repr boot_repr (pa_cons (pv 1) pa_nil)) (pe_callB (My.call_repr hgd hr) (by rfl) T.z_repr boot_repr (pa_cons (pe_tup (pa_cons pe_str (pa_cons pe_int (pa_cons (pv 2) pa_nil)))) pa_nil)) (nomark _)))) pss_nil)
      (pss_cons (ps_set (i := 3) sc_readR.nd rfl (Or.inl rfl) (pe_split (pv 0) pe_str))
      (pss_cons (ps_set (i := 4) sc_readR.nd rfl (Or.inl rfl) (pe_ifExp (pt_cmpR op_eq (pe_ix ix_list (pv 3) pe_int (fun _ _ => rfl)) pe_str (nomark _)) (pe_lst pa_nil) (pe_lc (own := [("_law_one", 5)]) rfl sc_readR.nd (pi_list (pv 3)) (blkOk_by (by show blkC ["_law_text_here", "_law_heard", "_law_due_here", "_law_words", "_law_row_here", "_law_one"] (defScope s_readR) _ _ = true; decide +kernel)) (fun _ _ _ _ _ => (pg_name (i := 5) sc_readR.nd rfl (Or.inl rfl))) (fun _ _ _ _ _ => pts_nil) (fun _ _ _ _ _ => (My.pe_d D_lread (hr.mono (by decide)) (by rfl) pass0 (pa_cons (pv 5) pa_nil))))))
      (pss_one (ps_ret (pe_and (pe_callB call_isi (by rfl) T.z_isinstance boot_isinstance (pa_cons (pv 1) (pa_cons (pe_bltn (v := .ty "list") (by rfl) T.z_list boot_list rfl) pa_nil))) (pe_one (My.pe_dG D_lis hgd (hr.mono (by decide)) (by rfl) pass0 (pa_cons (pe_ix ix_list (pv 1) pe_int (fun _ _ => rfl)) (pa_cons (pv 4) pa_nil))))))))))), ?_⟩
    refine ⟨ht, fun H1 x1 ht1 => ⟨rfl, _, rfl, .str x, rfl, .inl ⟨_, .str x⟩, rd_of l1 l2 (fun i hd => werr_text T.e_BadText kT fun t H2 e2 s2 n2 => ?_) (fun hd rs hrow c H2 pc nc s2 => ?_)⟩⟩
    · refine ⟨_, rfl, x, rfl, l1, l2, fun dv H3 du s3 => ⟨_, _, rfl, ?_⟩⟩
      rw [hd] at du
      cases du
      have ii := due_lt hd
      have e3 := s3 _ _ e2
      have lg : ∀ z : Int, 0 ≤ z → z ≤ 20000 → z.natAbs.log2 < 1920 := fun z z0 z1 => Nat.lt_of_lt_of_le (PySem.Flt.log2_lt_of (k := 40) (by decide) (by omega)) (by decide)
      have la := lg 0 (by decide) (by decide)
      have lb := lg (i : Int) (by omega) (by omega)
      refine ⟨_, rfl, rfl, _, rfl, iteT ?_⟩
      obtain ⟨i1, i2, i3, i4⟩ := text_show (K := K) e3 la lb
      refine ⟨_, rfl, _, _, rfl, i1, i2, i3, i4, _, rfl, (by show 3 ≤ sizeLine; decide), fun t2 ht2 => ?_⟩
      have s4 := same_new (o := .tup [.str "text", .int 0, .int (i : Int)]) ht2
      obtain ⟨j1, j2, j3, j4⟩ := text_show (K := K) (H := upd H3 t2 (.tup [.str "text", .int 0, .int (i : Int)])) (t := t2) upd_same la lb
      refine ⟨_, _, rfl, j1, j2, j3, j4, rfl, ?_⟩
      rw [decide_eq_true (rfl : V.str (PyData.tuple [.str "text", .int 0, .int (i : Int)]).shown = V.str (PyData.tuple [.str "text", .int 0, .int (i : Int)]).shown)]
      have st := (s2.trans s3).trans s4
      exact k _ (extn_trans x1 (extn_same st)) (tabs_same ht1 st)
    · refine ⟨(by show 1 ≤ sizeLine; decide), fun l hl => ?_⟩
      have s3 := same_new (o := .lst [.ref c]) hl
      have e3 : upd H2 l (.lst [.ref c]) l = some (.lst [.ref c]) := upd_same
      generalize upd H2 l (.lst [.ref c]) = H3 at s3 e3 ⊢
      refine ⟨_, rfl, x, rfl, l1, l2, fun dv H4 du s4 => ⟨_, _, rfl, ?_⟩⟩
      rw [hd] at du
      cases du
      refine ⟨_, rfl, rfl, _, rfl, iteF ?_⟩
      refine ⟨_, rfl, ⟨_, rfl⟩, x, " ", rfl, rfl, by decide +kernel, (by rw [sizeLine_eq]; omega), fun lw hlw => ?_⟩
      rw [show Txt.split x " " = wsOf x from rfl]
      have s5 := same_new (o := .lst ((wsOf x).map V.str)) hlw
      have e5 : upd H4 lw (.lst ((wsOf x).map V.str)) lw = some (.lst ((wsOf x).map V.str)) := upd_same
      generalize upd H4 lw (.lst ((wsOf x).map V.str)) = H5 at s5 e5 ⊢
      have S25 := (s3.trans s4).trans s5
      have L5 := s5 _ _ (s4 _ _ e3)
      have P5 := pc.same S25
      obtain ⟨w0, wr, ew⟩ : ∃ w0 wr, wsOf x = w0 :: wr := by
        obtain ⟨w, ws, e⟩ := split1_ne (x := x) (y := " ") (s := 32) (by decide +kernel) (by decide +kernel)
        cases g : wsOf x with
        | nil =>
          have g : Txt.split x " " = [] := g
          rw [g] at e
          cases e
        | cons a b => exact ⟨a, b, rfl⟩
      have hat : atI ((wsOf x).map V.str) (0 : Int) = some (.str w0) := by
        rw [ew]
        exact at0
      refine ⟨_, rfl, lw, _, _, _, rfl, rfl, SqL.of e5, hat, rfl, _, rfl, ?_⟩
      have e0 : (wsOf x)[0]? = some w0 := by rw [ew] <;> rfl
      unfold RowOf at hrow
      rw [e0] at hrow
      rcases hrow with ⟨h0, rfl⟩ | ⟨h0, hm, hok, hlen⟩
      · rw [Option.some.inj h0, decide_eq_true rfl]
        refine iteT ⟨(by show 0 ≤ sizeLine; decide), fun lr hlr => ?_⟩
        have s6 := same_new (o := .lst []) hlr
        have L6 := s6 _ _ L5
        refine ⟨_, rfl, .ref l, .ty "list", _, _, true, rfl, .ty _, (Ty0.lst L6).tyx, kit_ty (by decide +kernel), _, rfl, iteT ⟨_, rfl, l, _, _, _, rfl, rfl, SqL.of L6, rfl, _, rfl, c, lr, [], [], rfl, P5.same s6, RowK.nil upd_same, (fun _ z => nomatch z), by decide, fun H7 s7 => ?_⟩⟩
        have st := (s2.trans S25).trans (s6.trans s7)
        exact k _ (extn_trans x1 (extn_same st)) (tabs_same ht1 st)
      · rw [decide_eq_false (show ¬ V.str w0 = V.str ("empty" : Str) from fun z => h0 (congrArg some (V.str.inj z)))]
        refine iteF ⟨_, rfl, lw, rfl, ⟨_, SqL.of e5⟩, fun D hD => ?_⟩
        have lrs : rs.length = (wsOf x).length := by
          have := congrArg List.length hm
          rw [List.length_map, List.length_map] at this
          exact this.symm
        refine lc_it walk_list (fun i Hh => ∃ ps, RowK Hh D ps (rs.take i) ∧ Same H5 Hh) ⟨[], RowK.nil upd_same, same_new hD⟩ (fun i Hh _ hh => by obtain ⟨_, _, s⟩ := hh; exact SqL.of (s _ _ e5)) ?_ ?_
        · rintro i v Ha Hb hi ⟨ps, g1, g2⟩ ⟨rfl, hv⟩
          rw [List.length_map] at hi
          rw [List.getElem?_map] at hv
          obtain ⟨z, hz, rfl⟩ : ∃ z, (wsOf x)[i]? = some z ∧ v = .str z := by
            cases e : (wsOf x)[i]? with
            | none => rw [e] at hv; cases hv
            | some z => rw [e] at hv; cases hv; exact ⟨z, rfl, rfl⟩
          obtain ⟨r, hr⟩ : ∃ r, rs[i]? = some r := ⟨_, List.getElem?_eq_getElem (by omega)⟩
          have er : wR z = some r := by
            have e3 := congrArg (fun l => l[i]?) hm
            have e3 : ((wsOf x).map wR)[i]? = (rs.map some)[i]? := e3
            rw [List.getElem?_map, hz, List.getElem?_map, hr] at e3
            exact Option.some.inj e3
          refine ⟨rfl, yes_go ⟨_, rfl, z, rfl, l2 z (List.mem_of_getElem? hz), fun v Hc fv sc => ?_⟩⟩
          rw [er] at fv
          obtain ⟨t, rfl, _, tp⟩ := fv
          have g3 := g1.same sc
          refine ⟨_, g3.l, ?_, ps ++ [t], ?_, fun b o e => ?_⟩
          · rw [List.length_map, g3.len, List.length_take, sizeLine_eq]
            omega
          · rw [List.take_add_one, hr]
            exact g3.snoc tp
          · rw [upd_ne (ne_of_none e hD)]
            exact sc _ _ (g2 _ _ e)
        rintro H6 ⟨ps, g1, g2⟩
        rw [List.length_map, ← lrs, List.take_length] at g1
        have L6 := g2 _ _ L5
        refine ⟨_, rfl, .ref l, .ty "list", _, _, true, rfl, .ty _, (Ty0.lst L6).tyx, kit_ty (by decide +kernel), _, rfl, iteT ⟨_, rfl, l, _, _, _, rfl, rfl, SqL.of L6, rfl, _, rfl, c, D, ps, rs, rfl, P5.same g2, g1, hok, hlen, fun H7 s7 => ?_⟩⟩
        have st := (s2.trans S25).trans (g2.trans s7)
        exact k _ (extn_trans x1 (extn_same st)) (tabs_same ht1 st)
end
end My
set_option pp.maxSteps 1500
set_option pp.deepTerms.threshold 8
/-! ### texts of 2,000 words -/
namespace My
open PySem PySem.Spec PyProof.Rows L2 TX
abbrev s_longR : Stmt := topS 53
theorem sc_longR : FnScope ["_law_pen_here", "_law_long"] ["_law_pen_here"] (defScope s_longR) := ⟨rfl, rfl, rfl, by decide +kernel, rfl, by decide +kernel, by decide +kernel⟩
/-- a figure as a word -/
def Dig1 (p : List Nat) : Prop := p = [48] ∨ p = [49] ∨ p = [55]
theorem Dig1.rd {p : List Nat} (h : Dig1 p) : RT.readR p ≠ none ∧ (32 : Nat) ∉ p ∧ p.length = 1 ∧ p ≠ TL.tl ("empty" : Str) := by
  rcases h with rfl | rfl | rfl
  · exact ⟨by decide +kernel, by decide, rfl, by decide +kernel⟩
  · exact ⟨by decide +kernel, by decide, rfl, by decide +kernel⟩
  · exact ⟨by decide +kernel, by decide, rfl, by decide +kernel⟩
/-- words as lists of signs -/
theorem ws_facts {x : Str} {ps : List (List Nat)} (h : TL.tl x = TL.joinL [32] ps) (hne : ps ≠ []) (hf : ∀ p ∈ ps, (32 : Nat) ∉ p) : (wsOf x).map TL.tl = ps := words_of h hne hf
theorem ws_bad {x : Str} {ps : List (List Nat)} (h : (wsOf x).map TL.tl = ps) (j : Nat) : badB (wsOf x) j = (decide (j = 2000) || (match ps[j]? with | some p => (RT.readR p).isNone | none => false)) := by
  unfold badB
  subst h
  rw [List.getElem?_map]
  cases (wsOf x)[j]? with
  | none => rfl
  | some w => rfl
theorem due_of {x : Str} {ps : List (List Nat)} (h : (wsOf x).map TL.tl = ps) (h0 : ps[0]? ≠ some (TL.tl ("empty" : Str))) : dueP x = (badL (wsOf x)).head? := by
  unfold dueP
  rw [if_neg]
  intro z
  refine h0 ?_
  subst h
  rw [List.getElem?_map, z]
  rfl
theorem ws_len {x : Str} {ps : List (List Nat)} (h : (wsOf x).map TL.tl = ps) (hp : ∀ p ∈ ps, p.length ≤ 10) : ∀ w ∈ wsOf x, w.length ≤ 5000 := fun w hw => by
  have := hp (TL.tl w) (by rw [← h]; exact List.mem_map.mpr ⟨w, hw, rfl⟩)
  rw [TL.len_tl]
  omega
theorem join_app (s : Nat) (q : List Nat) : ∀ ps : List (List Nat), ps ≠ [] → TL.joinL [s] (ps ++ [q]) = TL.joinL [s] ps ++ ([s] ++ q)
  | [], h => absurd rfl h
  | [p], _ => rfl
  | p :: a :: r, _ => by
    have := join_app s q (a :: r) (fun z => nomatch z)
    show p ++ ([s] ++ TL.joinL [s] ((a :: r) ++ [q])) = (p ++ ([s] ++ TL.joinL [s] (a :: r))) ++ ([s] ++ q)
    rw [this]
    simp only [List.append_assoc]
theorem rep_ne {p : List Nat} : List.replicate 2000 p ≠ [] := by
  intro z
  have := congrArg List.length z
  rw [List.length_replicate] at this
  cases this
theorem join_rep {p : List Nat} (h : p.length = 1) : (TL.joinL [32] (List.replicate 2000 p)).length = 3999 := by
  have := joinL_eq 32 (List.replicate 2000 p) rep_ne
  rw [List.map_replicate, List.sum_replicate_nat, h] at this
  omega
structure Long (x : Str) (p : List Nat) : Prop where
  d : Dig1 p
  e : TL.tl x = TL.joinL [32] (List.replicate 2000 p)
theorem Long.len {x : Str} {p : List Nat} (h : Long x p) : x.length = 3999 := by
  rw [TL.len_tl, h.e]
  exact join_rep h.d.rd.2.2.1
theorem Long.w0 {x : Str} {p : List Nat} (h : Long x p) : (wsOf x).map TL.tl = List.replicate 2000 p := ws_facts h.e rep_ne fun q hq => by rw [List.eq_of_mem_replicate hq]; exact h.d.rd.2.1
theorem Long.w1 {x : Str} {p : List Nat} (h : Long x p) : (wsOf (x ++ " 1")).map TL.tl = List.replicate 2000 p ++ [[49]] := by
  have e1 : TL.tl (" 1" : Str) = [32] ++ [49] := by decide +kernel
  refine ws_facts ?_ (by simp) fun q hq => ?_
  · rw [TL.tl_append, h.e, e1, join_app 32 [49] _ rep_ne]
  · rcases List.mem_append.mp hq with hq | hq
    · rw [List.eq_of_mem_replicate hq]
      exact h.d.rd.2.1
    · rw [List.mem_singleton.mp hq]
      decide
theorem Long.w2 {x : Str} {p : List Nat} (h : Long x p) : (wsOf ("x " ++ x)).map TL.tl = [120] :: List.replicate 2000 p := by
  have e1 : TL.tl ("x " : Str) = [120] ++ [32] := by decide +kernel
  refine ws_facts ?_ (by simp) fun q hq => ?_
  · rw [TL.tl_append, h.e, e1, List.append_assoc]
    rfl
  · rcases List.mem_cons.mp hq with rfl | hq
    · decide
    · rw [List.eq_of_mem_replicate hq]
      exact h.d.rd.2.1
theorem Long.rd0 {CC CR CT : Addr} {x : Str} {p : List Nat} (h : Long x p) {H : Hp} {Q : VK} {E : XK} (k : ∀ rs : List (Int × Int), rs.length = 2000 → ∀ c H', ClipAt CC CR H' c rs → Same H H' → Q (.ref c) H') : RdC CC CR CT (.str x) H Q E := by
  have l := h.len
  have w := h.w0
  have n0 : (List.replicate 2000 p)[0]? ≠ some (TL.tl ("empty" : Str)) := fun z => by
    rw [List.getElem?_replicate, if_pos (by decide)] at z
    exact h.d.rd.2.2.2 (Option.some.inj z)
  have lw : (wsOf x).length = 2000 := by
    have := congrArg List.length w
    rw [List.length_map, List.length_replicate] at this
    exact this
  refine rd_of (by omega) (ws_len w fun q hq => by rw [List.eq_of_mem_replicate hq]; have := h.d.rd.2.2.1; omega) (fun i hi => ?_) fun _ rs hr c H' pc _ s => ?_
  · exfalso
    rw [due_of w n0] at hi
    obtain ⟨g1, g2, _⟩ := head_bad hi
    rw [ws_bad w, decide_eq_false (show ¬ i = 2000 by omega), List.getElem?_replicate, if_pos (by omega)] at g2
    have g2 : (RT.readR p).isNone = true := g2
    exact h.d.rd.1 (Option.isNone_iff_eq_none.mp g2)
  · refine k rs ?_ c H' pc s
    rcases hr with ⟨z, _⟩ | ⟨_, hm, _, _⟩
    · exfalso
      refine n0 ?_
      rw [← w, List.getElem?_map, z]
      rfl
    · have := congrArg List.length hm
      rw [List.length_map, List.length_map] at this
      omega
theorem Long.rd1 {CC CR CT : Addr} {x : Str} {p : List Nat} (h : Long x p) {H : Hp} {Q : VK} {E : XK} (k : ErrU E CT 0 2000 H) : RdC CC CR CT (.str (x ++ " 1")) H Q E := by
  have l := h.len
  have w := h.w1
  have e2 : (" 1" : Str).length = 2 := rfl
  have n0 : (List.replicate 2000 p ++ [[49]])[0]? ≠ some (TL.tl ("empty" : Str)) := fun z => by
    rw [List.getElem?_append_left (by rw [List.length_replicate]; decide), List.getElem?_replicate, if_pos (by decide)] at z
    exact h.d.rd.2.2.2 (Option.some.inj z)
  have lw : (wsOf (x ++ " 1")).length = 2001 := by
    have := congrArg List.length w
    rw [List.length_map, List.length_append, List.length_replicate] at this
    exact this
  refine rd_of (by rw [app_len]; omega) (ws_len w fun q hq => ?_) (fun i hi => ?_) fun hn rs hr c H' pc _ s => ?_
  · rcases List.mem_append.mp hq with hq | hq
    · rw [List.eq_of_mem_replicate hq]
      have := h.d.rd.2.2.1
      omega
    · rw [List.mem_singleton.mp hq]
      decide
  · rw [due_of w n0] at hi
    obtain ⟨g1, g2, g3⟩ := head_bad hi
    have : i = 2000 := by
      rcases Nat.lt_trichotomy i 2000 with z | z | z
      · exfalso
        rw [ws_bad w, decide_eq_false (show ¬ i = 2000 by omega), List.getElem?_append_left (by rw [List.length_replicate]; exact z), List.getElem?_replicate, if_pos z] at g2
        have g2 : (RT.readR p).isNone = true := g2
        exact h.d.rd.1 (Option.isNone_iff_eq_none.mp g2)
      · exact z
      · have := g3 2000 z
        rw [ws_bad w, decide_eq_true rfl, Bool.true_or] at this
        cases this
    rw [this]
    exact k
  · exfalso
    rw [due_of w n0] at hn
    have := (none_bad hn).1
    omega
theorem Long.rd2 {CC CR CT : Addr} {x : Str} {p : List Nat} (h : Long x p) {H : Hp} {Q : VK} {E : XK} (k : ErrU E CT 0 0 H) : RdC CC CR CT (.str ("x " ++ x)) H Q E := by
  have l := h.len
  have w := h.w2
  have e2 : ("x " : Str).length = 2 := rfl
  have n0 : ([120] :: List.replicate 2000 p)[0]? ≠ some (TL.tl ("empty" : Str)) := fun z => absurd (Option.some.inj z) (by decide +kernel)
  have b0 : badB (wsOf ("x " ++ x)) 0 = true := by
    rw [ws_bad w]
    show (decide ((0 : Nat) = 2000) || (RT.readR [120]).isNone) = true
    decide +kernel
  refine rd_of (by rw [app_len]; omega) (ws_len w fun q hq => ?_) (fun i hi => ?_) fun hn rs hr c H' pc _ s => ?_
  · rcases List.mem_cons.mp hq with rfl | hq
    · decide
    · rw [List.eq_of_mem_replicate hq]
      have := h.d.rd.2.2.1
      omega
  · rw [due_of w n0] at hi
    obtain ⟨g1, g2, g3⟩ := head_bad hi
    have : i = 0 := by
      rcases Nat.eq_zero_or_pos i with z | z
      · exact z
      · have := g3 0 z
        rw [b0] at this
        cases this
    rw [this]
    exact k
  · exfalso
    rw [due_of w n0] at hn
    have := (none_bad hn).1
    have lw := congrArg List.length w
    rw [List.length_map, List.length_cons, List.length_replicate] at lw
    omega
theorem long_of {z : Str} (h : Dig1 (TL.tl z)) : Long (Txt.join " " (List.replicate 2000 z)) (TL.tl z) := by
  have ey : TL.tl (" " : Str) = [32] := by decide +kernel
  refine ⟨h, ?_⟩
  rw [TL.join_eq, TL.tl_join, ey, List.map_replicate]
def spLongR (TS : List (Addr × Str)) : Sp := fun vs H Q _ => ∃ (pn cl : Addr) (n : Nat), vs = [.ref pn] ∧ PenC H pn cl n ∧ n < 80000 ∧ LamX.Tabs TS H ∧ ∀ H', LamX.Tabs TS H' → Q (.bl true) H'
section
variable {P : Program} {w : World} {K : PySem.W.Frag} {mg : Str → Option Value} {base : Heap} {Cs : List Addr} {CR CC CL fL CP fP CS fS CM fM CT fT CE B3 B4 B6 B7 : Addr} {tM tE : Tok}
theorem ok_longR {f c tb : Addr} {fd : FuncData} {TS : List (Addr × Str)} (F : FunC K "_law_long_right" "_law_long_right" s_longR f fd c) (T : ZTx P K mg Cs CR CC CL fL CP fP CS fS CM fM CT fT tM tE) (TH : ETx K mg CE CS CP CL B3 B4 CM B6 B7 CT) (DH : ErrAt K mg) (D_fields : DefAt P w K mg base CX0 1 "_law_fields" ["_law_caught", "_law_which"] (spFields K))
    (kT : Kd K CE CS CP CL B3 B4 CM B6 B7 CT CT 8)
    (TB : LamX.TabB base mg c tb) (hmT : (tb, (("_law_long_right" : Str) ++ ".<locals>.") ++ "<lambda>") ∈ TS) (hu : ∀ p ∈ TS, p.1 = tb → p.2 = (("_law_long_right" : Str) ++ ".<locals>.") ++ "<lambda>")
    (D_pick : DefAt P w K mg base CX0 2 "_law_pick" ["_law_pen_here", "_law_some"] spPickC) (K_cread : ClsAt P w K mg base (L2.CX P w) 10 CC "read" (spCread Cs CC CR CT)) (L_len : CmpAt P w K mg base CX0 1 CC "__len__" ["self"] (spClen CC CR)) :
    FnG P w K mg base CX0 14 f fd ["_law_pen_here"] (spLongR TS) := by
  refine okGc F sc_longR (fun vs H Q E h => ?_) (fun A outer s H vs Q E hgd hr h => ?_)
  · obtain ⟨pn, cl, n, rfl, _⟩ := h
    rfl
  · obtain ⟨pn, cl, n, rfl, hp, hn, ht, k⟩ := h
    refine ⟨_, (pss_cons (ps_set (i := 1) sc_longR.nd rfl (Or.inr rfl) (pe_join pe_str (pe_op op_rep (pe_lst (pa_cons (My.pe_d D_pick (hr.mono (by decide)) (by rfl) pass0 (pa_cons (pv 0) (pa_cons (pe_lst (pa_cons pe_str (pa_cons pe_str (pa_cons pe_str pa_nil)))) pa_nil))) pa_nil)) pe_int)))
      (pss_cons (ps_if (PW.pt (pw_or (pt_cmpR op_ne (pe_callB (My.call_lenO L_len (hr.mono (by decide)) pass0) (by rfl) T.z_len PySem.boot_len (pa_cons (My.pe_cm K_cread (hr.mono (by decide)) passL (pe_glob (v := .ref CC) (by rfl) T.gC rfl) (pa_cons (pv 1) pa_nil)) pa_nil)) pe_int (nomark _)) (pw_or1 (pt_cmpR op_ne (pe_callB (My.call_repr hgd hr) (by rfl) T.z_repr boot_repr (pa_cons (My.pe_errors (k := 10) DH TH D_fields hgd (hr.mono (by decide)) TB rfl hmT hu (by rfl) (LamX.lamS_by (by show LamX.lamSB (defScope s_longR) _ = true; decide +kernel)) rfl (fun _ _ _ _ _ => rfl) (fun A outer s H E f c hrl => (My.pe_cm K_cread (hrl.mono (by decide)) (passes_call (takes_of rfl rfl rfl rfl) (fun _ _ _ _ h => h)) (pe_glob (v := .ref CC) (by rfl) T.gC rfl) (pa_cons (pe_op op_add_str (pv 1) pe_str) pa_nil)))) pa_nil)) (pe_callB (My.call_repr hgd hr) (by rfl) T.z_repr boot_repr (pa_cons (pe_tup (pa_cons pe_str (pa_cons pe_int (pa_cons pe_int pa_nil)))) pa_nil)) (nomark _))))) (pss_one (ps_ret pe_bl)) pss_nil)
      (pss_one (ps_ret (pe_cmpR op_eq (pe_callB (My.call_repr hgd hr) (by rfl) T.z_repr boot_repr (pa_cons (My.pe_errors (k := 10) DH TH D_fields hgd (hr.mono (by decide)) TB rfl hmT hu (by rfl) (LamX.lamS_by (by show LamX.lamSB (defScope s_longR) _ = true; decide +kernel)) rfl (fun _ _ _ _ _ => rfl) (fun A outer s H E f c hrl => (My.pe_cm K_cread (hrl.mono (by decide)) (passes_call (takes_of rfl rfl rfl rfl) (fun _ _ _ _ h => h)) (pe_glob (v := .ref CC) (by rfl) T.gC rfl) (pa_cons (pe_op op_add_str pe_str (pv 1)) pa_nil)))) pa_nil)) (pe_callB (My.call_repr hgd hr) (by rfl) T.z_repr boot_repr (pa_cons (pe_tup (pa_cons pe_str (pa_cons pe_int (pa_cons pe_int pa_nil)))) pa_nil)) (nomark _)))))), ?_⟩
    refine ⟨⟨" ", rfl⟩, _, rfl, (by show 3 ≤ sizeLine; decide), fun l1 h1 => ?_⟩
    have s1 := same_new (o := .lst [.str "0", .str "1", .str "7"]) h1
    refine ⟨pn, cl, l1, n, _, rfl, upd_same, pen_ne hp.pen h1, (by show 0 < 3; decide), (by show 3 ≤ 1000; decide), hp.same s1, by omega, fun v H2 hv p2 u2 => ?_⟩
    have ht2 := keepT_but u2 (hp.same s1) TS (tabs_same ht s1)
    obtain ⟨y, rfl, hy⟩ : ∃ y : Str, v = .str y ∧ Dig1 (TL.tl y) := by
      simp only [List.mem_cons, List.not_mem_nil, or_false] at hv
      rcases hv with rfl | rfl | rfl
      · exact ⟨_, rfl, .inl (by decide +kernel)⟩
      · exact ⟨_, rfl, .inr (.inl (by decide +kernel))⟩
      · exact ⟨_, rfl, .inr (.inr (by decide +kernel))⟩
    have LG := long_of hy
    refine ⟨(by show 1 ≤ sizeLine; decide), fun l2 h2 => ?_⟩
    have s2 := same_new (o := .lst [.str y]) h2
    refine ⟨l2, 2000, _, rfl, rfl, upd_same, by decide, by decide, (by show 1 * 2000 ≤ sizeLine; decide), fun l3 h3 => ?_⟩
    have er : (List.replicate (Int.toNat 2000) [V.str y]).flatten = (List.replicate 2000 y).map V.str := by
      rw [List.map_replicate]
      exact List.flatten_replicate_singleton
    rw [er]
    have s3 := same_new (o := .lst ((List.replicate 2000 y).map V.str)) h3
    have yl : y.length = 1 := by rw [TL.len_tl]; exact hy.rd.2.2.1
    refine ⟨" ", l3, _, rfl, rfl, .inl (SqL.of upd_same), (by
      rw [List.map_replicate, List.sum_replicate_nat, yl, List.length_replicate]
      decide), ?_⟩
    have ht3 := tabs_same ht2 (s2.trans s3)
    generalize upd (upd H2 l2 (.lst [.str y])) l3 (.lst ((List.replicate 2000 y).map V.str)) = H3 at ht3 ⊢
    clear s1 s2 s3 h1 h2 h3 u2 p2 hv ht2 er
    have ll := LG.len
    generalize Txt.join " " (List.replicate 2000 y) = x at LG ll ⊢
    have lg : ∀ z : Int, 0 ≤ z → z ≤ 20000 → z.natAbs.log2 < 1920 := fun z z0 z1 => Nat.lt_of_lt_of_le (PySem.Flt.log2_lt_of (k := 40) (by decide) (by omega)) (by decide)
    have l0 := lg 0 (by decide) (by decide)
    have l2k := lg 2000 (by decide) (by decide)
    refine ⟨rfl, _, rfl, .str x, rfl, .inl ⟨_, .str x⟩, LG.rd0 fun rs hrs c H4 pc s4 => ?_⟩
    obtain ⟨t, zs, ⟨dx, e⟩, e2, r, lz⟩ := pc
    refine ⟨c, dx, _, rfl, e, c, t, zs, rs, rfl, ⟨⟨dx, e⟩, e2, r, lz⟩, _, rfl, by omega, by omega, ?_⟩
    rw [hrs]
    have ht4 := tabs_same ht3 s4
    refine ⟨rfl, _, rfl, ?_⟩
    rw [show (decide (V.int ((2000 : Nat) : Int) = V.int 2000)) = true from decide_eq_true rfl]
    refine iteF ⟨ht4, fun H5 x5 ht5 => ⟨rfl, _, rfl, _, _, rfl, rfl, (by rw [ll, sizeLine_eq]; decide), _, rfl, .inl ⟨_, .str _⟩, LG.rd1 (werr_text T.e_BadText kT fun t1 H6 g1 s6 n6 => ?_)⟩⟩
    obtain ⟨i1, i2, i3, i4⟩ := text_show (K := K) g1 l0 l2k
    refine ⟨_, _, rfl, i1, i2, i3, i4, (by show 3 ≤ sizeLine; decide), fun t2 ht2 => ?_⟩
    have s7 := same_new (o := .tup [.str "text", .int 0, .int 2000]) ht2
    obtain ⟨j1, j2, j3, j4⟩ := text_show (K := K) (H := upd H6 t2 (.tup [.str "text", .int 0, .int 2000])) (t := t2) upd_same l0 l2k
    refine ⟨_, _, rfl, j1, j2, j3, j4, rfl, _, rfl, ?_⟩
    rw [decide_eq_true (rfl : V.str (PyData.tuple [.str "text", .int 0, .int 2000]).shown = V.str (PyData.tuple [.str "text", .int 0, .int 2000]).shown)]
    have ht7 := tabs_same ht5 (s6.trans s7)
    generalize upd H6 t2 (.tup [.str "text", .int 0, .int 2000]) = H7 at ht7 ⊢
    refine iteF ⟨ht7, fun H8 x8 ht8 => ⟨rfl, _, rfl, _, _, rfl, rfl, (by rw [ll, sizeLine_eq]; decide), _, rfl, .inl ⟨_, .str _⟩, LG.rd2 (werr_text T.e_BadText kT fun t3 H9 g3 s9 n9 => ?_)⟩⟩
    obtain ⟨i1, i2, i3, i4⟩ := text_show (K := K) g3 l0 l0
    refine ⟨_, _, rfl, i1, i2, i3, i4, (by show 3 ≤ sizeLine; decide), fun t4 ht4 => ?_⟩
    have s10 := same_new (o := .tup [.str "text", .int 0, .int 0]) ht4
    obtain ⟨j1, j2, j3, j4⟩ := text_show (K := K) (H := upd H9 t4 (.tup [.str "text", .int 0, .int 0])) (t := t4) upd_same l0 l0
    refine ⟨_, _, rfl, j1, j2, j3, j4, rfl, ?_⟩
    rw [decide_eq_true (rfl : V.str (PyData.tuple [.str "text", .int 0, .int 0]).shown = V.str (PyData.tuple [.str "text", .int 0, .int 0]).shown)]
    exact k _ (tabs_same ht8 (s9.trans s10))
end
end My
set_option pp.maxSteps 1500
set_option pp.deepTerms.threshold 8
/-! ### texts that are written are read -/
namespace My
open PySem PySem.Spec PyProof.Rows L2 TX
theorem numL_len {n : Nat} (h : n < 10 ^ 60) : (TL.numL n).length ≤ 60 := by
  have e := dg_num h
  unfold dg at e
  split at e
  · rename_i ok
    obtain ⟨_, h2, _⟩ := okD_all ok
    exact h2
  · cases e
theorem intL_len {a : Int} (h : a.natAbs < 10 ^ 60) : (intL a).length ≤ 61 := by
  have := numL_len h
  unfold intL
  split
  · rw [List.length_cons]
    omega
  · omega
theorem ratT_len60 {r : Int × Int} (h : R60 r) : (ratT r.1 r.2).length ≤ 123 := by
  rw [TL.len_tl, tl_rat]
  have a := intL_len h.2.1
  have b := intL_len h.2.2
  unfold RT.txt
  split
  · omega
  · rw [List.length_append, List.length_append]
    have : ([47] : List Nat).length = 1 := rfl
    omega
theorem clipT_len60 {rs : List (Int × Int)} (l : rs.length ≤ 7) (ok : ∀ r ∈ rs, R60 r) : (clipT rs).length ≤ 900 := by
  unfold clipT
  split
  · decide
  · refine Nat.le_trans (join_wt _) ?_
    have key : ∀ rs : List (Int × Int), (∀ r ∈ rs, R60 r) → wt (rs.map fun r => ratT r.1 r.2) ≤ 124 * rs.length := by
      intro rs
      induction rs with
      | nil => intro _; exact Nat.le_refl _
      | cons r rs ih =>
        intro h
        have a := ih fun x hx => h x (List.mem_cons_of_mem _ hx)
        have b := ratT_len60 (h r List.mem_cons_self)
        show (ratT r.1 r.2).length + 1 + wt (rs.map fun r => ratT r.1 r.2) ≤ 124 * (rs.length + 1)
        omega
    have := key rs ok
    omega
theorem mem_joinL {s c : Nat} : ∀ {ps : List (List Nat)}, c ∈ TL.joinL [s] ps → c = s ∨ ∃ p ∈ ps, c ∈ p
  | [], h => nomatch h
  | [p], h => .inr ⟨p, List.mem_cons_self, h⟩
  | p :: q :: r, h => by
    have h : c ∈ p ++ ([s] ++ TL.joinL [s] (q :: r)) := h
    rcases List.mem_append.mp h with h | h
    · exact .inr ⟨p, List.mem_cons_self, h⟩
    · rcases List.mem_append.mp h with h | h
      · exact .inl (List.mem_singleton.mp h)
      · rcases mem_joinL h with h | ⟨x, hx, hc⟩
        · exact .inl h
        · exact .inr ⟨x, List.mem_cons_of_mem _ hx, hc⟩
theorem clipT_low {rs : List (Int × Int)} : ∀ c ∈ TL.tl (clipT rs), c < 256 := fun c hc => by
  unfold clipT at hc
  split at hc
  · have k : ∀ c ∈ TL.tl ("empty" : Str), c < 256 := by decide +kernel
    exact k c hc
  · have ey : TL.tl (" " : Str) = [32] := by decide +kernel
    rw [TL.join_eq, TL.tl_join, ey] at hc
    rcases mem_joinL hc with h | ⟨p, hp, h⟩
    · omega
    · rw [List.map_map] at hp
      obtain ⟨r, _, rfl⟩ := List.mem_map.mp hp
      have h : c ∈ TL.tl (ratT r.1 r.2) := h
      rw [tl_rat] at h
      rcases Nat.lt_or_ge 57 c with z | z
      · exact absurd h (txt_free (.inr z) (by omega))
      · omega
theorem text_shown {x : Str} (l : x.length ≤ 2000) (h : ∀ c ∈ TL.tl x, c < 256) {K : PySem.W.Frag} {H : Hp} : Dr K H (.str x) (.str x) ∧ (PyData.str x).showable = true ∧ (PyData.str x).depth ≤ 60 ∧ (PyData.str x).shown.length ≤ sizeLine := by
  refine ⟨.inl (.str x), rfl, Nat.zero_le _, ?_⟩
  have := PySem.StrLaws.reprText_len x fun c hc => Nat.lt_of_lt_of_le (h c hc) (by decide)
  show (reprText x).length ≤ sizeLine
  rw [sizeLine_eq]
  omega
theorem R60.okr {r : Int × Int} (h : R60 r) : OkR r := by
  have e : (10 : Nat) ^ 60 < 2 ^ 300 := by decide +kernel
  exact ⟨h.1, Nat.lt_trans h.2.1 e, Nat.lt_trans h.2.2 e⟩
theorem words_le {x : Str} : ∀ w ∈ wsOf x, w.length ≤ x.length := fun w hw => by
  obtain ⟨_, _, h⟩ := split1_len (x := x) (y := " ") (s := 32) (by decide +kernel) (by decide +kernel)
  exact h w hw
/-- what is written is read -/
theorem rd_clip {CC CR CT : Addr} {rs : List (Int × Int)} {H : Hp} {Q : VK} {E : XK} (l : rs.length ≤ 7) (ok : ∀ r ∈ rs, R60 r) (k : ∀ c H', ClipAt CC CR H' c rs → H c = none → Same H H' → Q (.ref c) H') : RdC CC CR CT (.str (clipT rs)) H Q E := by
  have lc := clipT_len60 l ok
  by_cases hn : rs = []
  · subst hn
    have ew : wsOf (clipT []) = (["empty"] : List Str) := by
      show Txt.split (clipT []) " " = _
      decide +kernel
    have e0 : (wsOf (clipT []))[0]? = some ("empty" : Str) := by rw [ew] <;> rfl
    refine rd_of (by omega) (fun w hw => Nat.le_trans (words_le w hw) (by omega)) (fun i hi => ?_) fun _ rs hr c H' pc nc s => ?_
    · unfold dueP at hi
      rw [if_pos e0, ew, if_neg (by decide)] at hi
      cases hi
    · rcases hr with ⟨_, rfl⟩ | ⟨z, _⟩
      · exact k c H' pc nc s
      · exact absurd e0 z
  · have cw := clip_words hn
    have cw : (wsOf (clipT rs)).map TL.tl = rs.map fun r => RT.txt r.1 r.2 := cw
    have hw : (wsOf (clipT rs)).map wR = rs.map some := by
      have e : (wsOf (clipT rs)).map wR = ((wsOf (clipT rs)).map TL.tl).map RT.readR := by rw [List.map_map]; rfl
      rw [e, cw, List.map_map]
      exact List.map_congr_left fun r hr => RT.read_txt (ok r hr).1.1 (ok r hr).1.2 (ok r hr).2.1 (ok r hr).2.2
    have ln : (wsOf (clipT rs)).length = rs.length := by
      have := congrArg List.length hw
      rw [List.length_map, List.length_map] at this
      exact this
    have n0 : (wsOf (clipT rs))[0]? ≠ some ("empty" : Str) := fun z => by
      have e := congrArg (fun l => l[0]?) cw
      have e : ((wsOf (clipT rs)).map TL.tl)[0]? = (rs.map fun r => RT.txt r.1 r.2)[0]? := e
      rw [List.getElem?_map, z, List.getElem?_map] at e
      cases g : rs[0]? with
      | none => rw [g] at e; cases e
      | some r =>
        rw [g] at e
        have e := Option.some.inj e
        have e5 : (101 : Nat) ∈ TL.tl ("empty" : Str) := by decide +kernel
        rw [e] at e5
        exact txt_free (by decide) (by decide) e5
    refine rd_of (by omega) (fun w hw => Nat.le_trans (words_le w hw) (by omega)) (fun i hi => ?_) fun _ rs' hr c H' pc nc s => ?_
    · exfalso
      unfold dueP at hi
      rw [if_neg n0] at hi
      obtain ⟨g1, g2, _⟩ := head_bad hi
      obtain ⟨u, hu⟩ : ∃ u, (wsOf (clipT rs))[i]? = some u := ⟨_, List.getElem?_eq_getElem g1⟩
      unfold badB at g2
      rw [hu, decide_eq_false (show ¬ i = 2000 by omega)] at g2
      have g2 : (wR u).isNone = true := g2
      have e3 := congrArg (fun l => l[i]?) hw
      have e3 : ((wsOf (clipT rs)).map wR)[i]? = (rs.map some)[i]? := e3
      rw [List.getElem?_map, hu, List.getElem?_map] at e3
      have e3 : some (wR u) = (rs[i]?).map some := e3
      rw [Option.isNone_iff_eq_none.mp g2] at e3
      cases h : rs[i]? with
      | none => rw [h] at e3; cases e3
      | some y => rw [h] at e3; cases e3
    · rcases hr with ⟨z, _⟩ | ⟨_, hm, _, _⟩
      · exact absurd z n0
      · have : rs' = rs := List.map_inj_right (fun _ _ z => Option.some.inj z) |>.mp (hm.symm.trans hw)
        subst this
        exact k c H' pc nc s
theorem rd_odd {CC CR CT : Addr} {v : V} {H : Hp} {Q : VK} {E : XK} (n : ∀ x, v ≠ .str x) (k : ErrU E CT 0 0 H) : RdC CC CR CT v H Q E := ⟨fun _ => k, fun x ex => absurd ex (n x)⟩
end My
set_option pp.maxSteps 1500
set_option pp.deepTerms.threshold 8
/-! ### the law -/
namespace My
open PySem PySem.Spec PyProof.Rows L2 TX
abbrev s_law : Stmt := topS 54
theorem sc_law : FnScope ["_law_script", "_law_pen_here", "_law_turn", "_law_row_here", "_law_text_here", "_law_again", "_law_bent_here", "_law_odd"] ["_law_script"] (defScope s_law) := ⟨rfl, rfl, rfl, by decide +kernel, rfl, by decide +kernel, by decide +kernel⟩
def spLaw (K : PySem.W.Frag) (TS : List (Addr × Str)) : Sp := fun vs H Q _ => ∃ (a : Addr) (ns : List Int), vs = [.ref a] ∧ SqL K H a (ns.map V.int) ∧ LamX.Tabs TS H ∧ ∀ H', Q (.bl true) H'
section
variable {P : Program} {w : World} {K : PySem.W.Frag} {mg : Str → Option Value} {base : Heap} {Cs : List Addr} {CR CC CL fL CP fP CS fS CM fM CT fT CE B3 B4 B6 B7 : Addr} {tM tE : Tok}
theorem ok_law {f c tb : Addr} {fd : FuncData} {TS : List (Addr × Str)} (F : FunC K "law" "law" s_law f fd c) (T : ZTx P K mg Cs CR CC CL fL CP fP CS fS CM fM CT fT tM tE) (TH : ETx K mg CE CS CP CL B3 B4 CM B6 B7 CT) (DH : ErrAt K mg) (D_fields : DefAt P w K mg base CX0 1 "_law_fields" ["_law_caught", "_law_which"] (spFields K))
    (kT : Kd K CE CS CP CL B3 B4 CM B6 B7 CT CT 8)
    (TB : LamX.TabB base mg c tb) (hmT : (tb, (("law" : Str) ++ ".<locals>.") ++ "<lambda>") ∈ TS) (hu : ∀ p ∈ TS, p.1 = tb → p.2 = (("law" : Str) ++ ".<locals>.") ++ "<lambda>")
    (D_pen : DefAt P w K mg base CX0 1 "_law_pen" ["_law_script"] (spPen K)) (D_row : DefAt P w K mg base CX0 4 "_law_row" ["_law_pen_here", "_law_most"] spRow) (D_ltext : DefAt P w K mg base CX0 2 "_law_text" ["_law_row_here"] spText) (D_lclip : DefAt P w K mg base CX0 9 "_law_clip" ["_law_row_here"] (spLclip CC CR)) (ST_cstr : CmpAt P w K mg base CX0 4 CC "__str__" ["self"] (spCstr CC CR))
    (K_cread : ClsAt P w K mg base (L2.CX P w) 10 CC "read" (spCread Cs CC CR CT)) (D_lis : DefG P w K mg base CX0 5 "_law_is" ["_law_clip_here", "_law_row_here"] (spLis CC CR)) (D_lbent : DefAt P w K mg base CX0 3 "_law_bent" ["_law_pen_here", "_law_text_here"] spLbent) (D_readR : DefG P w K mg base CX0 14 "_law_read_right" ["_law_text_here"] (spReadR TS)) (D_longR : DefG P w K mg base CX0 14 "_law_long_right" ["_law_pen_here"] (spLongR TS))
    (M_Clip : MakeR P w K mg base (L2.CX P w) 6 "Clip" CC (spClip Cs CR CC CS CM)) (M_Ratio1 : MakeAt P w K mg base (L2.CX P w) 3 "Ratio" CR ["self", "top", "bottom"] (spRinit CR) [.int 1]) : FnG P w K mg base CX0 15 f fd ["_law_script"] (spLaw K TS) := by
  refine okGc F sc_law (fun vs H Q E h => ?_) (fun A outer s H vs Q E hgd hr h => ?_)
  · obtain ⟨a, ns, rfl, _⟩ := h
    rfl
  · obtain ⟨sc, ns, rfl, hS, ht, k⟩ := h
    refine ⟨_, (pss_cons (ps_set (i := 1) sc_law.nd rfl (Or.inl rfl) (My.pe_d D_pen (hr.mono (by decide)) (by rfl) pass0 (pa_cons (pv 0) pa_nil)))
      (pss_cons (ps_for PassesOwn.never rfl (pi_range1 rfl T.z_range (pa_cons pe_int pa_nil)) (pg_name (i := 2) sc_law.nd rfl (Or.inl rfl)) (pss_cons (ps_set (i := 3) sc_law.nd rfl (Or.inl rfl) (My.pe_d D_row (hr.mono (by decide)) (by rfl) pass0 (pa_cons (pv 1) (pa_cons pe_int pa_nil))))
      (pss_cons (ps_set (i := 4) sc_law.nd rfl (Or.inl rfl) (My.pe_d D_ltext (hr.mono (by decide)) (by rfl) pass0 (pa_cons (pv 3) pa_nil)))
      (pss_cons (ps_if (PW.pt (pw_or (pt_cmpR op_ne (pe_callB (My.call_repr hgd hr) (by rfl) T.z_repr boot_repr (pa_cons (pe_callTy (My.call_strO ST_cstr (hr.mono (by decide)) pass0) (by rfl) T.z_str boot_str (pa_cons (My.pe_d D_lclip (hr.mono (by decide)) (by rfl) pass0 (pa_cons (pv 3) pa_nil)) pa_nil)) pa_nil)) (pe_callB (My.call_repr hgd hr) (by rfl) T.z_repr boot_repr (pa_cons (pv 4) pa_nil)) (nomark _)) (pw_or1 (pt_not (pt_val (My.pe_dG D_lis hgd (hr.mono (by decide)) (by rfl) pass0 (pa_cons (My.pe_cm K_cread (hr.mono (by decide)) passL (pe_glob (v := .ref CC) (by rfl) T.gC rfl) (pa_cons (pv 4) pa_nil)) (pa_cons (pv 3) pa_nil)))))))) (pss_one (ps_ret pe_bl)) pss_nil)
      (pss_one (ps_for PassesOwn.never rfl (pi_range1 rfl T.z_range (pa_cons pe_int pa_nil)) (pg_name (i := 5) sc_law.nd rfl (Or.inl rfl)) (pss_cons (ps_set (i := 6) sc_law.nd rfl (Or.inl rfl) (My.pe_d D_lbent (hr.mono (by decide)) (by rfl) pass0 (pa_cons (pv 1) (pa_cons (pv 4) pa_nil))))
      (pss_one (ps_if (PW.pt (pw_or (pt_not (pt_val (My.pe_dG D_readR hgd (hr.mono (by decide)) (by rfl) pass0 (pa_cons (pv 6) pa_nil)))) (pw_or1 (pt_not (pt_val (My.pe_dG D_readR hgd (hr.mono (by decide)) (by rfl) pass0 (pa_cons (My.pe_d D_lbent (hr.mono (by decide)) (by rfl) pass0 (pa_cons (pv 1) (pa_cons (pv 6) pa_nil))) pa_nil))))))) (pss_one (ps_ret pe_bl)) pss_nil)))))))))
      (pss_cons (ps_for PassesOwn.never rfl (pi_list (pe_lst (pa_cons pe_non (pa_cons pe_int (pa_cons pe_bl (pa_cons (pe_lst (pa_cons pe_str pa_nil)) (pa_cons (pe_tup (pa_cons pe_str pa_nil)) (pa_cons (My.pe_mkR0 M_Clip (hr.mono (by decide)) (by rfl) passL) (pa_cons (My.pe_mk M_Ratio1 (hr.mono (by decide)) (by rfl) passL (pa_cons pe_int pa_nil)) pa_nil))))))))) (pg_name (i := 7) sc_law.nd rfl (Or.inr rfl)) (pss_one (ps_if (pt_cmpR op_ne (pe_callB (My.call_repr hgd hr) (by rfl) T.z_repr boot_repr (pa_cons (My.pe_errors (k := 10) DH TH D_fields hgd (hr.mono (by decide)) TB rfl hmT hu (by rfl) (LamX.lamS_by (by show LamX.lamSB (defScope s_law) _ = true; decide +kernel)) rfl (fun _ _ _ _ _ => rfl) (fun A outer s H E f c hrl => (My.pe_cm K_cread (hrl.mono (by decide)) (passes_call (takes_of rfl rfl rfl rfl) (fun _ _ _ _ h => h)) (pe_glob (v := .ref CC) (by rfl) T.gC rfl) (pa_cons (pv 7) pa_nil)))) pa_nil)) (pe_callB (My.call_repr hgd hr) (by rfl) T.z_repr boot_repr (pa_cons (pe_tup (pa_cons pe_str (pa_cons pe_int (pa_cons pe_int pa_nil)))) pa_nil)) (nomark _)) (pss_one (ps_ret pe_bl)) pss_nil)))
      (pss_one (ps_ret (pe_and (My.pe_dG D_longR hgd (hr.mono (by decide)) (by rfl) pass0 (pa_cons (pv 1) pa_nil)) (pe_and (My.pe_dG D_readR hgd (hr.mono (by decide)) (by rfl) pass0 (pa_cons pe_str pa_nil)) (pe_one (My.pe_dG D_readR hgd (hr.mono (by decide)) (by rfl) pass0 (pa_cons pe_str pa_nil)))))))))), ?_⟩
    refine ⟨_, rfl, sc, ns, rfl, hS, fun pn H1 h1 p1 s1 => ?_⟩
    obtain ⟨cl0, pc0⟩ : ∃ cl, PenC H1 pn cl 0 := p1
    refine ⟨5, rfl, by decide, by decide, for_range (fun i σ H' => ∃ cl v2 v3 v4 v5 v6, σ = [some (.ref sc), some (.ref pn), v2, v3, v4, v5, v6, none] ∧ PenC H' pn cl (200 * i) ∧ LamX.Tabs TS H') ⟨cl0, none, none, none, none, none, rfl, pc0, tabs_same ht s1⟩ ?_ ?_⟩
    · rintro i σ H2 hi ⟨cl, v2, v3, v4, v5, v6, rfl, hp, ht2⟩
      have hi5 : i < 5 := by omega
      refine ⟨_, rfl, pn, cl, _, rfl, hp, by omega, fun l ps rs H3 hl R lr okr p3 u3 => ?_⟩
      have ht3 := keepT_but u3 hp TS ht2
      have nl : l ≠ pn := fun z => by
        obtain ⟨_, _, _, g, _⟩ := hp
        rw [z, g] at hl
        cases hl
      have r60 : ∀ r ∈ rs, R60 r := fun r hr => (okr r hr).r60
      refine ⟨_, rfl, l, ps, rs, rfl, R, by omega, fun r hr => (r60 r hr).log, fun H4 s4 => ?_⟩
      have R4 := R.same s4
      refine ⟨_, rfl, l, ps, rs, rfl, R4, by omega, fun r hr => ⟨(r60 r hr).1, (r60 r hr).okr.2.2⟩, fun c5 H5 po5 hc5 s5 => ?_⟩
      obtain ⟨dx5, fs5, e5⟩ := po5.ins
      have p5 := (p3.same s4).same s5
      have ht5 := tabs_same ht3 (s4.trans s5)
      have R5 := R4.same s5
      have lc := clipT_len60 lr r60
      refine ⟨c5, dx5, fs5, rfl, e5, c5, rs, rfl, po5, by omega, r60, fun H6 s6 => ⟨_, rfl, ?_⟩⟩
      obtain ⟨i1, i2, i3, i4⟩ := text_shown (K := K) (H := H6) (x := clipT rs) (by omega) clipT_low
      refine ⟨_, _, rfl, i1, i2, i3, i4, _, rfl, _, _, rfl, i1, i2, i3, i4, rfl, _, rfl, ?_⟩
      rw [decide_eq_true (rfl : V.str (PyData.str (clipT rs)).shown = V.str (PyData.str (clipT rs)).shown)]
      refine iteF ⟨rfl, _, rfl, _, rfl, .inl ⟨_, .str _⟩, rd_clip lr r60 fun c7 H7 pc7 nc7 s7 => ?_⟩
      have s57 := s6.trans s7
      refine ⟨_, rfl, c7, l, ps, rs, rfl, pc7, R5.same s57, fun r hr => (r60 r hr).okr, by omega, fun H8 s8 => ⟨_, rfl, iteF ?_⟩⟩
      have p8 := p5.same (s57.trans s8)
      have ht8 := tabs_same ht5 (s57.trans s8)
      clear i1 i2 i3 i4 pc7 R5 R4 R e5 po5 ht5 p5 s57 s8 s7 s6 s5 s4 ht3 u3 p3 ht2 hp hl nc7 hc5
      refine ⟨5, rfl, by decide, by decide, for_range (fun j σ H' => ∃ cl w2 w3 w5 w6, σ = [some (.ref sc), some (.ref pn), w2, w3, some (.str (clipT rs)), w5, w6, none] ∧ PenC H' pn cl (200 * i + 20 + 10 * j) ∧ LamX.Tabs TS H') ⟨cl, _, _, _, _, rfl, p8, ht8⟩ ?_ ?_⟩
      · rintro j σ Ha hj ⟨cl, w2, w3, w5, w6, rfl, hp, ht⟩
        have hj5 : j < 5 := by omega
        refine ⟨_, rfl, _, rfl, pn, cl, clipT rs, _, rfl, by omega, hp, by omega, fun y Hb ly pb ub => ?_⟩
        have tb' := keepT_but ub hp TS ht
        refine ⟨_, rfl, y, rfl, by omega, (fun w hw => Nat.le_trans (words_le w hw) (by omega)), tb', fun Hc xc tc => ⟨_, rfl, iteF ?_⟩⟩
        have pc := pb.ext xc
        refine ⟨_, rfl, _, rfl, pn, cl, y, _, rfl, by omega, pc, by omega, fun z Hd lz pd ud => ?_⟩
        have td := keepT_but ud pc TS tc
        refine ⟨z, rfl, by omega, (fun w hw => Nat.le_trans (words_le w hw) (by omega)), td, fun He xe te => ⟨_, rfl, iteF ?_⟩⟩
        exact ⟨cl, _, _, _, _, rfl, (pd.ext xe).le (by omega), te⟩
      · rintro σ Ha ⟨cl, w2, w3, w5, w6, rfl, hp, ht⟩
        exact ⟨cl, _, _, _, _, _, rfl, hp.le (by omega), ht⟩
    · rintro σ H2 ⟨cl, v2, v3, v4, v5, v6, rfl, hp, ht2⟩
      refine ⟨(by show 1 ≤ sizeLine; decide), fun b1 hb1 => ⟨(by show 1 ≤ sizeLine; decide), fun b2 hb2 => ?_⟩⟩
      have s3 := same_new (o := .lst [.str "1"]) hb1
      have s4 := same_new (o := .tup [.str "1"]) hb2
      refine fun x dx hx hd ne => ⟨x, dx, [], rfl, upd_same, by decide, (fun _ z => nomatch z), (fun z => absurd z (by decide)), fun _ rs1 nm1 H5 po5 kp5 => ⟨rfl, ?_⟩, fun _ i v e => by simp at e⟩
      have s5 := made_same hx hd kp5
      refine fun q yq hxq hdq neq => rinit_at (a := 1) (b := 1) (by decide) (by decide +kernel) hxq hdq neq fun H6 lq s6 => ⟨(by show 7 ≤ sizeLine; decide), fun L hL => ?_⟩
      have s7 := same_new (o := .lst [.non, .int 7, .bl true, .ref b1, .ref b2, .ref x, .ref q]) hL
      have S27 := (((s3.trans s4).trans s5).trans s6).trans s7
      have eL : upd H6 L (.lst [.non, .int 7, .bl true, .ref b1, .ref b2, .ref x, .ref q]) L = some (.lst [.non, .int 7, .bl true, .ref b1, .ref b2, .ref x, .ref q]) := upd_same
      have e1 := s7 _ _ (s6 _ _ (s5 _ _ (s4 _ _ (upd_same (H := H2) (a := b1) (o := .lst [.str "1"])))))
      have e2 := s7 _ _ (s6 _ _ (s5 _ _ (upd_same (H := upd H2 b1 (.lst [.str "1"])) (a := b2) (o := .tup [.str "1"]))))
      obtain ⟨yc, fc, ec⟩ := ((po5.same s6).same s7).ins
      obtain ⟨yr, er⟩ := lq.same s7
      have p7 := hp.same S27
      have t7 := tabs_same ht2 S27
      generalize upd H6 L (.lst [.non, .int 7, .bl true, .ref b1, .ref b2, .ref x, .ref q]) = H7 at eL e1 e2 ec er p7 t7 ⊢
      have odd : ∀ v ∈ [V.non, .int 7, .bl true, .ref b1, .ref b2, .ref x, .ref q], (∀ z, v ≠ .str z) ∧ ∀ H', LamX.ExtN H7 H' → AnyF Cs H' v := fun v hv => by
        simp only [List.mem_cons, List.not_mem_nil, or_false] at hv
        rcases hv with rfl | rfl | rfl | rfl | rfl | rfl | rfl
        · exact ⟨(fun _ z => nomatch z), fun H' _ => .inl ⟨_, .non⟩⟩
        · exact ⟨(fun _ z => nomatch z), fun H' _ => .inl ⟨_, .int _⟩⟩
        · exact ⟨(fun _ z => nomatch z), fun H' _ => .inl ⟨_, .bl _⟩⟩
        · exact ⟨(fun _ z => nomatch z), fun H' u => .inl ⟨_, .lst (u _ _ e1 fun _ z => nomatch z)⟩⟩
        · exact ⟨(fun _ z => nomatch z), fun H' u => .inl ⟨_, .tup (u _ _ e2 fun _ z => nomatch z)⟩⟩
        · exact ⟨(fun _ z => nomatch z), fun H' u => .inr ⟨CC, T.inC, _, _, _, rfl, u _ _ ec fun _ z => nomatch z⟩⟩
        · exact ⟨(fun _ z => nomatch z), fun H' u => .inr ⟨CR, T.inn, _, _, _, rfl, u _ _ er fun _ z => nomatch z⟩⟩
      have l0 : (0 : Int).natAbs.log2 < 1920 := by decide
      clear s3 s4 s5 s6 s7 S27 hL lq hxq hdq neq po5 kp5 nm1 hx hd ne hb1 hb2 e1 e2 ec er
      refine ⟨L, rfl, ⟨_, SqL.of eL⟩, for_list (K := K) (a := L) (xs := [V.non, .int 7, .bl true, .ref b1, .ref b2, .ref x, .ref q]) (fun i σ H' => ∃ v7, σ = [some (.ref sc), some (.ref pn), v2, v3, v4, v5, v6, v7] ∧ LamX.ExtN H7 H' ∧ PenC H' pn cl 1000 ∧ LamX.Tabs TS H') ⟨none, rfl, (fun _ _ e _ => e), p7, t7⟩ (fun i σ H' _ hh => by obtain ⟨_, _, u, _⟩ := hh; exact SqL.of (u _ _ eL fun _ z => nomatch z)) ?_ ?_⟩
      · rintro i v σ Ha hv ⟨v7, rfl, xa, pa, ta⟩
        obtain ⟨ns, any⟩ := odd v (List.mem_of_getElem? hv)
        refine ⟨ta, fun Hb xb tb' => ⟨rfl, _, rfl, v, rfl, any Hb (extn_trans xa xb), rd_odd ns (werr_text T.e_BadText kT fun t1 Hc g1 sc1 n1 => ?_)⟩⟩
        obtain ⟨i1, i2, i3, i4⟩ := text_show (K := K) g1 l0 l0
        refine ⟨_, _, rfl, i1, i2, i3, i4, (by show 3 ≤ sizeLine; decide), fun t2 ht2 => ?_⟩
        have s7 := same_new (o := .tup [.str "text", .int 0, .int 0]) ht2
        obtain ⟨j1, j2, j3, j4⟩ := text_show (K := K) (H := upd Hc t2 (.tup [.str "text", .int 0, .int 0])) (t := t2) upd_same l0 l0
        refine ⟨_, _, rfl, j1, j2, j3, j4, rfl, _, rfl, ?_⟩
        rw [decide_eq_true (rfl : V.str (PyData.tuple [.str "text", .int 0, .int 0]).shown = V.str (PyData.tuple [.str "text", .int 0, .int 0]).shown)]
        have st := sc1.trans s7
        exact iteF ⟨_, rfl, extn_trans (extn_trans xa xb) (extn_same st), (pa.ext xb).same st, tabs_same tb' st⟩
      · rintro σ Ha ⟨v7, rfl, xa, pa, ta⟩
        refine ⟨_, rfl, pn, cl, _, rfl, pa, by decide, ta, fun Hb tb' => ⟨_, rfl, iteT ?_⟩⟩
        refine ⟨"", rfl, by decide +kernel, (fun w hw => Nat.le_trans (words_le w hw) (by decide +kernel)), tb', fun Hc xc tc => ⟨_, rfl, iteT ?_⟩⟩
        exact ⟨"empty ", rfl, by decide +kernel, (fun w hw => Nat.le_trans (words_le w hw) (by decide +kernel)), tc, fun Hd _ _ => k Hd⟩
end
end My
namespace My
open PySem PySem.Spec PyProof.Rows L2
abbrev s_eBadLength : Stmt := inClass (topS 7) 0
abbrev s_eBadPlace : Stmt := inClass (topS 5) 0
abbrev s_eBadSample : Stmt := inClass (topS 8) 0
abbrev s_eTooMany : Stmt := inClass (topS 11) 0
abbrev s_eBadText : Stmt := inClass (topS 13) 0
theorem all_mk {l : PySem.W.OpenLaw} {w : World} {K : PySem.W.Frag} {h : Heap} {mg : Str → Option Value} {fa CR CC CL fL CP fP CS fS CM fM CE B3 B4 B6 B7 B8 fT : Addr}  {c1 t1 : Addr} {c2 t2 : Addr} {c3 t3 : Addr} (hfa : mg "law" = some (.ref fa))
    (_gR : mg "Ratio" = some (.ref CR))
    (_gC : mg "Clip" = some (.ref CC))
    (_gBadLength : mg "BadLength" = some (.ref CL))
    (_iBadLength : PySem.W.findIn K (.ref CL) "__init__" = some (some (.ref fL)))
    (_gBadPlace : mg "BadPlace" = some (.ref CP))
    (_iBadPlace : PySem.W.findIn K (.ref CP) "__init__" = some (some (.ref fP)))
    (_gBadSample : mg "BadSample" = some (.ref CS))
    (_iBadSample : PySem.W.findIn K (.ref CS) "__init__" = some (some (.ref fS)))
    (_gTooMany : mg "TooMany" = some (.ref CM))
    (_iTooMany : PySem.W.findIn K (.ref CM) "__init__" = some (some (.ref fM)))
    (_gE : mg "ClipError" = some (.ref CE))
    (_gBadEdit : mg "BadEdit" = some (.ref B3))
    (_gBadStep : mg "BadStep" = some (.ref B4))
    (_gNoIndex : mg "NoIndex" = some (.ref B6))
    (_gNoChange : mg "NoChange" = some (.ref B7))
    (_gBadText : mg "BadText" = some (.ref B8))
    (_iBadText : PySem.W.findIn K (.ref B8) "__init__" = some (some (.ref fT)))
    (bi : BI mg)
    (o_CR : Own K CR)
    (mk_CR : PySem.W.makesIn K CR = true)
    (kp_CR : PySem.W.keepIn K (.ref CR) = true)
    (o_CC : Own K CC)
    (mk_CC : PySem.W.makesIn K CC = true)
    (kp_CC : PySem.W.keepIn K (.ref CC) = true)
    (x_CR_CC : PySem.W.kitOne K (.ref CR) (.ref CC) = some false ∧ PySem.W.notFirst K CC (.ref CR) = true)
    (x_CC_CR : PySem.W.kitOne K (.ref CC) (.ref CR) = some false ∧ PySem.W.notFirst K CR (.ref CC) = true)
    (nd : [CR, CC].Nodup)
    (n_top : NoAttr K CR "top")
    (n_bottom : NoAttr K CR "bottom")
    (n_samples : NoAttr K CC "samples")
    (z_str : mg "str" = none)
    (z_tuple : mg "tuple" = none)
    (z_enumerate : mg "enumerate" = none)
    (z_zip : mg "zip" = none)
    (e_BadLength : Sup.Err1 l.prog K mg "BadLength" "value" CL fL)
    (e_BadPlace : Sup.Err1 l.prog K mg "BadPlace" "value" CP fP)
    (e_BadSample : Sup.Err1 l.prog K mg "BadSample" "at" CS fS)
    (e_TooMany : Sup.Err2 l.prog K mg "TooMany" "what" "most" CM fM)
    (rd : ∃ mc u, ClX.CRead K CC mc ∧ ClX.CVal K CC mc "LONGEST" (.int 2000) u)
    (hm : PySem.W.mroIn K CC (.type "object") = some true)
    (ne0 : PySem.W.findIn K (.ref CC) "__ne__" = some (some (.builtin "object.__ne__")))
    (nq : PySem.W.noSeq K CC = true)
    (A_rinit : HasD K CR "__init__" "Ratio.__init__" s_rinit [.int 1] [])
    (A_isnum : HasS K CR "is_number" "Ratio.is_number" s_isnum)
    (A_of : HasS K CR "of" "Ratio.of" s_of)
    (A_cinit : HasM K CC "__init__" "Clip.__init__" s_cinit)
    (A_cof : HasCM K CC "of" "Clip.of" s_cof)
    (A_whole0 : Has K mg "is_whole" s_whole0)
    (A_cd : Has K mg "common_divisor" s_cd)
    (A_partsof : Has K mg "parts_of" s_partsof)
    (A_ratof : Has K mg "ratio_of" s_ratof)
    (A_pen : Has K mg "_law_pen" s_pen)
    (A_draw : Has K mg "_law_draw" s_draw)
    (A_pick : Has K mg "_law_pick" s_pick)
    (z_ValueError : mg "ValueError" = none)
    (TH : ETx K mg CE CS CP CL B3 B4 CM B6 B7 B8)
    (A_errors : Has K mg "_law_errors" s_errors)
    (A_fields : Has K mg "_law_fields" s_fields)
    (e_BadText : Sup.Err2 l.prog K mg "BadText" "line" "word" B8 fT)
    (k_B8 : Kd K CE CS CP CL B3 B4 CM B6 B7 B8 B8 8)
    (xT : PySem.W.exmOne K (.ref B8) (.ref B8) = some true)
    (gMost : ∃ t, mg "MOST_DIGITS" = some (.int 60 t))
    (gEmpty : ∃ t, mg "EMPTY" = some (.str "empty" t))
    (z_all : mg "all" = none)
    (ns_CR : PySem.W.kitOne K (.ref CR) (.type "str") = some false)
    (ns_CC : PySem.W.kitOne K (.ref CC) (.type "str") = some false)
    (A_rstr : HasM K CR "__str__" "Ratio.__str__" s_rstr)
    (A_ceach : HasM K CC "each" "Clip.each" s_ceach)
    (A_clen : HasM K CC "__len__" "Clip.__len__" s_clen)
    (A_cstr : HasM K CC "__str__" "Clip.__str__" s_cstr)
    (A_rread : HasCM K CR "read" "Ratio.read" s_rread)
    (A_cread : HasCM K CC "read" "Clip.read" s_cread)
    (A_figof : Has K mg "figures_of" s_figof)
    (A_sampof : Has K mg "sample_of" s_sampof)
    (A_frac : Has K mg "_law_frac" s_frac)
    (A_word : Has K mg "_law_word" s_word)
    (A_sample : Has K mg "_law_sample" s_sample)
    (A_row : Has K mg "_law_row" s_row)
    (A_lclip : Has K mg "_law_clip" s_lclip)
    (A_pairs : Has K mg "_law_pairs" s_pairs)
    (A_lis : Has K mg "_law_is" s_lis)
    (A_ltext : Has K mg "_law_text" s_ltext)
    (A_isfig : Has K mg "_law_is_figures" s_isfig)
    (A_lread : Has K mg "_law_read" s_lread)
    (A_ldue : Has K mg "_law_due" s_ldue)
    (A_lbent : Has K mg "_law_bent" s_lbent)
    (A_readR : HasC K mg "_law_read_right" s_readR c1) (T1 : TabF K h (c1, t1))
    (A_longR : HasC K mg "_law_long_right" s_longR c2) (T2 : TabF K h (c2, t2))
    (A_law : HasC K mg "law" s_law c3) (T3 : TabF K h (c3, t3))
    (_n1_2 : ¬ t1 = t2)
    (_n1_3 : ¬ t1 = t3)
    (_n2_3 : ¬ t2 = t3)
    : LawG l w K 15 63 "_law_script" mg fa h := by
  obtain ⟨f_1, oc_1, od_1, kV_1, dc_1, pm_1, an_1, ct_1, sl_1, m_1, l_1, d_1, k_1⟩ := A_readR.ex
  obtain ⟨f_2, oc_2, od_2, kV_2, dc_2, pm_2, an_2, ct_2, sl_2, m_2, l_2, d_2, k_2⟩ := A_longR.ex
  obtain ⟨f_3, oc_3, od_3, kV_3, dc_3, pm_3, an_3, ct_3, sl_3, m_3, l_3, d_3, k_3⟩ := A_law.ex
  have e := hfa.symm.trans m_3
  cases e
  obtain ⟨fh, fdh, hh, Fh⟩ := A_errors.ex
  refine ⟨PySem.W.fnOf "law" "law" (defArgs s_law) (defBody s_law) (defScope s_law) .none kV_3 dc_3 pm_3 an_3 (.ref c3) ct_3, [(c1, t1), (c2, t2), (c3, t3)], spLaw K [(t1, (("_law_read_right" : Str) ++ ".<locals>.") ++ "<lambda>"), (t2, (("_law_long_right" : Str) ++ ".<locals>.") ++ "<lambda>"), (t3, (("law" : Str) ++ ".<locals>.") ++ "<lambda>")], fun p hp => ?_, fun s u => ?_, fun H a ns hn hb ht hs => ?_, fun base hK hN hT => ?_⟩
  · simp only [List.mem_cons, List.mem_nil_iff, or_false] at hp
    rcases hp with rfl | rfl | rfl
    · exact T1
    · exact T2
    · exact T3
  · exact .of_eq rfl
  · refine ⟨a, ns, rfl, hs, fun p hp => ?_, fun _ => rfl⟩
    simp only [List.mem_cons, List.mem_nil_iff, or_false] at hp
    rcases hp with rfl | rfl | rfl
    · exact LamX.TabS.nil (ht (c1, t1) (.head _))
    · exact LamX.TabS.nil (ht (c2, t2) (.tail _ (.head _)))
    · exact LamX.TabS.nil (ht (c3, t3) (.tail _ (.tail _ (.head _))))
  · have TB1 := hT (c1, t1) (.head _)
    have TB2 := hT (c2, t2) (.tail _ (.head _))
    have TB3 := hT (c3, t3) (.tail _ (.tail _ (.head _)))
    have fam : Fam K [CR, CC] := fam2 o_CR o_CC x_CR_CC x_CC_CR
    have ne : CR ≠ CC := fun z => by have := nd; simp [z] at this
    have TR : RTx K mg [CR, CC] CR := ⟨bi, fam, .head _, o_CR.cl, n_top, n_bottom, _gR, z_str, z_tuple⟩
    have T : CTx l.prog K mg [CR, CC] CR CC CL fL CP fP CS fS CM fM := ⟨TR, .tail _ (.head _), o_CC.cl, n_samples, _gC, ne, e_BadLength, e_BadPlace, e_BadSample, e_TooMany, rd, z_enumerate, z_zip⟩
    have D_pen : DefAt l.prog w K mg base CX0 1 "_law_pen" ["_law_script"] (spPen K) := def_at A_pen (fun f fd F => ok_pen F bi) fun _ _ _ _ _ _ us hl => match us, hl with | [_], _ => rfl
    have D_draw : DefAt l.prog w K mg base CX0 1 "_law_draw" ["_law_pen_here", "_law_many"] spDrawC := def_at A_draw (fun f fd F => ok_drawC F bi) fun _ _ _ _ _ _ us hl => match us, hl with | [_, _], _ => rfl
    have D_pick : DefAt l.prog w K mg base CX0 2 "_law_pick" ["_law_pen_here", "_law_some"] spPickC := def_at A_pick (fun f fd F => ok_pickC F bi D_draw) fun _ _ _ _ _ _ us hl => match us, hl with | [_, _], _ => rfl
    have D_whole0 : DefAt l.prog w K mg base CX0 1 "is_whole" ["value"] (spWh [CR, CC]) := def_at A_whole0 (fun f fd F => ok_whole0 F bi fam) fun _ _ _ _ _ _ us hl => match us, hl with | [_], _ => rfl
    have D_cd : DefAt l.prog w K mg base CX0 1 "common_divisor" ["one", "other"] spCd := def_at A_cd (fun f fd F => ok_cd F bi) fun _ _ _ _ _ _ us hl => match us, hl with | [_, _], _ => rfl
    have D_partsof : DefAt l.prog w K mg base CX0 1 "parts_of" ["number"] (spParts0 CR) := def_at A_partsof (fun f fd F => ok_partsof F TR) fun _ _ _ _ _ _ us hl => match us, hl with | [_], _ => rfl
    have M_Ratio : MakeAt l.prog w K mg base (L2.CX l.prog w) 3 "Ratio" CR ["self", "top", "bottom"] (spRinit CR) [] := make_all A_rinit _gR mk_CR kp_CR (fun f fd F => ok_rinit F TR D_whole0 D_cd) (by simp) fun _ _ _ _ _ _ _ us its hl hi => match us, hl, its, hi with | [_, _, _], _, [_], _ => ⟨_, rfl, rfl⟩
    have M_Ratio1 : MakeAt l.prog w K mg base (L2.CX l.prog w) 3 "Ratio" CR ["self", "top", "bottom"] (spRinit CR) [.int 1] := make_dfl (n := 2) A_rinit _gR mk_CR kp_CR (fun f fd F => ok_rinit F TR D_whole0 D_cd) (by simp) rfl fun _ _ _ _ _ _ _ us its hl hi => match us, hl, its, hi with | [_, _], _, [_], _ => ⟨_, rfl, rfl⟩
    have S_is_number : StatAt l.prog w K mg base CX0 2 CR "is_number" ["thing"] (spIsnum [CR, CC] CR) := stat_at A_isnum (fun f fd F => ok_isnum F TR D_whole0) fun _ _ _ _ _ _ us hl => match us, hl with | [_], _ => rfl
    have S_of : StatAt l.prog w K mg base CX0 5 CR "of" ["number"] (spOf CR) := stat_at A_of (fun f fd F => ok_of F TR S_is_number D_partsof M_Ratio) fun _ _ _ _ _ _ us hl => match us, hl with | [_], _ => rfl
    have D_ratof : DefAt l.prog w K mg base CX0 5 "ratio_of" ["number"] (spRatof CR) := def_at A_ratof (fun f fd F => ok_ratof F TR M_Ratio1) fun _ _ _ _ _ _ us hl => match us, hl with | [_], _ => rfl
    have M_Clip : MakeR l.prog w K mg base (L2.CX l.prog w) 6 "Clip" CC (spClip [CR, CC] CR CC CS CM) := makeR_at A_cinit _gC mk_CC kp_CC fun f _ _ _ _ _ _ _ _ _ lk hcd => ok_cinit (fd := PySem.W.fnOf "" "" default [] default .none .none .none .none none .none .none) lk hcd T S_is_number D_ratof
    have K_of : ClsAt l.prog w K mg base (L2.CX l.prog w) 8 CC "of" (spCof [CR, CC] CR CC CS CM) := cls_at A_cof (fun f fd F => ok_cof F T M_Clip) fun _ _ _ _ _ _ us hl => match us, hl with | [_, _], _ => rfl
    have D_fields : DefAt l.prog w K mg base CX0 1 "_law_fields" ["_law_caught", "_law_which"] (spFields K) := def_at A_fields (fun f fd F => ok_fields F bi) fun _ _ _ _ _ _ us hl => match us, hl with | [_, _], _ => rfl
    have DH : ErrAt K mg := ⟨⟨fh, fdh, Fh, hh, Fh.binds fun _ _ _ _ _ _ us hl => match us, hl with | [_], _ => rfl⟩⟩
    obtain ⟨tM, gMost⟩ := gMost
    obtain ⟨tE, gEmpty⟩ := gEmpty
    have nStr : ∀ C ∈ [CR, CC], PySem.W.kitOne K (.ref C) (.type "str") = some false := fun C hC => by
      simp only [List.mem_cons, List.not_mem_nil, or_false] at hC
      rcases hC with rfl | rfl
      · exact ns_CR
      · exact ns_CC
    have Z : ZTx l.prog K mg [CR, CC] CR CC CL fL CP fP CS fS CM fM B8 fT tM tE := ⟨T, gMost, z_all, gEmpty, e_BadText, nStr⟩
    have ST_str : CmpAt l.prog w K mg base CX0 1 CR "__str__" ["self"] (spStrR CR) := cmp_at A_rstr (fun f fd F => ok_rstr F TR) fun _ _ _ _ _ _ us hl => match us, hl with | [_], _ => rfl
    have D_figof : DefAt l.prog w K mg base CX0 1 "figures_of" ["text"] (spWord TX.dg) := def_at A_figof (fun f fd F => ok_figof F Z.toFTx) fun _ _ _ _ _ _ us hl => match us, hl with | [_], _ => rfl
    have K_rread : ClsAt l.prog w K mg base (L2N.CX l.prog w) 6 CR "read" (spRRead [CR, CC] CR B8) := cls_at A_rread (fun f fd F => ok_rread F Z D_figof M_Ratio ST_str) fun _ _ _ _ _ _ us hl => match us, hl with | [_, _], _ => rfl
    have G_each : GMeth l.prog w K mg base 2 CC "each" (spEach CC) := gmeth_at A_ceach (fun _ _ _ _ _ _ _ _ _ _ lk hcd => ok_each lk hcd T) fun _ _ _ _ _ _ us hl => match us, hl with | [_], _ => rfl
    have L_len : CmpAt l.prog w K mg base CX0 1 CC "__len__" ["self"] (spClen CC CR) := cmp_at A_clen (fun f fd F => ok_clen F T) fun _ _ _ _ _ _ us hl => match us, hl with | [_], _ => rfl
    have ST_cstr : CmpAt l.prog w K mg base CX0 4 CC "__str__" ["self"] (spCstr CC CR) := cmp_at A_cstr (fun f fd F => ok_cstr F T ST_str) fun _ _ _ _ _ _ us hl => match us, hl with | [_], _ => rfl
    have D_sampof : DefAt l.prog w K mg base (L2.CX l.prog w) 7 "sample_of" ["word", "at"] (spSampof CR B8) := def_at A_sampof (fun f fd F => ok_sampof F Z xT K_rread) fun _ _ _ _ _ _ us hl => match us, hl with | [_, _], _ => rfl
    have K_cread : ClsAt l.prog w K mg base (L2.CX l.prog w) 10 CC "read" (spCread [CR, CC] CC CR B8) := cls_at A_cread (fun f fd F => ok_cread F Z D_sampof M_Clip K_of) fun _ _ _ _ _ _ us hl => match us, hl with | [_, _], _ => rfl
    have D_frac : DefAt l.prog w K mg base CX0 1 "_law_frac" ["_law_top", "_law_bottom"] spFrac := def_at A_frac (fun f fd F => ok_frac F bi) fun _ _ _ _ _ _ us hl => match us, hl with | [_, _], _ => rfl
    have D_word : DefAt l.prog w K mg base CX0 1 "_law_word" ["_law_one"] spWordK := def_at A_word (fun f fd F => ok_word F T) fun _ _ _ _ _ _ us hl => match us, hl with | [_], _ => rfl
    have D_sample : DefAt l.prog w K mg base CX0 3 "_law_sample" ["_law_pen_here"] spSample := def_at A_sample (fun f fd F => ok_sample F TR D_pick D_frac) fun _ _ _ _ _ _ us hl => match us, hl with | [_], _ => rfl
    have D_row : DefAt l.prog w K mg base CX0 4 "_law_row" ["_law_pen_here", "_law_most"] spRow := def_at A_row (fun f fd F => ok_row F TR D_draw D_sample) fun _ _ _ _ _ _ us hl => match us, hl with | [_, _], _ => rfl
    have D_lclip : DefAt l.prog w K mg base CX0 9 "_law_clip" ["_law_row_here"] (spLclip CC CR) := def_at A_lclip (fun f fd F => ok_lclip F T M_Ratio K_of) fun _ _ _ _ _ _ us hl => match us, hl with | [_], _ => rfl
    have D_pairs : DefAt l.prog w K mg base CX0 4 "_law_pairs" ["_law_clip_here"] (spPairs CC CR) := def_at A_pairs (fun f fd F => ok_pairs F T G_each) fun _ _ _ _ _ _ us hl => match us, hl with | [_], _ => rfl
    have D_lis : DefG l.prog w K mg base CX0 5 "_law_is" ["_law_clip_here", "_law_row_here"] (spLis CC CR) := def_atG A_lis (fun f fd F => ok_lis F T G_each L_len D_pairs) fun _ _ _ _ _ _ us hl => match us, hl with | [_, _], _ => rfl
    have D_ltext : DefAt l.prog w K mg base CX0 2 "_law_text" ["_law_row_here"] spText := def_at A_ltext (fun f fd F => ok_ltext F T D_word) fun _ _ _ _ _ _ us hl => match us, hl with | [_], _ => rfl
    have D_isfig : DefAt l.prog w K mg base CX0 1 "_law_is_figures" ["_law_text_here"] spIsfig := def_at A_isfig (fun f fd F => ok_isfig F bi) fun _ _ _ _ _ _ us hl => match us, hl with | [_], _ => rfl
    have D_lread : DefAt l.prog w K mg base CX0 2 "_law_read" ["_law_word_here"] spLread := def_at A_lread (fun f fd F => ok_lread F T D_isfig D_frac D_word) fun _ _ _ _ _ _ us hl => match us, hl with | [_], _ => rfl
    have D_ldue : DefAt l.prog w K mg base CX0 3 "_law_due" ["_law_text_here"] spLdue := def_at A_ldue (fun f fd F => ok_ldue F T D_lread) fun _ _ _ _ _ _ us hl => match us, hl with | [_], _ => rfl
    have D_lbent : DefAt l.prog w K mg base CX0 3 "_law_bent" ["_law_pen_here", "_law_text_here"] spLbent := def_at A_lbent (fun f fd F => ok_lbent F TR D_draw D_pick) fun _ _ _ _ _ _ us hl => match us, hl with | [_, _], _ => rfl
    have un1 : ∀ p ∈ [(t1, (("_law_read_right" : Str) ++ ".<locals>.") ++ "<lambda>"), (t2, (("_law_long_right" : Str) ++ ".<locals>.") ++ "<lambda>"), (t3, (("law" : Str) ++ ".<locals>.") ++ "<lambda>")], p.1 = t1 → p.2 = (("_law_read_right" : Str) ++ ".<locals>.") ++ "<lambda>" := by
      intro p hp e
      simp only [List.mem_cons, List.mem_nil_iff, or_false] at hp
      rcases hp with rfl | rfl | rfl
      · exact rfl
      · exact absurd e (Ne.symm _n1_2)
      · exact absurd e (Ne.symm _n1_3)
    have D_readR : DefG l.prog w K mg base CX0 14 "_law_read_right" ["_law_text_here"] (spReadR [(t1, (("_law_read_right" : Str) ++ ".<locals>.") ++ "<lambda>"), (t2, (("_law_long_right" : Str) ++ ".<locals>.") ++ "<lambda>"), (t3, (("law" : Str) ++ ".<locals>.") ++ "<lambda>")]) := ⟨f_1, _, ok_readR ⟨⟨oc_1, od_1, kV_1, dc_1, pm_1, an_1, ct_1, sl_1, rfl, l_1, d_1⟩, k_1⟩ Z TH DH D_fields k_B8 TB1 (.head _) un1 K_cread D_ldue D_lread D_lis, m_1, k_1, .all fun us hl => match us, hl with | [_], _ => rfl⟩
    have un2 : ∀ p ∈ [(t1, (("_law_read_right" : Str) ++ ".<locals>.") ++ "<lambda>"), (t2, (("_law_long_right" : Str) ++ ".<locals>.") ++ "<lambda>"), (t3, (("law" : Str) ++ ".<locals>.") ++ "<lambda>")], p.1 = t2 → p.2 = (("_law_long_right" : Str) ++ ".<locals>.") ++ "<lambda>" := by
      intro p hp e
      simp only [List.mem_cons, List.mem_nil_iff, or_false] at hp
      rcases hp with rfl | rfl | rfl
      · exact absurd e _n1_2
      · exact rfl
      · exact absurd e (Ne.symm _n2_3)
    have D_longR : DefG l.prog w K mg base CX0 14 "_law_long_right" ["_law_pen_here"] (spLongR [(t1, (("_law_read_right" : Str) ++ ".<locals>.") ++ "<lambda>"), (t2, (("_law_long_right" : Str) ++ ".<locals>.") ++ "<lambda>"), (t3, (("law" : Str) ++ ".<locals>.") ++ "<lambda>")]) := ⟨f_2, _, ok_longR ⟨⟨oc_2, od_2, kV_2, dc_2, pm_2, an_2, ct_2, sl_2, rfl, l_2, d_2⟩, k_2⟩ Z TH DH D_fields k_B8 TB2 (.tail _ (.head _)) un2 D_pick K_cread L_len, m_2, k_2, .all fun us hl => match us, hl with | [_], _ => rfl⟩
    have un3 : ∀ p ∈ [(t1, (("_law_read_right" : Str) ++ ".<locals>.") ++ "<lambda>"), (t2, (("_law_long_right" : Str) ++ ".<locals>.") ++ "<lambda>"), (t3, (("law" : Str) ++ ".<locals>.") ++ "<lambda>")], p.1 = t3 → p.2 = (("law" : Str) ++ ".<locals>.") ++ "<lambda>" := by
      intro p hp e
      simp only [List.mem_cons, List.mem_nil_iff, or_false] at hp
      rcases hp with rfl | rfl | rfl
      · exact absurd e _n1_3
      · exact absurd e _n2_3
      · exact rfl
    exact ok_law ⟨⟨oc_3, od_3, kV_3, dc_3, pm_3, an_3, ct_3, sl_3, rfl, l_3, d_3⟩, k_3⟩ Z TH DH D_fields k_B8 TB3 (.tail _ (.tail _ (.head _))) un3 D_pen D_row D_ltext D_lclip ST_cstr K_cread D_lis D_lbent D_readR D_longR M_Clip M_Ratio1
end My
set_option maxHeartbeats 0
namespace HeadL
open PySem PySem.Spec PyProof.Rows L2 My
abbrev P0 : Program := (PySem.Challenge.rw_clipfades_k23_texts_of_clips).prog
def fs : List (PySem.W.Frag → Bool) := [fun K => (He.Fa.glo "Ratio").ok K,
  fun K => (He.Fa.glo "Clip").ok K,
  fun K => (He.Fa.glo "BadLength").ok K,
  fun K => My.attB K (He.ga K "BadLength") "__init__",
  fun K => (He.Fa.glo "BadPlace").ok K,
  fun K => My.attB K (He.ga K "BadPlace") "__init__",
  fun K => (He.Fa.glo "BadSample").ok K,
  fun K => My.attB K (He.ga K "BadSample") "__init__",
  fun K => (He.Fa.glo "TooMany").ok K,
  fun K => My.attB K (He.ga K "TooMany") "__init__",
  fun K => (He.Fa.glo "ClipError").ok K,
  fun K => (He.Fa.glo "BadEdit").ok K,
  fun K => (He.Fa.glo "BadStep").ok K,
  fun K => (He.Fa.glo "NoIndex").ok K,
  fun K => (He.Fa.glo "NoChange").ok K,
  fun K => (He.Fa.glo "BadText").ok K,
  fun K => My.attB K (He.ga K "BadText") "__init__",
  fun K => (He.Fa.free "len").ok K,
  fun K => (He.Fa.free "abs").ok K,
  fun K => (He.Fa.free "int").ok K,
  fun K => (He.Fa.free "bool").ok K,
  fun K => (He.Fa.free "list").ok K,
  fun K => (He.Fa.free "repr").ok K,
  fun K => (He.Fa.free "isinstance").ok K,
  fun K => (He.Fa.free "range").ok K,
  fun K => My.clsB K (He.ga K "Ratio"),
  fun K => He.eqO (PySem.W.findIn K (.ref (He.ga K "Ratio")) "__class__") (some (some (.builtin "object.__class__"))),
  fun K => He.eqO (PySem.W.specialIn K (.builtin "object.__class__") "__get__") (some (some (.builtin "getset_descriptor.__get__"))),
  fun K => decide (PySem.W.takesIn K (.builtin "object.__class__") = some true),
  fun K => decide (PySem.W.mroIn K (He.ga K "Ratio") (.type "object") = some true)] ++ [fun K => decide (PySem.W.kitOne K (.ref (He.ga K "Ratio")) (.ref (He.ga K "Ratio")) = some true),
  fun K => decide (PySem.W.kitOne K (.ref (He.ga K "Ratio")) (.type "int") = some false),
  fun K => My.kindsB K (He.ga K "Ratio"),
  fun K => PySem.W.notFirst K (He.ga K "Ratio") (.ref (He.ga K "Ratio")),
  fun K => PySem.W.makesIn K (He.ga K "Ratio"),
  fun K => PySem.W.keepIn K (.ref (He.ga K "Ratio")),
  fun K => My.clsB K (He.ga K "Clip"),
  fun K => He.eqO (PySem.W.findIn K (.ref (He.ga K "Clip")) "__class__") (some (some (.builtin "object.__class__"))),
  fun K => decide (PySem.W.mroIn K (He.ga K "Clip") (.type "object") = some true),
  fun K => decide (PySem.W.kitOne K (.ref (He.ga K "Clip")) (.ref (He.ga K "Clip")) = some true),
  fun K => decide (PySem.W.kitOne K (.ref (He.ga K "Clip")) (.type "int") = some false),
  fun K => My.kindsB K (He.ga K "Clip"),
  fun K => PySem.W.notFirst K (He.ga K "Clip") (.ref (He.ga K "Clip")),
  fun K => PySem.W.makesIn K (He.ga K "Clip"),
  fun K => PySem.W.keepIn K (.ref (He.ga K "Clip")),
  fun K => decide (PySem.W.kitOne K (.ref (He.ga K "Ratio")) (.ref (He.ga K "Clip")) = some false),
  fun K => PySem.W.notFirst K (He.ga K "Clip") (.ref (He.ga K "Ratio")),
  fun K => decide (PySem.W.kitOne K (.ref (He.ga K "Clip")) (.ref (He.ga K "Ratio")) = some false),
  fun K => PySem.W.notFirst K (He.ga K "Ratio") (.ref (He.ga K "Clip")),
  fun K => decide ([(He.ga K "Ratio"), (He.ga K "Clip")].Nodup),
  fun K => He.eqO (PySem.W.findIn K (.ref (He.ga K "Ratio")) "top") (some none),
  fun K => He.eqO (PySem.W.findIn K (.ref (He.ga K "Ratio")) "bottom") (some none),
  fun K => He.eqO (PySem.W.findIn K (.ref (He.ga K "Clip")) "samples") (some none),
  fun K => (He.Fa.free "str").ok K,
  fun K => (He.Fa.free "tuple").ok K,
  fun K => (He.Fa.free "enumerate").ok K,
  fun K => (He.Fa.free "zip").ok K,
  fun K => My.err1B P0 K "BadLength" "value" "BadLength.__init__",
  fun K => My.err1B P0 K "BadPlace" "value" "BadPlace.__init__",
  fun K => My.err1B P0 K "BadSample" "at" "BadSample.__init__"] ++ [fun K => My.err2B P0 K "TooMany" "what" "most" "TooMany.__init__",
  fun K => My.creadB K (He.ga K "Clip") && My.cvalB K (He.ga K "Clip") "LONGEST" (.int 2000),
  fun K => He.eqO (PySem.W.findIn K (.ref (He.ga K "Clip")) "__ne__") (some (some (.builtin "object.__ne__"))),
  fun K => PySem.W.noSeq K (He.ga K "Clip"),
  fun K => My.fnB K (He.ga K "Ratio") "__init__" && My.fdB K (He.ma K (He.ga K "Ratio") "__init__") "Ratio.__init__" [.int 1],
  fun K => My.statB K (He.ga K "Ratio") "is_number" && My.fdB K (My.sAt "staticmethod" K (He.ga K "Ratio") "is_number") "Ratio.is_number" [],
  fun K => My.statB K (He.ga K "Ratio") "of" && My.fdB K (My.sAt "staticmethod" K (He.ga K "Ratio") "of") "Ratio.of" [],
  fun K => My.fnB K (He.ga K "Clip") "__init__" && My.fdB K (He.ma K (He.ga K "Clip") "__init__") "Clip.__init__" [],
  fun K => (My.creadB K (He.ga K "Clip") && My.cmetB K (He.ga K "Clip") "of") && My.fdB K (My.sAt "classmethod" K (He.ga K "Clip") "of") "Clip.of" [],
  fun K => (He.Fa.glo "is_whole").ok K && My.fdB K (He.ga K "is_whole") "is_whole" [],
  fun K => (He.Fa.glo "common_divisor").ok K && My.fdB K (He.ga K "common_divisor") "common_divisor" [],
  fun K => (He.Fa.glo "parts_of").ok K && My.fdB K (He.ga K "parts_of") "parts_of" [],
  fun K => (He.Fa.glo "ratio_of").ok K && My.fdB K (He.ga K "ratio_of") "ratio_of" [],
  fun K => (He.Fa.glo "_law_pen").ok K && My.fdB K (He.ga K "_law_pen") "_law_pen" [],
  fun K => (He.Fa.glo "_law_draw").ok K && My.fdB K (He.ga K "_law_draw") "_law_draw" [],
  fun K => (He.Fa.glo "_law_pick").ok K && My.fdB K (He.ga K "_law_pick") "_law_pick" [],
  fun K => (He.Fa.free "ValueError").ok K,
  fun K => (He.Fa.glo "_law_errors").ok K && My.fdB K (He.ga K "_law_errors") "_law_errors" [],
  fun K => (He.Fa.glo "_law_fields").ok K && My.fdB K (He.ga K "_law_fields") "_law_fields" [],
  fun K => My.err2B P0 K "BadText" "line" "word" "BadText.__init__",
  fun K => decide (PySem.W.exmOne K (.ref (He.ga K "BadText")) (.ref (He.ga K "ClipError")) = some true),
  fun K => My.excKB K (He.ga K "BadText"),
  fun K => decide (PySem.W.kitOne K (.ref (He.ga K "BadText")) (.ref (He.ga K "BadSample")) = some false),
  fun K => decide (PySem.W.kitOne K (.ref (He.ga K "BadText")) (.ref (He.ga K "BadPlace")) = some false),
  fun K => decide (PySem.W.kitOne K (.ref (He.ga K "BadText")) (.ref (He.ga K "BadLength")) = some false),
  fun K => decide (PySem.W.kitOne K (.ref (He.ga K "BadText")) (.ref (He.ga K "BadEdit")) = some false),
  fun K => decide (PySem.W.kitOne K (.ref (He.ga K "BadText")) (.ref (He.ga K "BadStep")) = some false),
  fun K => decide (PySem.W.kitOne K (.ref (He.ga K "BadText")) (.ref (He.ga K "TooMany")) = some false),
  fun K => decide (PySem.W.kitOne K (.ref (He.ga K "BadText")) (.ref (He.ga K "NoIndex")) = some false),
  fun K => decide (PySem.W.kitOne K (.ref (He.ga K "BadText")) (.ref (He.ga K "NoChange")) = some false)] ++ [fun K => decide (PySem.W.kitOne K (.ref (He.ga K "BadText")) (.ref (He.ga K "BadText")) = some true),
  fun K => decide (PySem.W.kitOne K (.ref (He.ga K "BadText")) (.type "ValueError") = some true),
  fun K => decide (PySem.W.exmOne K (.ref (He.ga K "BadText")) (.ref (He.ga K "BadText")) = some true),
  fun K => (He.Fa.int "MOST_DIGITS" 60).ok K,
  fun K => (He.Fa.str "EMPTY" "empty").ok K,
  fun K => (He.Fa.free "all").ok K,
  fun K => decide (PySem.W.kitOne K (.ref (He.ga K "Ratio")) (.type "str") = some false),
  fun K => decide (PySem.W.kitOne K (.ref (He.ga K "Clip")) (.type "str") = some false),
  fun K => My.fnB K (He.ga K "Ratio") "__str__" && My.fdB K (He.ma K (He.ga K "Ratio") "__str__") "Ratio.__str__" [],
  fun K => My.fnB K (He.ga K "Clip") "each" && My.fdB K (He.ma K (He.ga K "Clip") "each") "Clip.each" [],
  fun K => My.fnB K (He.ga K "Clip") "__len__" && My.fdB K (He.ma K (He.ga K "Clip") "__len__") "Clip.__len__" [],
  fun K => My.fnB K (He.ga K "Clip") "__str__" && My.fdB K (He.ma K (He.ga K "Clip") "__str__") "Clip.__str__" [],
  fun K => (My.creadB K (He.ga K "Ratio") && My.cmetB K (He.ga K "Ratio") "read") && My.fdB K (My.sAt "classmethod" K (He.ga K "Ratio") "read") "Ratio.read" [],
  fun K => (My.creadB K (He.ga K "Clip") && My.cmetB K (He.ga K "Clip") "read") && My.fdB K (My.sAt "classmethod" K (He.ga K "Clip") "read") "Clip.read" [],
  fun K => (He.Fa.glo "figures_of").ok K && My.fdB K (He.ga K "figures_of") "figures_of" [],
  fun K => (He.Fa.glo "sample_of").ok K && My.fdB K (He.ga K "sample_of") "sample_of" [],
  fun K => (He.Fa.glo "_law_frac").ok K && My.fdB K (He.ga K "_law_frac") "_law_frac" [],
  fun K => (He.Fa.glo "_law_word").ok K && My.fdB K (He.ga K "_law_word") "_law_word" [],
  fun K => (He.Fa.glo "_law_sample").ok K && My.fdB K (He.ga K "_law_sample") "_law_sample" [],
  fun K => (He.Fa.glo "_law_row").ok K && My.fdB K (He.ga K "_law_row") "_law_row" [],
  fun K => (He.Fa.glo "_law_clip").ok K && My.fdB K (He.ga K "_law_clip") "_law_clip" [],
  fun K => (He.Fa.glo "_law_pairs").ok K && My.fdB K (He.ga K "_law_pairs") "_law_pairs" [],
  fun K => (He.Fa.glo "_law_is").ok K && My.fdB K (He.ga K "_law_is") "_law_is" [],
  fun K => (He.Fa.glo "_law_text").ok K && My.fdB K (He.ga K "_law_text") "_law_text" [],
  fun K => (He.Fa.glo "_law_is_figures").ok K && My.fdB K (He.ga K "_law_is_figures") "_law_is_figures" [],
  fun K => (He.Fa.glo "_law_read").ok K && My.fdB K (He.ga K "_law_read") "_law_read" [],
  fun K => (He.Fa.glo "_law_due").ok K && My.fdB K (He.ga K "_law_due") "_law_due" [],
  fun K => (He.Fa.glo "_law_bent").ok K && My.fdB K (He.ga K "_law_bent") "_law_bent" [],
  fun K => (He.Fa.glo "_law_read_right").ok K && My.fdB K (He.ga K "_law_read_right") "_law_read_right" [],
  fun K => (He.Fa.glo "_law_long_right").ok K && My.fdB K (He.ga K "_law_long_right") "_law_long_right" []] ++ [fun K => (He.Fa.glo "law").ok K && My.fdB K (He.ga K "law") "law" [],
  fun K => decide (¬ (He.tabOf K (My.cAt K (He.ga K "_law_read_right"))) = (He.tabOf K (My.cAt K (He.ga K "_law_long_right")))),
  fun K => decide (¬ (He.tabOf K (My.cAt K (He.ga K "_law_read_right"))) = (He.tabOf K (My.cAt K (He.ga K "law")))),
  fun K => decide (¬ (He.tabOf K (My.cAt K (He.ga K "_law_long_right"))) = (He.tabOf K (My.cAt K (He.ga K "law"))))]
def fn : List My.FD := [⟨fun K => He.ma K (He.ga K "BadLength") "__init__", "__init__", "BadLength.__init__", My.s_eBadLength, []⟩,
  ⟨fun K => He.ma K (He.ga K "BadPlace") "__init__", "__init__", "BadPlace.__init__", My.s_eBadPlace, []⟩,
  ⟨fun K => He.ma K (He.ga K "BadSample") "__init__", "__init__", "BadSample.__init__", My.s_eBadSample, []⟩,
  ⟨fun K => He.ma K (He.ga K "TooMany") "__init__", "__init__", "TooMany.__init__", My.s_eTooMany, []⟩,
  ⟨fun K => He.ma K (He.ga K "Ratio") "__init__", "__init__", "Ratio.__init__", My.s_rinit, []⟩,
  ⟨fun K => My.sAt "staticmethod" K (He.ga K "Ratio") "is_number", "is_number", "Ratio.is_number", My.s_isnum, []⟩,
  ⟨fun K => My.sAt "staticmethod" K (He.ga K "Ratio") "of", "of", "Ratio.of", My.s_of, []⟩,
  ⟨fun K => He.ma K (He.ga K "Clip") "__init__", "__init__", "Clip.__init__", My.s_cinit, []⟩,
  ⟨fun K => My.sAt "classmethod" K (He.ga K "Clip") "of", "of", "Clip.of", My.s_cof, []⟩,
  ⟨fun K => He.ga K "is_whole", "is_whole", "is_whole", My.s_whole0, []⟩,
  ⟨fun K => He.ga K "common_divisor", "common_divisor", "common_divisor", My.s_cd, []⟩,
  ⟨fun K => He.ga K "parts_of", "parts_of", "parts_of", My.s_partsof, []⟩,
  ⟨fun K => He.ga K "ratio_of", "ratio_of", "ratio_of", My.s_ratof, []⟩,
  ⟨fun K => He.ga K "_law_pen", "_law_pen", "_law_pen", My.s_pen, []⟩,
  ⟨fun K => He.ga K "_law_draw", "_law_draw", "_law_draw", My.s_draw, []⟩,
  ⟨fun K => He.ga K "_law_pick", "_law_pick", "_law_pick", My.s_pick, []⟩,
  ⟨fun K => He.ga K "_law_errors", "_law_errors", "_law_errors", My.s_errors, []⟩,
  ⟨fun K => He.ga K "_law_fields", "_law_fields", "_law_fields", My.s_fields, []⟩,
  ⟨fun K => He.ma K (He.ga K "BadText") "__init__", "__init__", "BadText.__init__", My.s_eBadText, []⟩,
  ⟨fun K => He.ma K (He.ga K "Ratio") "__str__", "__str__", "Ratio.__str__", My.s_rstr, []⟩,
  ⟨fun K => He.ma K (He.ga K "Clip") "each", "each", "Clip.each", My.s_ceach, []⟩,
  ⟨fun K => He.ma K (He.ga K "Clip") "__len__", "__len__", "Clip.__len__", My.s_clen, []⟩,
  ⟨fun K => He.ma K (He.ga K "Clip") "__str__", "__str__", "Clip.__str__", My.s_cstr, []⟩,
  ⟨fun K => My.sAt "classmethod" K (He.ga K "Ratio") "read", "read", "Ratio.read", My.s_rread, []⟩,
  ⟨fun K => My.sAt "classmethod" K (He.ga K "Clip") "read", "read", "Clip.read", My.s_cread, []⟩,
  ⟨fun K => He.ga K "figures_of", "figures_of", "figures_of", My.s_figof, []⟩,
  ⟨fun K => He.ga K "sample_of", "sample_of", "sample_of", My.s_sampof, []⟩,
  ⟨fun K => He.ga K "_law_frac", "_law_frac", "_law_frac", My.s_frac, []⟩,
  ⟨fun K => He.ga K "_law_word", "_law_word", "_law_word", My.s_word, []⟩,
  ⟨fun K => He.ga K "_law_sample", "_law_sample", "_law_sample", My.s_sample, []⟩] ++ [⟨fun K => He.ga K "_law_row", "_law_row", "_law_row", My.s_row, []⟩,
  ⟨fun K => He.ga K "_law_clip", "_law_clip", "_law_clip", My.s_lclip, []⟩,
  ⟨fun K => He.ga K "_law_pairs", "_law_pairs", "_law_pairs", My.s_pairs, []⟩,
  ⟨fun K => He.ga K "_law_is", "_law_is", "_law_is", My.s_lis, []⟩,
  ⟨fun K => He.ga K "_law_text", "_law_text", "_law_text", My.s_ltext, []⟩,
  ⟨fun K => He.ga K "_law_is_figures", "_law_is_figures", "_law_is_figures", My.s_isfig, []⟩,
  ⟨fun K => He.ga K "_law_read", "_law_read", "_law_read", My.s_lread, []⟩,
  ⟨fun K => He.ga K "_law_due", "_law_due", "_law_due", My.s_ldue, []⟩,
  ⟨fun K => He.ga K "_law_bent", "_law_bent", "_law_bent", My.s_lbent, []⟩,
  ⟨fun K => He.ga K "_law_read_right", "_law_read_right", "_law_read_right", My.s_readR, []⟩,
  ⟨fun K => He.ga K "_law_long_right", "_law_long_right", "_law_long_right", My.s_longR, []⟩,
  ⟨fun K => He.ga K "law", "law", "law", My.s_law, []⟩]
def tf : List (PySem.W.Frag → Addr) := [fun K => He.ga K "_law_read_right",
  fun K => He.ga K "_law_long_right",
  fun K => He.ga K "law"]
def sl : List My.Sel := [.cls "BadLength",
  .cls "BadPlace",
  .cls "BadSample",
  .cls "TooMany",
  .cls "BadText",
  .cls "Ratio",
  .cls "Clip",
  .cls "ClipError",
  .cls "BadEdit",
  .cls "BadStep",
  .cls "NoIndex",
  .cls "NoChange",
  .fn "is_whole",
  .fn "common_divisor",
  .fn "parts_of",
  .fn "ratio_of",
  .fn "_law_pen",
  .fn "_law_draw",
  .fn "_law_pick",
  .fn "_law_errors",
  .fn "_law_fields",
  .fn "figures_of",
  .fn "sample_of",
  .fn "_law_frac",
  .fn "_law_word",
  .fn "_law_sample",
  .fn "_law_row",
  .fn "_law_clip",
  .fn "_law_pairs",
  .fn "_law_is"] ++ [.fn "_law_text",
  .fn "_law_is_figures",
  .fn "_law_read",
  .fn "_law_due",
  .fn "_law_bent",
  .fn "_law_read_right",
  .fn "_law_long_right",
  .fn "law",
  .meth "BadLength" "__init__",
  .meth "BadPlace" "__init__",
  .meth "BadSample" "__init__",
  .meth "TooMany" "__init__",
  .meth "BadText" "__init__",
  .meth "Ratio" "__init__",
  .rcd "Ratio" "is_number",
  .rcd "Ratio" "of",
  .meth "Clip" "__init__",
  .rcd "Clip" "of",
  .meth "Ratio" "__str__",
  .meth "Clip" "each",
  .meth "Clip" "__len__",
  .meth "Clip" "__str__",
  .rcd "Ratio" "read",
  .rcd "Clip" "read"]
abbrev hk : PySem.W.Hook := My.hookM sl fs fn tf
def ob (s : PySem.W.SharedT) : My.AM := My.obsM sl fs fn tf (HandSHeadRun.getT s)
theorem ob_eq (s : PySem.W.SharedT) : ob s = hk.obs s.abs := My.obsM_eq (HandSHeadRun.getT_eq s)
def names : List PySem.Str := (["_wall", "ClipError", "BadRatio", "NoDivisor", "BadPlace", "NoIndex", "BadLength", "BadSample", "BadEdit", "BadStep", "TooMany", "NoChange", "BadText", "MOST_DIGITS", "is_whole", "common_divisor", "figures_of", "parts_of", "floor_of", "Ratio", "is_integer", "is_between", "Step", "EMPTY", "need_place", "is_stretch", "need_stretch", "ratio_of", "sample_of", "Clip"] : List PySem.Str) ++ (["_law_pen", "_law_draw", "_law_pick", "_law_frac", "_law_word", "_law_sample", "_law_row", "_law_clip", "_law_pairs", "_law_is", "_law_text", "_law_errors", "_law_fields", "_law_is_figures", "_law_read", "_law_due", "_law_bent", "_law_read_right", "_law_long_right"] : List PySem.Str)
theorem run (w : World) : HandSHeadRun.RunEq (PySem.W.OpenLaw.row PySem.Challenge.rw_clipfades_k23_texts_of_clips) (PySem.W.view (PySem.W.OpenLaw.row PySem.Challenge.rw_clipfades_k23_texts_of_clips).prog [54]) hk ob 60000 names w := by
  intro os
  kernel_rfl
theorem law_of {w : World} {K : PySem.W.Frag} {h : Heap} {mg : Str → Option Value} {fa : Addr} (KX : K.In h) (G : h.Ns mainGlobals mg) (hmg : mg ("law" : Str) = some (.ref fa)) (c : My.SaysM fs fn tf h K) : My.LawG PySem.Challenge.rw_clipfades_k23_texts_of_clips w K 15 63 "_law_script" mg fa h := by
  have h_gR : mg "Ratio" = some (.ref (He.ga K "Ratio")) := (He.glo_ok KX G (c.facts 0 _ rfl))
  have h_gC : mg "Clip" = some (.ref (He.ga K "Clip")) := (He.glo_ok KX G (c.facts 1 _ rfl))
  have h_gBadLength : mg "BadLength" = some (.ref (He.ga K "BadLength")) := (He.glo_ok KX G (c.facts 2 _ rfl))
  have h_iBadLength : PySem.W.findIn K (.ref (He.ga K "BadLength")) "__init__" = some (some (.ref (He.ma K (He.ga K "BadLength") "__init__"))) := (He.eqO_ok (c.facts 3 _ rfl))
  have h_gBadPlace : mg "BadPlace" = some (.ref (He.ga K "BadPlace")) := (He.glo_ok KX G (c.facts 4 _ rfl))
  have h_iBadPlace : PySem.W.findIn K (.ref (He.ga K "BadPlace")) "__init__" = some (some (.ref (He.ma K (He.ga K "BadPlace") "__init__"))) := (He.eqO_ok (c.facts 5 _ rfl))
  have h_gBadSample : mg "BadSample" = some (.ref (He.ga K "BadSample")) := (He.glo_ok KX G (c.facts 6 _ rfl))
  have h_iBadSample : PySem.W.findIn K (.ref (He.ga K "BadSample")) "__init__" = some (some (.ref (He.ma K (He.ga K "BadSample") "__init__"))) := (He.eqO_ok (c.facts 7 _ rfl))
  have h_gTooMany : mg "TooMany" = some (.ref (He.ga K "TooMany")) := (He.glo_ok KX G (c.facts 8 _ rfl))
  have h_iTooMany : PySem.W.findIn K (.ref (He.ga K "TooMany")) "__init__" = some (some (.ref (He.ma K (He.ga K "TooMany") "__init__"))) := (He.eqO_ok (c.facts 9 _ rfl))
  have h_gE : mg "ClipError" = some (.ref (He.ga K "ClipError")) := (He.glo_ok KX G (c.facts 10 _ rfl))
  have h_gBadEdit : mg "BadEdit" = some (.ref (He.ga K "BadEdit")) := (He.glo_ok KX G (c.facts 11 _ rfl))
  have h_gBadStep : mg "BadStep" = some (.ref (He.ga K "BadStep")) := (He.glo_ok KX G (c.facts 12 _ rfl))
  have h_gNoIndex : mg "NoIndex" = some (.ref (He.ga K "NoIndex")) := (He.glo_ok KX G (c.facts 13 _ rfl))
  have h_gNoChange : mg "NoChange" = some (.ref (He.ga K "NoChange")) := (He.glo_ok KX G (c.facts 14 _ rfl))
  have h_gBadText : mg "BadText" = some (.ref (He.ga K "BadText")) := (He.glo_ok KX G (c.facts 15 _ rfl))
  have h_iBadText : PySem.W.findIn K (.ref (He.ga K "BadText")) "__init__" = some (some (.ref (He.ma K (He.ga K "BadText") "__init__"))) := (He.eqO_ok (c.facts 16 _ rfl))
  have h_bi : BI mg := ⟨(He.free_ok KX G (c.facts 17 _ rfl)), (He.free_ok KX G (c.facts 18 _ rfl)), (He.free_ok KX G (c.facts 19 _ rfl)), (He.free_ok KX G (c.facts 20 _ rfl)), (He.free_ok KX G (c.facts 21 _ rfl)), (He.free_ok KX G (c.facts 22 _ rfl)), (He.free_ok KX G (c.facts 23 _ rfl)), (He.free_ok KX G (c.facts 24 _ rfl))⟩
  have h_o_CR : Own K (He.ga K "Ratio") := ⟨(My.clsB_ok (c.facts 25 _ rfl)), (He.eqO_ok (c.facts 26 _ rfl)), (He.eqO_ok (c.facts 27 _ rfl)), (of_decide_eq_true (c.facts 28 _ rfl)), (of_decide_eq_true (c.facts 29 _ rfl)), (of_decide_eq_true (c.facts 30 _ rfl)), (of_decide_eq_true (c.facts 31 _ rfl)), (My.kindsB_ok (c.facts 32 _ rfl)), (c.facts 33 _ rfl)⟩
  have h_mk_CR : PySem.W.makesIn K (He.ga K "Ratio") = true := (c.facts 34 _ rfl)
  have h_kp_CR : PySem.W.keepIn K (.ref (He.ga K "Ratio")) = true := (c.facts 35 _ rfl)
  have h_o_CC : Own K (He.ga K "Clip") := ⟨(My.clsB_ok (c.facts 36 _ rfl)), (He.eqO_ok (c.facts 37 _ rfl)), (He.eqO_ok (c.facts 27 _ rfl)), (of_decide_eq_true (c.facts 28 _ rfl)), (of_decide_eq_true (c.facts 38 _ rfl)), (of_decide_eq_true (c.facts 39 _ rfl)), (of_decide_eq_true (c.facts 40 _ rfl)), (My.kindsB_ok (c.facts 41 _ rfl)), (c.facts 42 _ rfl)⟩
  have h_mk_CC : PySem.W.makesIn K (He.ga K "Clip") = true := (c.facts 43 _ rfl)
  have h_kp_CC : PySem.W.keepIn K (.ref (He.ga K "Clip")) = true := (c.facts 44 _ rfl)
  have h_x_CR_CC : PySem.W.kitOne K (.ref (He.ga K "Ratio")) (.ref (He.ga K "Clip")) = some false ∧ PySem.W.notFirst K (He.ga K "Clip") (.ref (He.ga K "Ratio")) = true := ⟨(of_decide_eq_true (c.facts 45 _ rfl)), (c.facts 46 _ rfl)⟩
  have h_x_CC_CR : PySem.W.kitOne K (.ref (He.ga K "Clip")) (.ref (He.ga K "Ratio")) = some false ∧ PySem.W.notFirst K (He.ga K "Ratio") (.ref (He.ga K "Clip")) = true := ⟨(of_decide_eq_true (c.facts 47 _ rfl)), (c.facts 48 _ rfl)⟩
  have h_nd : [(He.ga K "Ratio"), (He.ga K "Clip")].Nodup := (of_decide_eq_true (c.facts 49 _ rfl))
  have h_n_top : NoAttr K (He.ga K "Ratio") "top" := (He.eqO_ok (c.facts 50 _ rfl))
  have h_n_bottom : NoAttr K (He.ga K "Ratio") "bottom" := (He.eqO_ok (c.facts 51 _ rfl))
  have h_n_samples : NoAttr K (He.ga K "Clip") "samples" := (He.eqO_ok (c.facts 52 _ rfl))
  have h_z_str : mg "str" = none := (He.free_ok KX G (c.facts 53 _ rfl))
  have h_z_tuple : mg "tuple" = none := (He.free_ok KX G (c.facts 54 _ rfl))
  have h_z_enumerate : mg "enumerate" = none := (He.free_ok KX G (c.facts 55 _ rfl))
  have h_z_zip : mg "zip" = none := (He.free_ok KX G (c.facts 56 _ rfl))
  have h_e_BadLength : Sup.Err1 P0 K mg "BadLength" "value" (He.ga K "BadLength") (He.ma K (He.ga K "BadLength") "__init__") := (My.err1_ok KX G My.nm_value (c.facts 57 _ rfl) (c.defs 0 _ rfl) ⟨_, _, rfl⟩ ⟨_, _, _, _, _, _, _, _, _, _, rfl, rfl⟩ rfl (by decide +kernel))
  have h_e_BadPlace : Sup.Err1 P0 K mg "BadPlace" "value" (He.ga K "BadPlace") (He.ma K (He.ga K "BadPlace") "__init__") := (My.err1_ok KX G My.nm_value (c.facts 58 _ rfl) (c.defs 1 _ rfl) ⟨_, _, rfl⟩ ⟨_, _, _, _, _, _, _, _, _, _, rfl, rfl⟩ rfl (by decide +kernel))
  have h_e_BadSample : Sup.Err1 P0 K mg "BadSample" "at" (He.ga K "BadSample") (He.ma K (He.ga K "BadSample") "__init__") := (My.err1_ok KX G My.nm_at (c.facts 59 _ rfl) (c.defs 2 _ rfl) ⟨_, _, rfl⟩ ⟨_, _, _, _, _, _, _, _, _, _, rfl, rfl⟩ rfl (by decide +kernel))
  have h_e_TooMany : Sup.Err2 P0 K mg "TooMany" "what" "most" (He.ga K "TooMany") (He.ma K (He.ga K "TooMany") "__init__") := (My.err2_ok KX G My.nm2_what_most (c.facts 60 _ rfl) (c.defs 3 _ rfl) ⟨_, _, _, rfl⟩ ⟨_, _, _, _, _, _, _, _, _, _, _, _, _, _, _, rfl, rfl⟩ rfl (by decide +kernel))
  have h_rd : ∃ mc u, ClX.CRead K (He.ga K "Clip") mc ∧ ClX.CVal K (He.ga K "Clip") mc "LONGEST" (.int 2000) u := (My.valM1 (v := .int 2000) (c.facts 61 _ rfl))
  have h_hm : PySem.W.mroIn K (He.ga K "Clip") (.type "object") = some true := (of_decide_eq_true (c.facts 38 _ rfl))
  have h_ne0 : PySem.W.findIn K (.ref (He.ga K "Clip")) "__ne__" = some (some (.builtin "object.__ne__")) := (He.eqO_ok (c.facts 62 _ rfl))
  have h_nq : PySem.W.noSeq K (He.ga K "Clip") = true := (c.facts 63 _ rfl)
  have h_A_rinit : HasD K (He.ga K "Ratio") "__init__" "Ratio.__init__" s_rinit [.int 1] [] := (My.hasDM (c.defs 4 _ rfl) (c.facts 64 _ rfl))
  have h_A_isnum : HasS K (He.ga K "Ratio") "is_number" "Ratio.is_number" s_isnum := (My.hasSM (c.defs 5 _ rfl) (c.facts 65 _ rfl))
  have h_A_of : HasS K (He.ga K "Ratio") "of" "Ratio.of" s_of := (My.hasSM (c.defs 6 _ rfl) (c.facts 66 _ rfl))
  have h_A_cinit : HasM K (He.ga K "Clip") "__init__" "Clip.__init__" s_cinit := (My.hasMM (c.defs 7 _ rfl) (c.facts 67 _ rfl))
  have h_A_cof : HasCM K (He.ga K "Clip") "of" "Clip.of" s_cof := (My.hasCMM (c.defs 8 _ rfl) (c.facts 68 _ rfl))
  have h_A_whole0 : Has K mg "is_whole" s_whole0 := (My.hasM0 KX G (c.defs 9 _ rfl) (c.facts 69 _ rfl))
  have h_A_cd : Has K mg "common_divisor" s_cd := (My.hasM0 KX G (c.defs 10 _ rfl) (c.facts 70 _ rfl))
  have h_A_partsof : Has K mg "parts_of" s_partsof := (My.hasM0 KX G (c.defs 11 _ rfl) (c.facts 71 _ rfl))
  have h_A_ratof : Has K mg "ratio_of" s_ratof := (My.hasM0 KX G (c.defs 12 _ rfl) (c.facts 72 _ rfl))
  have h_A_pen : Has K mg "_law_pen" s_pen := (My.hasM0 KX G (c.defs 13 _ rfl) (c.facts 73 _ rfl))
  have h_A_draw : Has K mg "_law_draw" s_draw := (My.hasM0 KX G (c.defs 14 _ rfl) (c.facts 74 _ rfl))
  have h_A_pick : Has K mg "_law_pick" s_pick := (My.hasM0 KX G (c.defs 15 _ rfl) (c.facts 75 _ rfl))
  have h_z_ValueError : mg "ValueError" = none := (He.free_ok KX G (c.facts 76 _ rfl))
  have h_TH : ETx K mg (He.ga K "ClipError") (He.ga K "BadSample") (He.ga K "BadPlace") (He.ga K "BadLength") (He.ga K "BadEdit") (He.ga K "BadStep") (He.ga K "TooMany") (He.ga K "NoIndex") (He.ga K "NoChange") (He.ga K "BadText") := ⟨h_bi, h_gE, h_gBadSample, h_gBadPlace, h_gBadLength, h_gBadEdit, h_gBadStep, h_gTooMany, h_gNoIndex, h_gNoChange, h_gBadText, h_z_ValueError⟩
  have h_A_errors : Has K mg "_law_errors" s_errors := (My.hasM0 KX G (c.defs 16 _ rfl) (c.facts 77 _ rfl))
  have h_A_fields : Has K mg "_law_fields" s_fields := (My.hasM0 KX G (c.defs 17 _ rfl) (c.facts 78 _ rfl))
  have h_e_BadText : Sup.Err2 P0 K mg "BadText" "line" "word" (He.ga K "BadText") (He.ma K (He.ga K "BadText") "__init__") := (My.err2_ok KX G My.nm2_line_word (c.facts 79 _ rfl) (c.defs 18 _ rfl) ⟨_, _, _, rfl⟩ ⟨_, _, _, _, _, _, _, _, _, _, _, _, _, _, _, rfl, rfl⟩ rfl (by decide +kernel))
  have h_k_B8 : Kd K (He.ga K "ClipError") (He.ga K "BadSample") (He.ga K "BadPlace") (He.ga K "BadLength") (He.ga K "BadEdit") (He.ga K "BadStep") (He.ga K "TooMany") (He.ga K "NoIndex") (He.ga K "NoChange") (He.ga K "BadText") (He.ga K "BadText") 8 := ⟨(of_decide_eq_true (c.facts 80 _ rfl)), (My.excKB_ok (c.facts 81 _ rfl)), h_e_BadText.rd, (of_decide_eq_true (c.facts 82 _ rfl)), (of_decide_eq_true (c.facts 83 _ rfl)), (of_decide_eq_true (c.facts 84 _ rfl)), (of_decide_eq_true (c.facts 85 _ rfl)), (of_decide_eq_true (c.facts 86 _ rfl)), (of_decide_eq_true (c.facts 87 _ rfl)), (of_decide_eq_true (c.facts 88 _ rfl)), (of_decide_eq_true (c.facts 89 _ rfl)), (of_decide_eq_true (c.facts 90 _ rfl)), (of_decide_eq_true (c.facts 91 _ rfl))⟩
  have h_xT : PySem.W.exmOne K (.ref (He.ga K "BadText")) (.ref (He.ga K "BadText")) = some true := (of_decide_eq_true (c.facts 92 _ rfl))
  have h_gMost : ∃ t, mg "MOST_DIGITS" = some (.int 60 t) := (He.int_ok KX G (c.facts 93 _ rfl))
  have h_gEmpty : ∃ t, mg "EMPTY" = some (.str "empty" t) := (He.str_ok KX G (c.facts 94 _ rfl))
  have h_z_all : mg "all" = none := (He.free_ok KX G (c.facts 95 _ rfl))
  have h_ns_CR : PySem.W.kitOne K (.ref (He.ga K "Ratio")) (.type "str") = some false := (of_decide_eq_true (c.facts 96 _ rfl))
  have h_ns_CC : PySem.W.kitOne K (.ref (He.ga K "Clip")) (.type "str") = some false := (of_decide_eq_true (c.facts 97 _ rfl))
  have h_A_rstr : HasM K (He.ga K "Ratio") "__str__" "Ratio.__str__" s_rstr := (My.hasMM (c.defs 19 _ rfl) (c.facts 98 _ rfl))
  have h_A_ceach : HasM K (He.ga K "Clip") "each" "Clip.each" s_ceach := (My.hasMM (c.defs 20 _ rfl) (c.facts 99 _ rfl))
  have h_A_clen : HasM K (He.ga K "Clip") "__len__" "Clip.__len__" s_clen := (My.hasMM (c.defs 21 _ rfl) (c.facts 100 _ rfl))
  have h_A_cstr : HasM K (He.ga K "Clip") "__str__" "Clip.__str__" s_cstr := (My.hasMM (c.defs 22 _ rfl) (c.facts 101 _ rfl))
  have h_A_rread : HasCM K (He.ga K "Ratio") "read" "Ratio.read" s_rread := (My.hasCMM (c.defs 23 _ rfl) (c.facts 102 _ rfl))
  have h_A_cread : HasCM K (He.ga K "Clip") "read" "Clip.read" s_cread := (My.hasCMM (c.defs 24 _ rfl) (c.facts 103 _ rfl))
  have h_A_figof : Has K mg "figures_of" s_figof := (My.hasM0 KX G (c.defs 25 _ rfl) (c.facts 104 _ rfl))
  have h_A_sampof : Has K mg "sample_of" s_sampof := (My.hasM0 KX G (c.defs 26 _ rfl) (c.facts 105 _ rfl))
  have h_A_frac : Has K mg "_law_frac" s_frac := (My.hasM0 KX G (c.defs 27 _ rfl) (c.facts 106 _ rfl))
  have h_A_word : Has K mg "_law_word" s_word := (My.hasM0 KX G (c.defs 28 _ rfl) (c.facts 107 _ rfl))
  have h_A_sample : Has K mg "_law_sample" s_sample := (My.hasM0 KX G (c.defs 29 _ rfl) (c.facts 108 _ rfl))
  have h_A_row : Has K mg "_law_row" s_row := (My.hasM0 KX G (c.defs 30 _ rfl) (c.facts 109 _ rfl))
  have h_A_lclip : Has K mg "_law_clip" s_lclip := (My.hasM0 KX G (c.defs 31 _ rfl) (c.facts 110 _ rfl))
  have h_A_pairs : Has K mg "_law_pairs" s_pairs := (My.hasM0 KX G (c.defs 32 _ rfl) (c.facts 111 _ rfl))
  have h_A_lis : Has K mg "_law_is" s_lis := (My.hasM0 KX G (c.defs 33 _ rfl) (c.facts 112 _ rfl))
  have h_A_ltext : Has K mg "_law_text" s_ltext := (My.hasM0 KX G (c.defs 34 _ rfl) (c.facts 113 _ rfl))
  have h_A_isfig : Has K mg "_law_is_figures" s_isfig := (My.hasM0 KX G (c.defs 35 _ rfl) (c.facts 114 _ rfl))
  have h_A_lread : Has K mg "_law_read" s_lread := (My.hasM0 KX G (c.defs 36 _ rfl) (c.facts 115 _ rfl))
  have h_A_ldue : Has K mg "_law_due" s_ldue := (My.hasM0 KX G (c.defs 37 _ rfl) (c.facts 116 _ rfl))
  have h_A_lbent : Has K mg "_law_bent" s_lbent := (My.hasM0 KX G (c.defs 38 _ rfl) (c.facts 117 _ rfl))
  have h_A_readR : HasC K mg "_law_read_right" s_readR (My.cAt K (He.ga K "_law_read_right")) := (My.hasCM KX G (c.defs 39 _ rfl) (c.facts 118 _ rfl))
  have h_T1 : TabF K h ((My.cAt K (He.ga K "_law_read_right")), (He.tabOf K (My.cAt K (He.ga K "_law_read_right")))) := (My.tabFM KX c 0 rfl)
  have h_A_longR : HasC K mg "_law_long_right" s_longR (My.cAt K (He.ga K "_law_long_right")) := (My.hasCM KX G (c.defs 40 _ rfl) (c.facts 119 _ rfl))
  have h_T2 : TabF K h ((My.cAt K (He.ga K "_law_long_right")), (He.tabOf K (My.cAt K (He.ga K "_law_long_right")))) := (My.tabFM KX c 1 rfl)
  have h_A_law : HasC K mg "law" s_law (My.cAt K (He.ga K "law")) := (My.hasCM KX G (c.defs 41 _ rfl) (c.facts 120 _ rfl))
  have h_T3 : TabF K h ((My.cAt K (He.ga K "law")), (He.tabOf K (My.cAt K (He.ga K "law")))) := (My.tabFM KX c 2 rfl)
  have h_n1_2 : ¬ (He.tabOf K (My.cAt K (He.ga K "_law_read_right"))) = (He.tabOf K (My.cAt K (He.ga K "_law_long_right"))) := (of_decide_eq_true (c.facts 121 _ rfl))
  have h_n1_3 : ¬ (He.tabOf K (My.cAt K (He.ga K "_law_read_right"))) = (He.tabOf K (My.cAt K (He.ga K "law"))) := (of_decide_eq_true (c.facts 122 _ rfl))
  have h_n2_3 : ¬ (He.tabOf K (My.cAt K (He.ga K "_law_long_right"))) = (He.tabOf K (My.cAt K (He.ga K "law"))) := (of_decide_eq_true (c.facts 123 _ rfl))
  exact My.all_mk (l := PySem.Challenge.rw_clipfades_k23_texts_of_clips) (K := K) (CR := He.ga K "Ratio") (CC := He.ga K "Clip") (CL := He.ga K "BadLength") (fL := He.ma K (He.ga K "BadLength") "__init__") (CP := He.ga K "BadPlace") (fP := He.ma K (He.ga K "BadPlace") "__init__") (CS := He.ga K "BadSample") (fS := He.ma K (He.ga K "BadSample") "__init__") (CM := He.ga K "TooMany") (fM := He.ma K (He.ga K "TooMany") "__init__") (CE := He.ga K "ClipError") (B3 := He.ga K "BadEdit") (B4 := He.ga K "BadStep") (B6 := He.ga K "NoIndex") (B7 := He.ga K "NoChange") (B8 := He.ga K "BadText") (fT := He.ma K (He.ga K "BadText") "__init__") (c1 := My.cAt K (He.ga K "_law_read_right")) (t1 := He.tabOf K (My.cAt K (He.ga K "_law_read_right"))) (c2 := My.cAt K (He.ga K "_law_long_right")) (t2 := He.tabOf K (My.cAt K (He.ga K "_law_long_right"))) (c3 := My.cAt K (He.ga K "law")) (t3 := He.tabOf K (My.cAt K (He.ga K "law"))) hmg h_gR h_gC h_gBadLength h_iBadLength h_gBadPlace h_iBadPlace h_gBadSample h_iBadSample h_gTooMany h_iTooMany h_gE h_gBadEdit h_gBadStep h_gNoIndex h_gNoChange h_gBadText h_iBadText h_bi h_o_CR h_mk_CR h_kp_CR h_o_CC h_mk_CC h_kp_CC h_x_CR_CC h_x_CC_CR h_nd h_n_top h_n_bottom h_n_samples h_z_str h_z_tuple h_z_enumerate h_z_zip h_e_BadLength h_e_BadPlace h_e_BadSample h_e_TooMany h_rd h_hm h_ne0 h_nq h_A_rinit h_A_isnum h_A_of h_A_cinit h_A_cof h_A_whole0 h_A_cd h_A_partsof h_A_ratof h_A_pen h_A_draw h_A_pick h_z_ValueError h_TH h_A_errors h_A_fields h_e_BadText h_k_B8 h_xT h_gMost h_gEmpty h_z_all h_ns_CR h_ns_CC h_A_rstr h_A_ceach h_A_clen h_A_cstr h_A_rread h_A_cread h_A_figof h_A_sampof h_A_frac h_A_word h_A_sample h_A_row h_A_lclip h_A_pairs h_A_lis h_A_ltext h_A_isfig h_A_lread h_A_ldue h_A_lbent h_A_readR h_T1 h_A_longR h_T2 h_A_law h_T3 h_n1_2 h_n1_3 h_n2_3
end HeadL
open PySem PySem.W PySem.Calls PyProof.Rows
theorem PySem.Challenge.cw_clipfades_k23_texts_of_clips_holds : PySem.Challenge.rw_clipfades_k23_texts_of_clips.Holds := by
  w_on; o_law
  refine HandSHeadRun.head_any (r := OpenLaw.row PySem.Challenge.rw_clipfades_k23_texts_of_clips) (q := view (OpenLaw.row PySem.Challenge.rw_clipfades_k23_texts_of_clips).prog [54]) (H := HeadL.hk) (ob := HeadL.ob) (M := 60000) (loose := HeadL.names) (d := HandSHeadRun.topDef (OpenLaw.row PySem.Challenge.rw_clipfades_k23_texts_of_clips).prog 54) (kwd := []) HeadL.ob_eq
    (by kernel_rfl) (fun s => by kernel_rfl) HeadL.run (by kernel_rfl) (by kernel_rfl) (by kernel_rfl) (by rfl) (by first | assumption | decide +kernel) (by decide +kernel) ⟨rfl, rfl, rfl, rfl, rfl, by decide +kernel⟩ ?hw ?hc
  case hw => w_witness2
  case hc =>
    refine My.walk_GE (l := PySem.Challenge.rw_clipfades_k23_texts_of_clips) (n := 63) (k := 15) (x := "_law_script") rfl (by decide) (by kernel_rfl) ⟨rfl, by decide, by decide⟩ ?F
    intro w mg fa h Y G hmg0
    obtain ⟨K, KX, c⟩ := Y
    have hmg : mg ("law" : PySem.Str) = some (.ref fa) := by
      have e : (HandSHeadRun.topDef (OpenLaw.row PySem.Challenge.rw_clipfades_k23_texts_of_clips).prog 54).name = ("law" : PySem.Str) := by kernel_rfl
      rw [← e]
      exact hmg0
    exact ⟨K, KX, HeadL.law_of KX G hmg c⟩
