import PyProof.Rows.All
import Wide.All
import OpenK.AllK
import Wide.FinOn
import HandS.ForMost
import HandS.ForExc
import HandS.ExcInit
import HandS.ExcField
import HandS.Lambda
import HandS.IsInst
import KE.KExcIs
import PyProof.Rows.NestShow
import KE.KExcSuper
import HandS.Wide
import HandS.Star
import HandS.Defaults
import HandS.EndTab
import PyProof.ListMulRight
import KE.KOpsOwn
import KE.KCallOwn
import KE.KFmtOwn
import PyProof.InstNe
import HandS.ClsMeth
import HandS.TupLe
import HandS.MakeKwOnly
import HandS.MakeKw
import HandS.Small
import HandS.Style
import HandS.TupAny
import KE.GoesEnum
import KE.GoesMore
import KE.KTupTruth
import PyProof.StrOps2
import KE.DataEq
import HandS.Codes
import HandS.FStr
import HandS.RaiseMore
import HandS.Dict
import HandS.Comp
import PyProof.ReprLen
import HandS.Walk
import HandS.Text
import PySem.Challenge.RW_clipfades_k18_lines_written_and_read
set_option Elab.async false
set_option linter.all false
set_option maxRecDepth 100000
set_option maxHeartbeats 4000000
/-! Rules of our own over the hand layer: defs whose guards are told (for repr), repr of data, an error kept behind its except suite. -/
namespace My
open PySem PySem.Spec PyProof.Rows L2
/-! ### a def that is run where no repr is under way -/
structure FnG (P : Program) (w : World) (K : PySem.W.Frag) (mg : Str → Option Value) (base : Heap) (CX : CXT) (k : Nat) (f : Addr) (fd : FuncData) (ps : List Str) (sp : Sp) : Prop where
  len : ∀ vs H Q E, sp vs H Q E → vs.length = ps.length
  run : ∀ (A : Around) (outer : List Env) (s : Shared) (H : Hp) (args : Args) (us : List Value) (vs : List V) (Q : VK) (E : XK), A.guards = some [] → Room k A → Env0 P w K mg base A outer s H → BindsTo s fd args (ps.zip us) → Vals vs us → sp vs H Q E →
    codeAny (model P w) A (.call (.ref f) args) (CR CX outer P w H s Q E) s
section
variable {P : Program} {w : World} {K : PySem.W.Frag} {mg : Str → Option Value} {base : Heap}
theorem okG {x qual : Str} {st : Stmt} {f : Addr} {fd : FuncData} {N ps : List Str} {k : Nat} {sp : Sp} (F : Fun K x qual st f fd) (S : FnScope N ps (defScope st)) (len : ∀ vs H Q E, sp vs H Q E → vs.length = ps.length)
    (hbody : ∀ (cdv : Value) (A : Around) (outer : List Env) (s : Shared) (H : Hp) (vs : List V) (Q : VK) (E : XK), K.lookup f ≠ none → A.guards = some [] → Room k (A.deeper (envOfC qual (defScope st) s.heap.objs.size f cdv)) → sp vs H Q E →
      ∃ t, PSs (cxOf CX0 P w K mg base N qual (defScope st) f cdv A outer s H E).nox (defBody st) t ∧ t { nx := fun _ H' => Q .non H', rt := Q } (start N vs) H) : FnG P w K mg base CX0 (k + 1) f fd ps sp := by
  obtain ⟨oc, od, kV, doc, pm, an, cdv, ct, osl, rfl, lk, hcd⟩ := F.ex
  refine ⟨len, fun A outer s H args us vs Q E hg hr e0 hb r hsp => LamX.run_ofS lk hcd S hr e0 hb r (len _ _ _ _ hsp) fun hr' => ?_⟩
  obtain ⟨t, h, q⟩ := hbody cdv A outer s H vs Q E (by rw [lk]; exact fun z => nomatch z) hg hr' hsp
  exact ⟨t, h.nox, q⟩
end
section
variable {X : Cx} {CX : CXT} {k : Nat} {f : Addr} {fd : FuncData} {ps : List Str} {sp : Sp} {E : XK} {x : Str} {e : Expr} {es : List Expr} {t : TA} {p pos : Pos} {ds : List Value} {dvs : List V}
/-- x(e, ..) -/
theorem pe_callG (F : FnG X.prog X.w X.K X.mg X.base CX k f fd ps sp) (hgd : X.A.guards = some []) (hr : Room k X.A) (hg : Gl X x) (hm : X.mg x = some (.ref f)) (hk : PySem.W.keepIn X.K (.ref f) = true) (hb : Binds X.K fd ps []) (hx : Passes CX X E)
    (ha : PA X (e :: es) t) (hdb : (x == ("__debug__" : Str)) = false := by decide) (hs : starEach (e :: es) X.env = (false, eval e X.env) :: starEach es X.env := by rfl) (hpl : (backTo pos (starEach es X.env)).any (·.1) = false := by rfl) :
    PE X (.Call (.Name x p) (e :: es) [] pos) (tCall sp [] E t) := by
  refine ⟨fun pins s σ H Q I h => ?_⟩
  refine wpAny_Call_Name_kw (ld_glob I hg hm ?_ hdb)
  refine PySem.W.callWith_K (h₀ := X.base) I.ok.mod.kin hk (thn (ha.run pos pins s σ H _ I h) fun us s1 ⟨vs, H1, I1, r, q⟩ => ⟨I1.kIn, ?_⟩) hs hpl
  have q' : sp vs H1 Q E := by
    have z : sp (vs ++ []) H1 Q E := q
    rw [List.append_nil] at z
    exact z
  have hl : us.length = ps.length := by rw [← r.length]; exact F.len _ _ _ _ q'
  have hb' : BindsTo s1 fd ⟨us, []⟩ (ps.zip us) := by
    have z := hb s1 us I1.kIn (by rw [List.append_nil]; exact hl)
    rw [List.append_nil] at z
    exact z
  refine wpAny_call (codeAny_mono (F.run X.A X.stack s1 H1 ⟨us, []⟩ us vs Q E hgd hr I1.env0 hb' r q') fun res s2 hq => ?_)
  cases res with
  | error er => exact hx pins σ H1 s1 er s2 I1 hq
  | ok fl =>
    cases fl with
    | ret u => exact I1.after hq
    | next => exact False.elim hq
    | brk => exact False.elim hq
    | cont => exact False.elim hq
end
/-! ### repr of data -/
theorem sqt_same {K : PySem.W.Frag} {H H' : Hp} {a : Addr} {xs : List V} (e : Same H H') (h : SqT K H a xs) : SqT K H' a xs := by
  rcases h with (h | ⟨o, h⟩) | h
  · exact .inl (.inl (e _ _ h))
  · exact .inl (.inr ⟨o, e _ _ h⟩)
  · exact .inr h
/-- data that repr shows: as for ==, and the empty dict -/
def Dr (K : PySem.W.Frag) (H : Hp) (v : V) (d : PyData) : Prop := Dp K H v d ∨ (∃ a, v = .ref a ∧ d = .dict [] ∧ H a = some (.dK []))
mutual
theorem dp_same {K : PySem.W.Frag} {H H' : Hp} (k : Same H H') : ∀ (d : PyData) (v : V), Dp K H v d → Dp K H' v d
  | _, _, .non => .non
  | _, _, .bl b => .bl b
  | _, _, .int i => .int i
  | _, _, .str x => .str x
  | .list ds, _, .lst h ha => .lst (k.seq h) (dp_sameAll k ds _ ha)
  | .tuple ds, _, .tup h ha => .tup (sqt_same k h) (dp_sameAll k ds _ ha)
theorem dp_sameAll {K : PySem.W.Frag} {H H' : Hp} (k : Same H H') : ∀ (ds : List PyData) (vs : List V), DpAll K H vs ds → DpAll K H' vs ds
  | [], _, .nil => .nil
  | d :: ds, _, .cons h1 h2 => .cons (dp_same k d _ h1) (dp_sameAll k ds _ h2)
end
theorem dr_same {K : PySem.W.Frag} {H H' : Hp} {v : V} {d : PyData} (k : Same H H') (h : Dr K H v d) : Dr K H' v d := by
  rcases h with h | ⟨a, e1, e2, e3⟩
  · exact .inl (dp_same k d v h)
  · exact .inr ⟨a, e1, e2, k _ _ e3⟩
def rRepr (K : PySem.W.Frag) : List V → Hp → VK → Prop := fun xs H Q => ∃ (v : V) (d : PyData), xs = [v] ∧ Dr K H v d ∧ d.showable = true ∧ d.depth ≤ 60 ∧ d.shown.length ≤ sizeLine ∧ Q (.str d.shown) H
mutual
theorem noDict {K : PySem.W.Frag} {H : Hp} : ∀ (d : PyData) (v : V), Dp K H v d → d.hasDict = false
  | .none, _, _ => rfl
  | .bool _, _, _ => rfl
  | .int _, _, _ => rfl
  | .str _, _, _ => rfl
  | .list ds, _, h => by
    cases h with
    | lst _ ha => exact noDictAll ds _ ha
  | .tuple ds, _, h => by
    cases h with
    | tup _ ha => exact noDictAll ds _ ha
  | .dict _, _, h => by cases h
theorem noDictAll {K : PySem.W.Frag} {H : Hp} : ∀ (ds : List PyData) (vs : List V), DpAll K H vs ds → PyData.hasDictAll ds = false
  | [], _, _ => rfl
  | d :: ds, _, h => by
    cases h with
    | cons h1 h2 =>
      show (d.hasDict || PyData.hasDictAll ds) = false
      rw [noDict d _ h1, noDictAll ds _ h2]
      rfl
end
section
variable {X : Cx} {k : Nat}
theorem call_repr (hgd : X.A.guards = some []) (hr : Room k X.A) : CallR X (.builtin "repr") (rRepr X.K) := by
  intro pins s σ H xs us Q I r h
  obtain ⟨v, d, rfl, hd, hs, hdp, hz, q⟩ := h
  obtain ⟨u, rfl, r1⟩ := vals1 r
  have hu : X.A.units + (d.depth + 1) < cLine := by
    have := hr.units
    omega
  have fin : ∀ (h' : Heap) (t : Tok) (tk : Nat), (∀ b o, s.heap.get? b = some o → h'.get? b = some o) → EP X pins σ Q (.str d.shown t) { s with heap := h', toks := tk } :=
    fun h' t tk hk => ⟨.str d.shown, H, I.kept (t' := tk) hk, ⟨t, rfl⟩, q⟩
  rcases hd with hd | ⟨a, rfl, rfl, ha⟩
  · have hn := noDict d v hd
    obtain ⟨as, rd⟩ := Dp.reads I d v u hd r1
    cases hd with
    | non => cases (show u = Value.none from r1); exact PySem.P.repr_of_none (fin s.heap _ _ fun _ _ e => e)
    | bl b => cases (show u = Value.bool b from r1); exact PySem.P.repr_of_bool (fin s.heap _ _ fun _ _ e => e)
    | int i =>
      obtain ⟨t, e⟩ := (show ∃ t, u = Value.int i t from r1)
      cases e
      exact PySem.P.repr_of_int (of_decide_eq_true hs) (fin s.heap _ _ fun _ _ e => e)
    | str z =>
      obtain ⟨t, e⟩ := (show ∃ t, u = Value.str z t from r1)
      cases e
      exact PySem.P.repr_of_str (fin s.heap _ _ fun _ _ e => e) hz
    | @lst a xs ds _ _ =>
      cases (show u = Value.ref a from r1)
      exact repr_of_reads' rd hs (PyData.noDict_hsm hn) hgd hu (fun _ _ e => e) (fun h' t tk hk => fin h' t tk hk) hz
    | @tup a xs ds _ _ =>
      cases (show u = Value.ref a from r1)
      exact repr_of_reads' rd hs (PyData.noDict_hsm hn) hgd hu (fun _ _ e => e) (fun h' t tk hk => fin h' t tk hk) hz
  · cases (show u = Value.ref a from r1)
    obtain ⟨_, hne, vs, kv, o, es, ep, e1, e2, e3, e4⟩ := (show ObjOk X.prog X.w H s.heap a (.dK []) from I.hok a _ ha)
    cases kv
    have hes : es.toList = [] := by
      obtain ⟨_, pr, _⟩ := e4
      revert pr
      generalize es.toList = l
      intro pr
      cases pr
      rfl
    have rd : Reads s.heap (.ref a) (.dict []) (a :: [] ++ []) := .dict e1 e2.1 e3 (by rw [hes]; exact .nil) (by rw [hes]; exact .nil)
    exact repr_of_reads' rd hs (fun _ hm => by simp at hm; simp [hm] at hne) hgd hu (fun _ _ e => e) (fun h' t tk hk => fin h' t tk hk) hz
end
/-! ### an error that stands behind its except suite -/
/-- at a: an error of the class cls, its own dict at d -/
def ExA (cls : Value) (d : Option Addr) (a : Addr) : HO := .ext fun h => ∃ (oe : Obj) (vs : Array Value), h.get? a = some oe ∧ Zc cls d oe ∧ oe.data = .fields vs
theorem exA_ok {P : Program} {w : World} {H : Hp} {h : Heap} {a : Addr} {cls : Value} {d : Option Addr} {oe : Obj} {vs : Array Value} (e : h.get? a = some oe) (z : Zc cls d oe) (hd : oe.data = .fields vs) : ObjOk P w H h a (ExA cls d a) :=
  ⟨⟨oe, vs, e, z, hd⟩, ⟨oe, e⟩, fun _ _ ⟨o, v, q, r⟩ k => ⟨o, v, k o q, r⟩⟩
section
variable {X : Cx} {pins : List (Addr × Obj)} {σ : L2.St} {H : Hp} {s : Shared}
/-- an object of the heap that was not there at the entry, tracked from now on -/
theorem track {a : Addr} {o : HO} (I : Inv X pins σ H s) (h0 : X.s_0.heap.get? a = none) (na : H a = none) (nL : a ≠ X.env.locals) (nC : ∀ x c, X.env.cells.lookup x = some c → c ≠ a) (nP : ∀ p ∈ X.pn ++ pins, p.1 ≠ a)
    (new : ObjOk X.prog X.w (upd H a o) s.heap a o) : Inv X pins σ (upd H a o) s := by
  have ne0 : ∀ b ob, X.s_0.heap.get? b = some ob → b ≠ a := fun b ob e z => by rw [z, h0] at e; cases e
  refine ⟨I.ok, I.os, I.bare, ⟨I.base.keep, I.base.slot, fun b ob e n hx => ?_, I.base.there, fun b xs e => ?_, fun b ob u e => ?_, fun b ps e => ?_⟩, I.loc, I.cell, ?_, fun x c e => ?_, fun p hp => ?_, fun b u e => ?_, I.len⟩
  · rw [upd_ne (ne0 b ob e)]
    exact I.base.free b ob e n hx
  · have z := I.base.tups b xs e
    rw [upd_ne (ne_of_none z na)]
    exact z
  · have z := I.base.frzs b ob u e
    rw [upd_ne (ne_of_none z na)]
    exact z
  · obtain ⟨m, z⟩ := I.base.tbls b ps e
    exact ⟨m, by rw [upd_ne (ne_of_none z na)]; exact z⟩
  · rw [upd_ne (Ne.symm nL)]
    exact I.free
  · rw [upd_ne (nC x c e)]
    exact I.freeC x c e
  · obtain ⟨e, n, r⟩ := I.pin p hp
    exact ⟨e, by rw [upd_ne (nP p hp)]; exact n, r⟩
  · by_cases hb : b = a
    · subst hb
      rw [upd_same] at e
      cases e
      exact new
    · rw [upd_ne hb] at e
      exact (I.hok b u e).stay (fun _ _ _ q => q) (fun c q => by rw [upd_ne (ne_of_none q na)]; exact q) fun c xs q => by rw [upd_ne (ne_of_none q na)]; exact q
end
/-- the wish of «except c as n: y = n»: slot i is n's, slot j is y's -/
def wKeep (K : PySem.W.Frag) (c : Value) (i j n : Nat) (Wout : WX) (D : Ends) : WX := fun cls d σ H =>
  ∃ b, PySem.W.exmOne K cls c = some b ∧ (b = true → ∀ a, H a = none → σ.length = n → D.nx (((σ.set i (some (.ref a))).set j (some (.ref a))).set i none) (upd H a (ExA cls d a))) ∧ (b = false → Wout cls d σ H)
section
variable {X : Cx} {x n y : Str} {c : Value} {i j : Nat} {body : List Stmt} {np p1 p2 p3 pos pos' : Pos} {tb : WX → TS} {Wout : WX}
theorem ps_try_keep (hs : X.stack = X.env :: X.outer) (hf : X.env.frame = some X.env.locals) (hN : X.N.Nodup) (hi : X.N[i]? = some n) (hln : X.env.kindOf n = some .local) (hj : X.N[j]? = some y) (hly : X.env.kindOf y = some .local) (hex : X.ex = []) (hc : Names X x c) (tk : Takes X Wout)
    (hb : ∀ (W : WX) (pn : List (Addr × Obj)) (xe : Value → Shared → Prop), Takes (X.tr pn xe) W → PassesOwn (model X.prog X.w) X.A X.env xe → PSs (X.tr pn xe) body (tb W)) (hd1 : (n == ("__debug__" : Str)) = false := by decide) (hd2 : (n == ("__classdict__" : Str)) = false := by decide) :
    PS X (.Try body [.ExceptHandler (some (.Name x np)) (some n) [.Assign [.Name y p1] (.Name n p2) p3] pos'] [] [] pos) (fun D σ H => tb (wKeep X.K c i j X.N.length Wout D) D σ H) := by
  refine ⟨fun pins s σ H D I h => ?_⟩
  have ok := I.ok
  have hfr : X.A.frames = some (X.env :: X.outer) := by rw [ok.frames, hs]
  refine wpAny_Try_except ?_
  refine wpAny_mono ((hb (wKeep X.K c i j X.N.length Wout D) (X.pn ++ pins) (fun e t1 => wpAny (model X.prog X.w) X.A (noteFrame e X.env) (fun _ t2 => wpAny (model X.prog X.w) X.A (setFlight e none) (fun _ t3 =>
    wpAny (model X.prog X.w) X.A (handleBy e X.env [.ExceptHandler (some (.Name x np)) (some n) [.Assign [.Name y p1] (.Name n p2) p3] pos']) (SP X pins D) X.xe t3) X.xe t2) X.xe t1) (fun u s' xx => ?_) PassesOwn.looking).run [] s σ H D (I.toTry _) h) (fun fl t1 hsp => ?_) (fun _ _ he => he)
  · obtain ⟨a, B, sI, pins', σ1, H1, cls, d, rfl, J0, nb, up, sky, na, os, ag, b, hb1, hyes, hno⟩ := xx
    have J : Inv X pins σ1 H1 sI := J0.ofTry ok
    have sky' : Sky B (X.env :: X.outer) a (Zc cls d) X.env.locals s'.heap := by rw [← hs]; exact sky
    show wpAny (model X.prog X.w) X.A (noteFrame (.ref a) X.env) _ _ _
    refine Sky.land Zc.steady hfr hf sky' fun h3 fl3 up3 => ?_
    have J3 : Inv X pins σ1 H1 { s' with heap := h3 } := J.landed nb fl3.1 (up.trans up3) os ag
    obtain ⟨oe3, vs3, he3, hz3, hd3⟩ := fl3.there
    have nfr : a ∉ frs (X.env :: X.outer) := fun hm => by
      obtain ⟨_, o', e', hnf⟩ := fl3.2.2.1.mem hm
      rw [he3] at e'
      cases e'
      exact hnf _ hd3
    have nL : a ≠ X.env.locals := fun z => nfr (List.mem_filterMap.mpr ⟨X.env, List.mem_cons_self, by rw [hf, z]⟩)
    have nF : a ∉ X.fs := fun hm => by
      obtain ⟨e1, he1, q1⟩ := List.mem_filterMap.mp hm
      exact nfr (List.mem_filterMap.mpr ⟨e1, List.mem_cons_of_mem _ he1, q1⟩)
    -- the error was not there at the entry, and is no pin
    have Ba : B.get? a = none := fl3.2.1
    have sIa : sI.heap.get? a = none := by
      cases z : sI.heap.get? a with
      | none => rfl
      | some o =>
        have y := nb a o z (by rw [hs]; exact nfr)
        rw [Ba] at y
        cases y
    have s0a : X.s_0.heap.get? a = none := by
      cases z : X.s_0.heap.get? a with
      | none => rfl
      | some o =>
        obtain ⟨o', y⟩ := J.base.there a o z (by rw [hex]; exact fun w => nomatch w)
        rw [sIa] at y
        cases y
    have nPin : ∀ p ∈ X.pn ++ pins, p.1 ≠ a := fun p hp z => by
      have y := (J.pin p hp).1
      rw [z, sIa] at y
      cases y
    have S3 := J3.suite he3 hd3 na nL nF
    refine wpAny_handleBy_cons (codeAny_handlers_test ?_) (by intro q; cases q)
    have LT : PySem.W.Looks (model X.prog X.w) h3 (typeOf (.ref a)) cls := fun A Q E s k q => wpAny_typeOf_ref (k _ _ he3) (by rw [hz3.1]; exact q)
    have LM := PySem.W.exm_one (M := model X.prog X.w) (J3.kIn) LT hb1
    have test : ∀ {Q : Value → Shared → Prop} {E : Value → Shared → Prop}, Q c { s' with heap := h3 } → wpAny (model X.prog X.w) (X.A.mark (some (.ref a))) (eval (.Name x np) X.env) Q E { s' with heap := h3 } := fun {Q E} q => by
      obtain ⟨hg, hdbg, hm | ⟨hm, hv, hnn⟩⟩ := hc
      · exact ld_glob (X := X.suite a ((a, oe3) :: (X.pn ++ pins))) S3 hg hm q hdbg
      · exact ld_blt (X := X.suite a ((a, oe3) :: (X.pn ++ pins))) S3 hg hm hv q hnn hdbg
    refine test (LM.here ?_)
    cases b with
    | true =>
      refine codeAny_handlers_suite_as ?_
      refine HandSPX.lands_againZ fl3 fun h4 fl4 up4 => ?_
      have J4 : Inv X pins σ1 H1 { s' with heap := h4 } := J.landed nb fl4.1 ((up.trans up3).trans up4) os ag
      obtain ⟨oe4, vs4, he4, hz4, hd4⟩ := fl4.there
      have S4 := J4.suite he4 hd4 na nL nF
      refine store_ok (X := X.suite a ((a, oe4) :: (X.pn ++ pins))) (v := .ref a) S4 hN hi (.inl hln) rfl (fun s5 S5 => ?_) (.inr hln)
      have suite : PSs (X.suite a ((a, oe4) :: (X.pn ++ pins))) [.Assign [.Name y p1] (.Name n p2) p3] (tAsg (tVar i) (gName j)) :=
        pss_one (ps_asg (pe_var (i := i) hi (.inl hln) hd1 hd2) (pg_name (i := j) hN hj (.inl hly) (hf := .inr hly)))
      have hlen : i < σ1.length := by
        rw [J.len]
        exact (List.getElem?_eq_some_iff.mp hi).1
      refine wpAny_mono (suite.run [] s5 _ H1 { nx := fun σ' H' => σ' = (σ1.set i (some (.ref a))).set j (some (.ref a)) ∧ H' = H1, rt := fun _ _ => False } S5 ⟨.ref a, by rw [List.getElem?_set_self hlen], rfl, rfl⟩) (fun fl s6 hsp => ?_) (fun _ _ z => False.elim z)
      cases fl with
      | next =>
        obtain ⟨σ6, H6, S6, eσ, eH⟩ := hsp
        subst eσ
        subst eH
        refine gone_ok (X := X.suite a ((a, oe4) :: (X.pn ++ pins))) S6 hN hi hln fun s7 S7 => ?_
        have ha7 : s7.heap.get? a = some oe4 := (S7.pin (a, oe4) (List.mem_append_left _ List.mem_cons_self)).1
        have J7 := S7.unsuite ok
        have nC : ∀ (x : Str) (c : Addr), X.env.cells.lookup x = some c → c ≠ a := fun x c e z => by
          obtain ⟨v, o, ho, hdc⟩ := J7.cell x c e
          rw [z, ha7] at ho
          cases ho
          rw [hd4] at hdc
          cases hdc
        exact ⟨_, _, track J7 s0a na nL nC nPin (exA_ok ha7 hz4 hd4), hyes rfl a na J.len⟩
      | brk => obtain ⟨_, _, _, z⟩ := hsp; exact z.elim
      | cont => obtain ⟨_, _, _, z⟩ := hsp; exact z.elim
      | ret u => obtain ⟨_, _, _, _, _, z⟩ := hsp; exact z.elim
    | false =>
      show wpAny _ X.A (handleBy (.ref a) X.env []) _ _ _
      refine wpAny_handleBy_nil ?_
      obtain ⟨w1, w2, w3, oe, vs, T, oT, ts', he, hz, hdd, h1, hr⟩ := id fl3
      unfold PySem.passOn
      refine wpAny_bind (wpAny_field he hdd h1 ?_)
      rw [if_neg (show ¬ ((Value.ref T == Value.none) = true) from by simp)]
      have fin : wpAny (model X.prog X.w) X.A (setFlight (.ref a) X.env.frame) (fun _ s4 => wpAny (model X.prog X.w) X.A (throw (.ref a) : Sem Flow) (SP X pins D) X.xe s4) X.xe { s' with heap := h3 } := by
        rw [hf]
        refine HandSPX.setFlight_upZ fl3 fun h4 hh4 up4 => wpAny_throw (tk _ _ ?_)
        exact ⟨a, B, sI, pins, σ1, H1, cls, d, rfl, J, nb, (up.trans up3).trans up4, .inr (.inr (by rw [hs]; exact hh4)), na, os, ag, hno rfl⟩
      first
        | exact wpAny_bind (wpAny_pure (wpAny_bind fin))
        | exact wpAny_bind fin
  · cases fl with
    | next =>
      obtain ⟨σ', H', J', q⟩ := hsp
      exact wpAny_execs_nil ⟨σ', H', J'.ofTry ok, q⟩
    | brk =>
      obtain ⟨σ', H', J', q⟩ := hsp
      exact ⟨σ', H', J'.ofTry ok, q⟩
    | cont =>
      obtain ⟨σ', H', J', q⟩ := hsp
      exact ⟨σ', H', J'.ofTry ok, q⟩
    | ret u =>
      obtain ⟨v, σ', H', J', r, q⟩ := hsp
      exact ⟨v, σ', H', J'.ofTry ok, r, q⟩
end
/-! ### isinstance and fields of such an error -/
structure ExcK (K : PySem.W.Frag) (C : Addr) : Prop where
  cl : (PySem.W.clsIn K C).isSome = true
  ga : PySem.W.findIn K (.ref C) "__getattribute__" = some (some (.builtin "BaseException.__getattribute__"))
  gg : PySem.W.findIn K (.ref C) "__getattr__" = some none
  sb : PySem.W.subIn K (.ref C) (.type "BaseException") = some true
  ha : PySem.W.findIn K (.ref C) "__class__" = some (some (.builtin "object.__class__"))
  hn : PySem.W.specialIn K (.builtin "object.__class__") "__get__" = some (some (.builtin "getset_descriptor.__get__"))
  ht : PySem.W.takesIn K (.builtin "object.__class__") = some true
  hm : PySem.W.mroIn K C (.type "object") = some true
/-- isinstance(e, D) -/
def rIsA (K : PySem.W.Frag) : List V → Hp → VK → Prop := fun xs H Q => ∃ (a C d : Addr) (fs : List (Str × V)) (c : V) (cv : Value) (b : Bool), xs = [.ref a, c] ∧ ClsV c cv ∧ ExcK K C ∧ H a = some (ExA (.ref C) (some d) a) ∧ H d = some (.xd fs) ∧ PySem.W.kitOne K (.ref C) cv = some b ∧ Q (.bl b) H
section
variable {X : Cx} {pins : List (Addr × Obj)} {σ : L2.St} {H : Hp} {s : Shared}
theorem exA_at {a C d : Addr} {fs : List (Str × V)} (I : Inv X pins σ H s) (ha : H a = some (ExA (.ref C) (some d) a)) (hd : H d = some (.xd fs)) :
    ∃ (oe od : Obj) (mA : Str → Option Value), PySem.W.InstAt s.heap a oe C (some od) ∧ (∀ name, PySem.W.lookIn name od = some (mA name)) ∧ ∀ f, RelO (fs.lookup f) (mA f) := by
  obtain ⟨⟨oe, vs, ho, hz, hdat⟩, _, _⟩ := I.hok a _ ha
  obtain ⟨mA, hns, hr⟩ := (show ObjOk X.prog X.w H s.heap d (.xd fs) from I.hok d _ hd)
  obtain ⟨od, hod, hl⟩ := lookIn_ns hns
  exact ⟨oe, od, mA, ⟨ho, hz.1, by unfold PySem.W.notCls; rw [hdat] <;> rfl, by rw [hz.2]; exact hod⟩, hl, hr⟩
theorem call_isA : CallR X (.builtin "isinstance") (rIsA X.K) := by
  intro pins s σ H xs us Q I r h
  obtain ⟨a, C, d, fs, c, cv, b, rfl, k, T, ha, hd, e, q⟩ := h
  obtain ⟨u1, u2, rfl, r1, r2⟩ := vals2 r
  cases (show u1 = Value.ref a from r1)
  have e2 := k.eq r2
  subst e2
  obtain ⟨oe, od, mA, J, _, _⟩ := exA_at I ha hd
  exact PySem.W.kia_one (PySem.W.kitx_exc T.cl T.ga T.gg T.sb T.ha T.hn T.ht T.hm) I.kIn J e (fun z => nomatch z) fun t => ⟨.bl b, H, I.tok t, rfl, q⟩
/-- e.f -/
def tXa (K : PySem.W.Frag) (f : Str) (te : TE) : TE := fun σ H Q => te σ H fun x H1 => ∃ (a C d : Addr) (fs : List (Str × V)) (v : V), x = .ref a ∧ H1 a = some (ExA (.ref C) (some d) a) ∧ H1 d = some (.xd fs) ∧ XfC K C ∧ PySem.W.findIn K (.ref C) f = some none ∧ fs.lookup f = some v ∧ Q v H1
theorem pe_xa {e : Expr} {te : TE} {n : Str} {pos : Pos} (he : PE X e te) (hb : attributeBase e n X.env (eval e X.env) = eval e X.env := by rfl) : PE X (.Attribute e n pos) (tXa X.K n te) := by
  refine ⟨fun pins s σ H Q I h => ?_⟩
  refine attr_of hb (thn (he.run pins s σ H _ I h) fun u s1 hh => ?_)
  obtain ⟨x, H1, I1, rx, a, C, d, fs, v, ex, ha, hd, T, hno, l, q⟩ := hh
  subst ex
  obtain rfl : u = Value.ref a := rx
  obtain ⟨oe, od, mA, J, hl, hr⟩ := exA_at I1 ha hd
  obtain ⟨u, hu, ru⟩ := RelO.some_of (v := v) (o := mA n) (by rw [← l]; exact hr n)
  exact HandSPX.exc_get I1.kIn J T.ga T.gg T.exC (PySem.W.findObj_own T.hdC hno rfl (by rw [hl, hu])) (handed_of ru) ⟨v, H1, I1.tok _, ru, q⟩
end
end My
/-! An own error class E(Base(ValueError)) whose __init__ says super().__init__(f) and self.f = f. -/
namespace Sup
open PySem PySem.W PySem.Calls PyProof.Rows PySem.HandSPX
def a1 (f : Str) (p1 p2 : Pos) : Arguments :=
  { posonlyargs := [], args := [{ arg := "self", annotation := none, pos := p1 }, { arg := f, annotation := none, pos := p2 }], vararg := none, kwonlyargs := [], kw_defaults := [], kwarg := none, defaults := [] }
def b1 (f : Str) (q1 q2 q3 q4 q5 q6 r1 r2 r3 r4 : Pos) : List Stmt :=
  [.Expr (.Call (.Attribute (.Call (.Name "super" q1) [] [] q2) "__init__" q3) [.Name f q4] [] q5) q6, .Assign [.Attribute (.Name "self" r1) f r2] (.Name f r3) r4]
def s1 (f : Str) : Scope :=
  { kind := .function, names := [(PySem.Str.ofString "self", .local), (f, .local), (PySem.Str.ofString "__class__", .free), (PySem.Str.ofString "super", .globalImplicit)], isGenerator := false, isCoroutine := false, more := [] }
/-- the field's name is no other name of the text -/
structure Nm (f : Str) : Prop where
  n1 : (f == ("self" : Str)) = false
  n2 : (("__class__" : Str) == f) = false
  n3 : (("super" : Str) == f) = false
  n4 : (f == ("__debug__" : Str)) = false
  bd : ∀ (qual : Str) (body : List Stmt) (doc pm : Value) (an : Option Addr) (cdv ct : Value) (cc : Addr) (p1 p2 : Pos) (a b : Value),
    bindArgs (ksFn "__init__" qual (a1 f p1 p2) body (s1 f) .none .none doc pm an cdv ct cc) ⟨[a, b], []⟩ = pure [(("self" : Str), a), (f, b)]
/-- what the top has written of the class x, at C, and of its __init__, at fI -/
structure Err1 (prog : Program) (K : Frag) (mg : Str → Option Value) (x f : Str) (C fI : Addr) : Prop where
  gC : mg x = some (.ref C)
  ox : L2.OexC K C
  rd : L2.XfC K C
  nf : findIn K (.ref C) f = some none
  nm : Nm f
  iC : findIn K (.ref C) "__init__" = some (some (.ref fI))
  tI : typeIn K (.ref fI) = some (.type "function")
  fn : ∃ (qual : Str) (oc : Value) (od : Option Addr) (doc pm : Value) (an : Option Addr) (cda : Addr) (ct : Value) (cc : Addr) (osl : Array (Option Value)) (p1 p2 q1 q2 q3 q4 q5 q6 r1 r2 r3 r4 : Pos),
    K.lookup fI = some ⟨oc, od, .func (ksFn "__init__" qual (a1 f p1 p2) (b1 f q1 q2 q3 q4 q5 q6 r1 r2 r3 r4) (s1 f) .none .none doc pm an (.ref cda) ct cc), osl⟩ ∧ codeIn K (.ref cda) qual = true ∧
    (∃ cl cld csl, K.lookup cc = some ⟨cl, cld, .cell (some (.ref C)), csl⟩) ∧ ∃ ccl cdd vs ccs file tf, K.lookup cda = some ⟨ccl, cdd, .fields vs, ccs⟩ ∧ vs[2]? = some (.str file tf) ∧ ((prog.main.file : Str) == file) = true ∧ (q3.endLine == q5.line) = true
  su : ks_superIn K C C "__init__" = some (some (.builtin "ValueError.__init__"))
  sV : subIn K (.ref C) (.type "ValueError") = some true
  sC : mroIn K C (.ref C) = some true
  gS : mg "super" = none
  oq : nsIn K cStatics "thirdparty.any" = some none
  top : (prog.main.scope.names.lookup ("super" : Str)).isSome = false
/-- what __init__ leaves of a fresh exception at x -/
structure End1 (h h' : Heap) (f : Str) (x C dx t1 : Addr) (v : Value) : Prop where
  keep : ∀ b o, b ≠ x → h.get? b = some o → h'.get? b = some o
  obj : h'.get? x = some { cls := .ref C, dict := some dx, data := .fields #[.ref t1, .none, .none, .none, .bool false, .none] }
  dbig : h.objs.size ≤ dx
  dne : dx ≠ x
  ns : h'.Ns1 dx (fun y => if y = f then some v else none)
theorem lk2 {f : Str} (N : Nm f) : (s1 f).names.lookup f = some .local := by
  simp only [s1, List.lookup, N.n1, beq_self_eq_true]
theorem lk3 {f : Str} (N : Nm f) : (s1 f).names.lookup ("__class__" : Str) = some .free := by
  have e : (("__class__" : Str) == ("self" : Str)) = false := by decide +kernel
  have e2 : (("__class__" : Str) == ("__class__" : Str)) = true := by decide +kernel
  simp only [s1, List.lookup, N.n2, e, e2]
theorem lk4 {f : Str} (N : Nm f) : (s1 f).names.lookup ("super" : Str) = some .globalImplicit := by
  have e : (("super" : Str) == ("self" : Str)) = false := by decide +kernel
  have e2 : (("super" : Str) == ("__class__" : Str)) = false := by decide +kernel
  have e3 : (("super" : Str) == ("super" : Str)) = true := by decide +kernel
  simp only [s1, List.lookup, N.n3, e, e2, e3]
theorem meth_eq {o : Expr} {name f : Str} {q3 q4 q5 : Pos} {env : Env} (hp : (q3.endLine == q5.line) = true) :
    eval (.Call (.Attribute o name q3) [.Name f q4] [] q5) env = (do
      let ov ← attributeBase o name env (eval o env)
      standAt q3.atName
      let (g, first) ← holding [ov] (getMethod ov name (do return (← importBound o env).getD true))
      callWith q5 g first (backTo q5 (starEach [.Name f q4] env)) []) := by
  rw [arm_eval_Call]
  have hf : methodCallForm ([Expr.Name f q4].length + ([] : List Keyword).length) (backTo q5 (starEach [.Name f q4] env)) (backToKw q5 (keywordEach [] env)) = true := rfl
  have e : ∀ ov, methodCall o name q3 q5 env ov ([Expr.Name f q4].length + ([] : List Keyword).length) (backTo q5 (starEach [.Name f q4] env)) (backToKw q5 (keywordEach [] env)) = (do
      let (g, first) ← holding [ov] (getMethod ov name (do return (← importBound o env).getD true))
      callWith q5 g first (backTo q5 (starEach [.Name f q4] env)) []) := fun ov => by
    unfold methodCall
    rw [hf]
    unfold calleeOf methodCallPos
    simp only [hp, Bool.not_true, Bool.false_or, if_true]
    rfl
  simp only [e]
section
variable {prog : Program} {w : World} {A : Around} {E : Value → Shared → Prop} {R : Result → Shared → Prop} {s : Shared} {K : Frag} {mg : Str → Option Value} {x f : Str} {C fI : Addr}
/-- the bound ValueError.__init__ called -/
theorem call_mw {h : Heap} {g : Array GenState} {d : Drawn} {t : Nat} {os : OsState} {u e t0 : Addr} {rest : List Value} {Q : Value → Shared → Prop} {nm q : Str} {N : Addr} {bs bm : List Value} {hdct : Bool} {sn : List Str} {sub : List Value} {ab : Bool} {col : Option Bool} {dd : Option Addr} {k0 k1 k2 k3 k5 : Option Value}
    (hC : h.get? C = some (excClassObj nm q C N bs bm hdct sn sub ab col dd k0 k1 k2 k3 k5 "ValueError.__new__")) (he : h.get? e = some (excO C t0)) (hu : h.get? u = some (kxs_mw "ValueError.__init__" e)) (hz : rest.length ≤ sizeLine)
    (hq : ∀ h' t1, (∀ b o, b ≠ e → h.get? b = some o → h'.get? b = some o) → h'.get? e = some (excO C t1) → Q .none ⟨h', g, d, t, os⟩) :
    wpAny (model prog w) A (call (.ref u) rest) Q E ⟨h, g, d, t, os⟩ := by
  refine wpAny_call (codeAny_of_tree ?_)
  show wpAny _ A.in1 (callAny (.ref u) ⟨rest, []⟩) _ _ _
  simp only [callAny]
  refine wpAny_bind (wpAny_load hu ?_)
  simp only [kxs_mw, show (Value.type "method-wrapper" == Value.type "method" || Value.type "method-wrapper" == Value.type "builtin_function_or_method" || Value.type "method-wrapper" == Value.type "method-wrapper") = true by decide, if_true]
  refine KFB.if_so (by decide) ?_
  refine wpAny_bind (check_bound_init F.excBase_ValueError.toExcCallFacts hC he rfl ?_)
  refine wpAny_bind (wpAny_pure (wpAny_pure ?_))
  refine ⟨plainId_quiet F.excBase_ValueError.init.plain _, codeAny_builtin F.excBase_ValueError.initEntry ?_⟩
  exact exc_init_tree (cls := .ref C) (t0 := t0) (dv := none) (c2 := .none) (c3 := .none) (b4 := .bool false) he hz fun h' k e' _ => hq h' _ k e'
theorem init1 (T : Err1 prog K mg x f C fI) {e t0 : Addr} {v : Value} (X : K.In s.heap) (hlim : s.heap.NoLimit) (hg : s.heap.Ns mainGlobals mg) (hb : ∃ mb, s.heap.Ns builtinsNs mb ∧ ∀ x : Str, x ≠ "__name__" → mb x = bootBuiltins x)
    (he : s.heap.get? e = some (excO C t0)) (hnx : K.lookup e = none) (hroom : A.depth < recursionLimit)
    (hq : ∀ h' tk dx t1, End1 s.heap h' f e C dx t1 v → R (.ok (.ret .none)) { s with heap := h', toks := tk }) :
    codeAny (model prog w) A (.call (.ref fI) ⟨[.ref e, v], []⟩) R s := by
  obtain ⟨qual, oc, od, doc, pm, an, cda, ct, cc, osl, p1, p2, q1, q2, q3, q4, q5, q6, r1, r2, r3, r4, ho, hcd, ⟨cl, cld, csl, hcell⟩, ccl, cdd, vs, ccs, file, tf, hcode, hvs, hfile, hqq⟩ := T.fn
  obtain ⟨nm, q, N, bs, bm, sn, sub, ab, col, dd, k0, k1, k2, k3, k5, hC, hbm⟩ := T.ox.cls
  obtain ⟨mb, hb1, hb2⟩ := hb
  have hcl : clsIn K C = some { name := nm, bases := bs, mro := .ref C :: bm, ns := N, qualname := q, hasDict := true, slotNames := sn, subclasses := sub, abstract := ab, collection := col, hasDel := false } := by unfold clsIn; rw [hC] <;> rfl
  have hloc : ∀ y ∈ [(("self" : Str), Value.ref e), (f, v)], (s1 f).names.lookup y.1 = some .local := fun y hy => by
    rcases List.mem_cons.mp hy with z | z
    · rw [z]; rfl
    · rw [List.mem_singleton.mp z]; exact lk2 T.nm
  have hsu : alongIn K "__init__" ((((Value.ref C :: bm) : List Value).dropWhile (· != .ref C)).drop 1) = some (some (.builtin "ValueError.__init__")) := by
    have z := T.su
    unfold ks_superIn at z
    rw [hcl] at z
    exact z
  refine ks_codeAny_call_defAt (fd := ksFn "__init__" qual (a1 f p1 p2) (b1 f q1 q2 q3 q4 q5 q6 r1 r2 r3 r4) (s1 f) .none .none doc pm an (.ref cda) ct cc) (binds := [("self", .ref e), (f, v)]) hroom (X _ _ ho) rfl hlim (codeRec_of X hcd) rfl (BindsTo.of_eq (T.nm.bd _ _ _ _ _ _ _ _ _ _ _ _))
    (by intro y hy; simp only [s1, List.mem_cons, List.mem_nil_iff, or_false] at hy; rcases hy with z | z | z | z <;> rw [z] <;> exact (fun w => nomatch w)) hloc (fun h1 hns kp => ?_)
  have X1 : K.In h1 := X.keeps kp
  have he1 := kp _ _ he
  have hC1 := X1 _ _ hC
  have hx0 : e ≠ C := fun z => by
    have y := X _ _ hC
    rw [← z, he] at y
    cases y
  have mself : ([(("self" : Str), Value.ref e), (f, v)].reverse.lookup ("self" : Str)) = some (.ref e) := by
    have e1 : (("self" : Str) == f) = false := by
      have z := T.nm.n1
      rw [Bool.eq_false_iff] at z ⊢
      intro y
      exact z (by rw [beq_iff_eq] at y ⊢; exact y.symm)
    simp only [List.reverse_cons, List.reverse_nil, List.nil_append, List.cons_append, List.lookup, e1, beq_self_eq_true]
  have mf : ([(("self" : Str), Value.ref e), (f, v)].reverse.lookup f) = some v := by
    simp only [List.reverse_cons, List.reverse_nil, List.nil_append, List.cons_append, List.lookup, beq_self_eq_true]
  show _root_.PySem.wpAt _ _ _ (execs (b1 f q1 q2 q3 q4 q5 q6 r1 r2 r3 r4) _) _ _ _
  unfold b1
  refine ks_wpAt_execs_cons (ks_wpAt_Expr_any (ks_wpAt_MethodCall (ks_wpAt_super_base (lk4 T.nm) (lk3 T.nm) (by decide +kernel) rfl (X1 _ _ ho) rfl rfl rfl (X1 _ _ hcode) rfl hvs hfile T.top ?_) (meth_eq hqq)))
  refine ks_loadName_global rfl (lk4 T.nm) (loadGlobal_builtin (hg.keeps kp) T.gS (hb1.keeps kp) ((hb2 _ (by decide +kernel)).trans (by decide +kernel : bootBuiltins "super" = some (.type "super"))) ⟨rfl, ?_⟩)
  refine wpAny_loadName_free rfl (lk3 T.nm) rfl ⟨_, X1 _ _ hcell, rfl⟩ ?_
  refine wpAny_loadName_local rfl rfl hns mself ?_
  refine ks_wpAny_isType_cls hC1 rfl ⟨rfl, ?_⟩
  refine ks_wpAny_call_super hC1 rfl he1 rfl (fun c z => nomatch z) (looks_mroIn X1 T.sC) (fun h2 hso k2 => ?_)
  have X2 : K.In h2 := X1.keeps k2
  have he2 := k2 _ _ he1
  have I2 : InstAt h2 e (excO C t0) C none := ⟨he2, rfl, rfl, trivial⟩
  refine kxs_getMethod kxs_ValueError hso (looks_opaque X2 T.oq) (l₀ := .ref C :: bm) (fun A Q E s k q => wpAny_bind ((looks_clsIn X2 hcl) A _ E s k (wpAny_pure q))) rfl X2 hsu (I2.type.andThen (looks_subIn X2 T.sV)) hx0 (by decide +kernel) ?_
  refine kxs_callWith (i := "ValueError.__init__") (x := e) rfl ?_
  have hns2 := hns.keeps k2
  refine evalArgs_plain (Calls.spliced_cons (ldc rfl (lk2 T.nm) (hns2.keeps fun b o z => Heap.get?_push_of_some _ z) mf (Calls.spliced_nil ⟨Heap.get?_push_size _ rfl, ?_⟩) T.nm.n4))
  have k3 : ∀ b o, h2.get? b = some o → (h2.push (kxs_mw "ValueError.__init__" e)).get? b = some o := fun b o z => Heap.get?_push_of_some _ z
  show wpAny _ _ (call (.ref h2.objs.size) [v]) _ _ _
  refine call_mw (X2.keeps k3 _ _ hC) (k3 _ _ he2) (Heap.get?_push_size _ rfl) (by rw [sizeLine_eq]; exact (by decide : 1 ≤ 16777216)) fun h4 t1 k4 he4 => ?_
  have kall : ∀ b o, b ≠ e → s.heap.get? b = some o → h4.get? b = some o := fun b o hb z => k4 b o hb (k3 b o (k2 b o (kp b o z)))
  have X4 : K.In h4 := fun a o z => kall a o (fun y => by rw [y, hnx] at z; cases z) (X a o z)
  have hL : s.heap.objs.size ≠ e := Nat.ne_of_gt (Heap.lt_size he)
  have hns4 : h4.Ns s.heap.objs.size (fun y => [(("self" : Str), Value.ref e), (f, v)].reverse.lookup y) := by
    obtain ⟨oL, es, ep, hoL, r⟩ := hns2
    exact ⟨oL, es, ep, k4 _ _ hL (k3 _ _ hoL), r⟩
  show _root_.PySem.wpAt _ _ _ (execs [.Assign [.Attribute (.Name "self" r1) f r2] (.Name f r3) r4] _) _ _ _
  refine wpAt_of_wpAny (wpAny_execs_cons (plainObj_wpAny_Assign_Attribute (ldc rfl (lk2 T.nm) hns4 mf (ldc rfl rfl hns4 mself ?_) T.nm.n4)))
  refine set_plain X4 (ox := excO C t1) (od := none) ⟨he4, rfl, rfl, trivial⟩ T.ox.sa ?_
  refine exc_osa X4 he4 hcl (show refsVE (.ref C :: bm) = true from hbm) rfl T.nf (fun h5 tk5 dx k5 dn dne hx5 hn5 => ?_)
  have z1 : s.heap.objs.size ≤ h1.objs.size := Nat.le_of_lt hns.lt
  refine wpAny_execs_nil (hq h5 tk5 dx t1 ⟨fun b o hb z => k5 b o hb (kall b o hb z), hx5, ?_, dne, hn5⟩)
  have z2 := hns4.lt
  exact Nat.le_trans (Nat.le_of_lt z2) dn
/-- a made error -/
structure Made1 (h h' : Heap) (f : Str) (e C d : Addr) (v : Value) : Prop where
  keep : ∀ b o, h.get? b = some o → h'.get? b = some o
  new : h.objs.size ≤ e
  obj : ∃ oe vs, h'.get? e = some oe ∧ oe.cls = .ref C ∧ oe.dict = some d ∧ oe.data = .fields vs ∧ vs[1]? = some .none
  dbig : h.objs.size ≤ d
  dne : d ≠ e
  ns : h'.Ns1 d (fun y => if y = f then some v else none)
theorem made1 (T : Err1 prog K mg x f C fI) {v : Value} (X : K.In s.heap) (hlim : s.heap.NoLimit) (hg : s.heap.Ns mainGlobals mg) (hb : ∃ mb, s.heap.Ns builtinsNs mb ∧ ∀ x : Str, x ≠ "__name__" → mb x = bootBuiltins x) (hroom : A.depth + 1 < recursionLimit)
    (hq : ∀ h' tk e d, Made1 s.heap h' f e C d v → R (.ok (.ret (.ref e))) { s with heap := h', toks := tk }) :
    codeAny (model prog w) A (.call (.ref C) ⟨[v], []⟩) R s := by
  obtain ⟨nm, q, N, bs, bm, sn, sub, ab, col, dd, k0, k1, k2, k3, k5, hC, hbm⟩ := T.ox.cls
  obtain ⟨hp, g, dr, tk, os⟩ := s
  have kp : ∀ b o, hp.get? b = some o → ((hp.push (kdv_tup [v])).push (excO C hp.objs.size)).get? b = some o := fun b o z => Heap.get?_push_of_some _ (Heap.get?_push_of_some _ z)
  have hget : ((hp.push (kdv_tup [v])).push (excO C hp.objs.size)).get? (hp.objs.size + 1) = some (excO C hp.objs.size) := by heap_get
  have hnx : K.lookup (hp.objs.size + 1) = none := by
    cases z : K.lookup (hp.objs.size + 1) with
    | none => rfl
    | some o => exact absurd (Nat.lt_of_succ_lt (Heap.lt_size (X _ _ z))) (Nat.lt_irrefl _)
  refine call_own F.excBase_ValueError (fun Y => refsVE_contains Y bm hbm) (X _ _ hC) (looks_findIn X T.iC) (fun self => bind_fn X self T.tI) (by rw [sizeLine_eq]; exact (by decide : 1 ≤ 16777216)) ?_
  obtain ⟨mb, hb1, hb2⟩ := hb
  refine init1 (s := ⟨(hp.push (kdv_tup [v])).push (excO C hp.objs.size), g, dr, tk, os⟩) T (X.keeps kp) (hlim.keeps kp) (hg.keeps kp) ⟨mb, hb1.keeps kp, hb2⟩ hget hnx ?_ fun h' tk' dx t1 ⟨k', hx, dn, dne, hns⟩ => ?_
  · show A.depth + 1 < recursionLimit
    exact hroom
  · have old : ∀ b o, hp.get? b = some o → h'.get? b = some o := fun b o z => k' b o (Nat.ne_of_lt (Nat.lt_succ_of_lt (Heap.lt_size z))) (kp b o z)
    have z : hp.objs.size + 1 + 1 ≤ dx := by
      have y := dn
      first
        | (rw [Heap.size_push, Heap.size_push] at y; exact y)
        | exact y
    exact ⟨rfl, hq h' tk' (hp.objs.size + 1) dx ⟨old, Nat.le_succ _, ⟨_, _, hx, rfl, rfl, rfl, rfl⟩, Nat.le_trans (Nat.le_trans (Nat.le_succ _) (Nat.le_succ _)) z, dne, hns⟩⟩
end
end Sup
namespace L2
open PySem PySem.Spec PyProof.Rows
theorem relO_one {v : V} {v' : Value} {f : Str} (r : RelV v v') (g : Str) : RelO (List.lookup g [(f, v)]) (if g = f then some v' else none) := by
  by_cases hw : g = f
  · rw [if_pos hw, hw]
    have z : List.lookup f [(f, v)] = some v := by simp [List.lookup]
    rw [z]
    exact r
  · rw [if_neg hw]
    have y : (g == f) = false := by simpa using hw
    have z : List.lookup g [(f, v)] = none := by simp [List.lookup, y]
    rw [z]
    trivial
section
variable {X : Cx} {C fI : Addr} {x f : Str}
/-- E(e) -/
def tMk1 (C : Addr) (f : Str) (ta : TA) : St → Hp → XK → Prop := fun σ H Q => ta σ H fun vs H1 => ∃ v, vs = [v] ∧ ∀ d, H1 d = none → Q (.ref C) (some d) (upd H1 d (.xd [(f, v)]))
theorem pmk_1 {a : Expr} {ta : TA} {p pos : Pos} {k : Nat} (T : Sup.Err1 X.prog X.K X.mg x f C fI) (hr : Room k X.A) (ha : PA X [a] ta) (hg : Gl X x := by rfl) (hdb : (x == ("__debug__" : Str)) = false := by decide)
    (hs : starEach (a :: []) X.env = (false, eval a X.env) :: starEach [] X.env := by rfl) (hpl : (backTo pos (starEach [] X.env)).any (·.1) = false := by rfl) :
    PMk X (.Call (.Name x p) [a] [] pos) (tMk1 C f ta) := by
  intro pins s σ H Q I h
  refine wpAny_Call_Name_kw (ld_glob I hg T.gC ?_ hdb)
  refine PySem.W.callWith_K (h₀ := X.base) I.ok.mod.kin T.ox.kC (thn (ha.run pos pins s σ H _ I h) fun us s1 hh => ?_) hs hpl
  obtain ⟨vs, H1, I1, r1, v, ev, q1⟩ := hh
  subst ev
  refine ⟨I1.kIn, ?_⟩
  cases r1 with
  | cons rv rn =>
    rename_i v' us'
    cases rn
    show wpAny _ _ (call (.ref C) [v']) _ _ _
    have hlim := I1.nolimit
    obtain ⟨mb, hb1, hb2⟩ := I1.mod.blt
    have bk1 := I1.bk
    have gl1 := I1.mod.glob
    obtain ⟨hp, g, dr, tk, os⟩ := s1
    refine wpAny_call (Sup.made1 T I1.kIn hlim (gl1.keeps bk1) ⟨mb, hb1.keeps bk1, hb2⟩ (by have := hr.dp; omega) fun h' tk' e d M => ?_)
    show MkP X pins σ Q (.ref e) ⟨h', g, dr, tk', os⟩
    obtain ⟨oe, fv, hoe, hc, hd, hdat, h1⟩ := M.obj
    have hns := M.ns
    obtain ⟨G', g1, g2⟩ := restrict h' fun b => decide (b ≠ e)
    have gk : ∀ b, b ≠ e → G'.get? b = h'.get? b := fun b hb => g1 b (decide_eq_true hb)
    have ge : G'.get? e = none := g2 e (by simp)
    have old : ∀ b o, hp.get? b = some o → G'.get? b = some o := fun b o z => (gk b (Nat.ne_of_lt (Nat.lt_of_lt_of_le (Heap.lt_size z) M.new))).trans (M.keep b o z)
    have ob : ObjOk X.prog X.w (upd H1 d (.xd [(f, v)])) G' d (.xd [(f, v)]) :=
      ⟨_, hns.at (fun o z => (gk d M.dne).trans z), fun y => relO_one rv y⟩
    have J : Inv X pins σ (upd H1 d (.xd [(f, v)])) ⟨G', g, dr, tk', os⟩ := I1.laid (t' := tk') old M.dbig ob
    refine ⟨e, oe, fv, ⟨G', g, dr, tk', os⟩, _, .ref C, some d, rfl, J, fun b o z => ?_, ge, hoe, ⟨hc, hd⟩, hdat, h1, ?_, rfl, I1.bare, raises_own T.ox.exC T.ox.tyC, q1 d (I1.hok.fresh M.dbig)⟩
    · by_cases hb : b = e
      · have z' : G'.get? b = some o := z
        rw [hb, ge] at z'; cases z'
      · exact (gk b hb).symm.trans z
    · rw [upd_ne (Ne.symm M.dne)]
      exact I1.hok.fresh M.new
/-- raise E(e) -/
def tRaise1 (C : Addr) (f : Str) (W : WX) (ta : TA) : TS := fun _ σ H => tMk1 C f ta σ H fun cls d H' => W cls d σ H'
theorem ps_raise1 {a : Expr} {ta : TA} {W : WX} {p pos pos2 : Pos} {k : Nat} (hc : X.calm = true) (T : Sup.Err1 X.prog X.K X.mg x f C fI) (hr : Room k X.A) (tk : Takes X W) (ha : PA X [a] ta) (hg : Gl X x := by rfl) (hdb : (x == ("__debug__" : Str)) = false := by decide)
    (hs : starEach (a :: []) X.env = (false, eval a X.env) :: starEach [] X.env := by rfl) (hpl : (backTo pos (starEach [] X.env)).any (·.1) = false := by rfl) :
    PS X (.Raise (some (.Call (.Name x p) [a] [] pos)) none pos2) (tRaise1 C f W ta) := ps_raise hc tk (pmk_1 T hr ha hg hdb hs hpl)
end
end L2
/-! Defs by name, the pen. -/
namespace My
open PySem PySem.Spec PyProof.Rows L2
/-- a def of the module that keeps its promise -/
structure DefAt (P : Program) (w : World) (K : PySem.W.Frag) (mg : Str → Option Value) (base : Heap) (CX : CXT) (k : Nat) (x : Str) (ps : List Str) (sp : Sp) : Prop where
  ex : ∃ f fd, FnOk P w K mg base CX k f fd ps sp ∧ mg x = some (.ref f) ∧ PySem.W.keepIn K (.ref f) = true ∧ L2.Binds K fd ps []
structure DefG (P : Program) (w : World) (K : PySem.W.Frag) (mg : Str → Option Value) (base : Heap) (CX : CXT) (k : Nat) (x : Str) (ps : List Str) (sp : Sp) : Prop where
  ex : ∃ f fd, FnG P w K mg base CX k f fd ps sp ∧ mg x = some (.ref f) ∧ PySem.W.keepIn K (.ref f) = true ∧ L2.Binds K fd ps []
section
variable {X : Cx} {CX : CXT} {k : Nat} {ps : List Str} {sp : Sp} {E : XK} {x : Str} {e : Expr} {es : List Expr} {t : TA} {p pos : Pos}
theorem pe_d (D : DefAt X.prog X.w X.K X.mg X.base CX k x ps sp) (hr : Room k X.A) (hg : Gl X x) (hx : Passes CX X E) (ha : PA X (e :: es) t) (hdb : (x == ("__debug__" : Str)) = false := by decide)
    (hs : starEach (e :: es) X.env = (false, eval e X.env) :: starEach es X.env := by rfl) (hpl : (backTo pos (starEach es X.env)).any (·.1) = false := by rfl) : PE X (.Call (.Name x p) (e :: es) [] pos) (tCall sp [] E t) := by
  obtain ⟨f, fd, F, m, hk, b⟩ := D.ex
  exact pe_call F hr hg m hk b .nil hx ha hdb hs hpl
theorem pe_dG (D : DefG X.prog X.w X.K X.mg X.base CX k x ps sp) (hgd : X.A.guards = some []) (hr : Room k X.A) (hg : Gl X x) (hx : Passes CX X E) (ha : PA X (e :: es) t) (hdb : (x == ("__debug__" : Str)) = false := by decide)
    (hs : starEach (e :: es) X.env = (false, eval e X.env) :: starEach es X.env := by rfl) (hpl : (backTo pos (starEach es X.env)).any (·.1) = false := by rfl) : PE X (.Call (.Name x p) (e :: es) [] pos) (tCall sp [] E t) := by
  obtain ⟨f, fd, F, m, hk, b⟩ := D.ex
  exact pe_callG F hgd hr hg m hk b hx ha hdb hs hpl
end
/-- a class of the module that is made by its __init__, some defaults filled up -/
structure MakeAt (P : Program) (w : World) (K : PySem.W.Frag) (mg : Str → Option Value) (base : Heap) (CX : CXT) (k : Nat) (x : Str) (C : Addr) (ps : List Str) (sp : Sp) (dvs : List V) : Prop where
  ex : ∃ f fd ds, Mk K C f ∧ FnOk P w K mg base CX k f fd ps sp ∧ mg x = some (.ref C) ∧ L2.Binds K fd ps ds ∧ Vals dvs ds
structure MethAt (P : Program) (w : World) (K : PySem.W.Frag) (mg : Str → Option Value) (base : Heap) (CX : CXT) (k : Nat) (C : Addr) (m : Str) (ps : List Str) (sp : Sp) : Prop where
  ex : ∃ f fd, Meth K C m f ∧ FnOk P w K mg base CX k f fd ps sp ∧ L2.Binds K fd ps []
/-- .. called with keywords alone: their names ks, gV puts them in the parameters' order -/
structure MethK (P : Program) (w : World) (K : PySem.W.Frag) (mg : Str → Option Value) (base : Heap) (CX : CXT) (k : Nat) (C : Addr) (m : Str) (ps ks : List Str) (sp : Sp) (gV : List V → List V → List V) : Prop where
  ex : ∃ f fd g, Meth K C m f ∧ FnOk P w K mg base CX k f fd ps sp ∧ KBn K fd ps 1 ks g gV
structure CallAt (P : Program) (w : World) (K : PySem.W.Frag) (mg : Str → Option Value) (base : Heap) (CX : CXT) (k : Nat) (C : Addr) (ps : List Str) (sp : Sp) : Prop where
  ex : ∃ f fd, StX.CallO K C f ∧ FnOk P w K mg base CX k f fd ps sp ∧ L2.Binds K fd ps []
section
variable {X : Cx} {CX : CXT} {k : Nat} {C : Addr} {ps ks : List Str} {sp : Sp} {E : XK} {x m : Str} {e o fe : Expr} {es : List Expr} {kws : List Keyword} {t tk : TA} {ta tf : TE} {p pos apos : Pos} {dvs : List V} {gV : List V → List V → List V}
theorem pe_mk (M : MakeAt X.prog X.w X.K X.mg X.base CX k x C ps sp dvs) (hr : Room (k + 1) X.A) (hg : Gl X x) (hx : Passes CX X E) (ha : PA X (e :: es) t) (hdb : (x == ("__debug__" : Str)) = false := by decide)
    (hs : starEach (e :: es) X.env = (false, eval e X.env) :: starEach es X.env := by rfl) (hpl : (backTo pos (starEach es X.env)).any (·.1) = false := by rfl) : PE X (.Call (.Name x p) (e :: es) [] pos) (tMake C sp dvs E t) := by
  obtain ⟨f, fd, ds, mk, F, hm, b, d⟩ := M.ex
  exact pe_make mk F hr hg hm b d hx ha hdb hs hpl
theorem pe_mt {pl : Sem Bool} (c : Cls X.K C) (M : MethAt X.prog X.w X.K X.mg X.base CX k C m ps sp) (hr : Room k X.A) (hx : Passes CX X E) (he : PE X o ta) (ha : PA X (e :: es) t)
    (hst : starEach (e :: es) X.env = (false, eval e X.env) :: starEach es X.env := by rfl) (hpl : (backTo pos (starEach es X.env)).any (·.1) = false := by rfl)
    (ht : eval (.Call (.Attribute o m apos) (e :: es) [] pos) X.env = (do
      let ov ← eval o X.env
      standAt apos.atName
      let (f, first) ← holding [ov] (getMethod ov m pl)
      callWith pos f first (backTo pos (starEach (e :: es) X.env)) (backToKw pos (keywordEach [] X.env))) := by rfl) :
    PE X (.Call (.Attribute o m apos) (e :: es) [] pos) (tMeth C m sp [] E ta t) := by
  obtain ⟨f, fd, hm, F, b⟩ := M.ex
  exact pe_meth he c hm F hr b .nil hx ha hst hpl ht
theorem pe_mt0 {pl : Sem Bool} (c : Cls X.K C) (M : MethAt X.prog X.w X.K X.mg X.base CX k C m ps sp) (hr : Room k X.A) (hx : Passes CX X E) (he : PE X o ta)
    (ht : eval (.Call (.Attribute o m apos) [] [] pos) X.env = (do
      let ov ← eval o X.env
      standAt apos.atName
      let (f, first) ← holding [ov] (getMethod ov m pl)
      callWith pos f first (backTo pos (starEach [] X.env)) (backToKw pos (keywordEach [] X.env))) := by rfl) :
    PE X (.Call (.Attribute o m apos) [] [] pos) (tMeth C m sp [] E ta tNil) := by
  obtain ⟨f, fd, hm, F, b⟩ := M.ex
  exact pe_meth0 he c hm F hr b .nil hx ht
/-- o.m(k = v, ..) -/
def tMethK (C : Addr) (m : Str) (j : Nat) (sp : Sp) (gV : List V → List V → List V) (E : XK) (ta : TE) (tk : TA) : TE := fun σ H Q => ta σ H fun x H1 => ∃ a dx fs, x = .ref a ∧ H1 a = some (.ins C dx fs) ∧ fs.lookup m = none ∧
  tk σ H1 fun zs H2 => zs.length = j ∧ sp (gV [.ref a] zs) H2 Q E
theorem pe_mtK {pl : Sem Bool} (c : Cls X.K C) (M : MethK X.prog X.w X.K X.mg X.base CX k C m ps ks sp gV) (hr : Room k X.A) (hx : Passes CX X E) (he : PE X o ta) (hkw : PK X kws tk)
    (hall : (backToKw pos (keywordEach kws X.env)).all (·.1.isSome) = true := by rfl) (hks : (backToKw pos (keywordEach kws X.env)).filterMap (·.1) = ks := by rfl)
    (hpl : ((backTo pos (starEach [] X.env)).any (·.1) || (backToKw pos (keywordEach kws X.env)).any (·.1.isNone)) = false := by rfl)
    (ht : eval (.Call (.Attribute o m apos) [] kws pos) X.env = (do
      let ov ← eval o X.env
      standAt apos.atName
      let (f, first) ← holding [ov] (getMethod ov m pl)
      callWith pos f first (backTo pos (starEach [] X.env)) (backToKw pos (keywordEach kws X.env))) := by rfl) :
    PE X (.Call (.Attribute o m apos) [] kws pos) (tMethK C m ks.length sp gV E ta tk) := by
  obtain ⟨f, fd, g, hm, F, b⟩ := M.ex
  refine ⟨fun pins s σ H Q I h => ?_⟩
  refine PySem.W.methodCall_KW (pl := pl) (thn (he.run pins s σ H _ I h) fun u s1 ⟨x, H1, I1, rx, a, dx, fs, ex, ea, l, q⟩ => ?_) ht
  subst ex
  obtain rfl : u = Value.ref a := rx
  refine getmeth_ok I1 ea c hm l ?_
  refine PySem.W.callWith_KW0 (first := [.ref a]) (h₀ := X.base) I.ok.mod.kin hm.kp hall (thn (hkw.run pos pins s1 σ H1 _ I1 q) fun ws s2 ⟨zs, H2, I2, rz, l2, q2⟩ => ⟨I2.kIn, ?_⟩) hpl
  rw [hks]
  exact run_fnN (us := [.ref a]) (vs := [.ref a]) F hr b hx I2 (.cons rfl .nil) rz rfl l2 q2
theorem pe_cl (M : CallAt X.prog X.w X.K X.mg X.base CX k C ps sp) (hr : Room k X.A) (hx : Passes CX X E) (hf : PE X fe tf) (ha : PA X (e :: es) t)
    (ht : eval (.Call fe (e :: es) [] pos) X.env = (do callWith pos (← eval fe X.env) [] (backTo pos (starEach (e :: es) X.env)) (backToKw pos (keywordEach [] X.env))) := by rfl)
    (hs : starEach (e :: es) X.env = (false, eval e X.env) :: starEach es X.env := by rfl) (hpl : (backTo pos (starEach es X.env)).any (·.1) = false := by rfl) : PE X (.Call fe (e :: es) [] pos) (StX.tCallO X C sp E tf t) := by
  obtain ⟨f, fd, c, F, b⟩ := M.ex
  refine StX.pe_callO hf c (fun A outer s H us vs Q E hr e0 r hsp => ?_) hr hx ha ht hs hpl
  have hl : (us ++ []).length = ps.length := by rw [List.append_nil, ← r.length]; exact F.len _ _ _ _ hsp
  have hb := b s us (e0.mod.kin.keeps fun b o e => (e0.bs b o e).1) hl
  rw [List.append_nil] at hb
  exact F.run A outer s H ⟨us, []⟩ us vs Q E hr e0 hb r hsp
end
/-- an own comparison -/
structure CmpAt (P : Program) (w : World) (K : PySem.W.Frag) (mg : Str → Option Value) (base : Heap) (CX : CXT) (k : Nat) (C : Addr) (m : Str) (ps : List Str) (sp : Sp) : Prop where
  ex : ∃ f fd, PySem.W.findIn K (.ref C) m = some (some (.ref f)) ∧ PySem.W.isFn K (.ref f) = true ∧ FnOk P w K mg base CX k f fd ps sp ∧ L2.Binds K fd ps []
def rCmpO (K : PySem.W.Frag) (C : Addr) (sp : Sp) (E : XK) : R2 := fun x y H Q => ∃ a dx fs t, x = .ref a ∧ H a = some (.ins C dx fs) ∧ TyX K H y t ∧ PySem.W.notFirst K C t = true ∧ sp [.ref a, y] H Q E
theorem op_cmpO {X : Cx} {CX : CXT} {k : Nat} {C : Addr} {m : Str} {ps : List Str} {sp : Sp} {E : XK} {op : CmpOp} (M : CmpAt X.prog X.w X.K X.mg X.base CX k C m ps sp) (hr : Room k X.A) (hx : Passes CX X E) (hop : (cmpInfo op).2.1 = m := by rfl)
    (hco : ∀ v u, compareOp op v u = richCompare op v u := by intro _ _; rfl) : OpR X (compareOp op) (rCmpO X.K C sp E) := by
  intro pins s σ H x y v u Q I rx ry h
  obtain ⟨f, fd, hs, hf, F, hb⟩ := M.ex
  obtain ⟨a, dx, fs, t, rfl, ha, ty, hn, hsp⟩ := h
  obtain rfl : v = Value.ref a := rx
  obtain ⟨mA, J, _⟩ := ins_get I.hok ha
  obtain ⟨od, J, _⟩ := J.look
  obtain ⟨m', hF⟩ := I.fr
  obtain ⟨Pz, Z, pz, _⟩ := kit_of I ry ty
  rw [hco]
  refine PySem.W.cmp_K (op := op) (tb := t) hr.units0 hF I.ok.mod.kin J (Z.ty _ _ I.kIn pz) hn (by rw [hop]; exact hs) hf ?_
  have hl := F.len _ _ _ _ hsp
  have r2 : Vals [V.ref a, y] [Value.ref a, u] := .cons rfl (.cons ry .nil)
  refine wpAny_call (codeAny_mono (F.run X.A X.stack s H ⟨[.ref a, u], []⟩ [.ref a, u] [.ref a, y] _ E hr I.env0 (by
    have := hb s [.ref a, u] I.kIn (by simpa using hl)
    simpa using this) r2 hsp) fun r s' hq => ?_)
  cases r with
  | error e => exact hx pins σ H s e s' I hq
  | ok fl =>
    cases fl with
    | ret z =>
      have q := I.after hq
      obtain ⟨zv, H', I', rz, q'⟩ := id q
      cases z with
      | notImplemented => cases zv <;> first | (cases rz; done) | (obtain ⟨_, rz⟩ := rz; cases rz)
      | _ => exact q
    | next => exact False.elim hq
    | brk => exact False.elim hq
    | cont => exact False.elim hq
/-! ### the pen: a list of the cells, an index, what is left of a great cell -/
def PenAt (H : Hp) (pn : Addr) (n : Nat) : Prop := ∃ (cl : Addr) (ns : List Int) (at_ rest : Int), H pn = some (.lst [.ref cl, .int at_, .int rest]) ∧ H cl = some (.lst (ns.map V.int)) ∧ ns.length ≤ 63 ∧ 0 ≤ at_ ∧ at_ ≤ n
/-- all but pn stays -/
def But (pn : Addr) (H H' : Hp) : Prop := ∀ b o, H b = some o → b ≠ pn → H' b = some o
theorem But.refl (pn : Addr) (H : Hp) : But pn H H := fun _ _ h _ => h
theorem But.trans {pn : Addr} {H H1 H2 : Hp} (a : But pn H H1) (b : But pn H1 H2) : But pn H H2 := fun c o h n => b c o (a c o h n) n
theorem But.new {pn p : Addr} {H : Hp} {o : HO} (h : H p = none) : But pn H (upd H p o) := fun b u e _ => by rw [upd_ne (ne_of_none e h)]; exact e
theorem But.put {pn : Addr} {H : Hp} {o : HO} : But pn H (upd H pn o) := fun b u e n => by rw [upd_ne n]; exact e
theorem pen_new {H : Hp} {pn p : Addr} {n : Nat} {o : HO} (h : PenAt H pn n) (hp : H p = none) : PenAt (upd H p o) pn n := by
  obtain ⟨cl, ns, a, r, h1, h2, h3⟩ := h
  exact ⟨cl, ns, a, r, by rw [upd_ne (ne_of_none h1 hp)]; exact h1, by rw [upd_ne (ne_of_none h2 hp)]; exact h2, h3⟩
theorem PenAt.le {H : Hp} {pn : Addr} {n m : Nat} (h : PenAt H pn n) (le : n ≤ m) : PenAt H pn m := by
  obtain ⟨cl, ns, a, r, h1, h2, h3, h4, h5⟩ := h
  exact ⟨cl, ns, a, r, h1, h2, h3, h4, by omega⟩
def spDraw : Sp := fun vs H Q _ => ∃ (pn : Addr) (m : Int) (n : Nat), vs = [.ref pn, .int m] ∧ 0 < m ∧ m.natAbs.log2 < 9000 ∧ PenAt H pn n ∧ n < 100000 ∧
  ∀ (d : Int) (H' : Hp), 0 ≤ d → d < m → PenAt H' pn (n + 1) → But pn H H' → Q (.int d) H'
/-- pick(pen, some): one of some -/
def spPick : Sp := fun vs H Q _ => ∃ (pn l : Addr) (n : Nat) (xs : List V), vs = [.ref pn, .ref l] ∧ H l = some (.lst xs) ∧ l ≠ pn ∧ 0 < xs.length ∧ xs.length ≤ 1000 ∧ PenAt H pn n ∧ n < 100000 ∧
  ∀ (v : V) (H' : Hp), v ∈ xs → PenAt H' pn (n + 1) → But pn H H' → Q v H'
def spPen (K : PySem.W.Frag) : Sp := fun vs H Q _ => ∃ (a : Addr) (ns : List Int), vs = [.ref a] ∧ SqL K H a (ns.map V.int) ∧
  ∀ (pn : Addr) (H' : Hp), H pn = none → PenAt H' pn 0 → Same H H' → Q (.ref pn) H'
/-! ### lists of ints as data -/
theorem dp_ints {K : PySem.W.Frag} {H : Hp} : ∀ ns : List Int, DpAll K H (ns.map V.int) (ns.map PyData.int)
  | [] => .nil
  | n :: ns => .cons (.int n) (dp_ints ns)
theorem lay_ints : ∀ ns : List Int, PyData.canLayAll0 (ns.map PyData.int) = true
  | [] => rfl
  | n :: ns => by
    show (true && PyData.canLayAll0 (ns.map PyData.int)) = true
    rw [lay_ints ns]
    rfl
theorem dep_ints : ∀ ns : List Int, PyData.depthAll (ns.map PyData.int) = 0
  | [] => rfl
  | n :: ns => by
    show max 0 (PyData.depthAll (ns.map PyData.int)) = 0
    rw [dep_ints ns]
    rfl
theorem shaped_ints (ns : List Int) : SeqAt.shaped (.list (ns.map PyData.int)) = true := by
  show (PyData.canLayAll0 (ns.map PyData.int) && decide (PyData.depthAll (ns.map PyData.int) + 1 ≤ 64)) = true
  rw [lay_ints, dep_ints]
  rfl
theorem pow_lt {i : Int} {b : Nat} (h0 : 0 ≤ i) (h : i < 2 ^ b) : i.natAbs < 2 ^ b := by
  have e : ((2 ^ b : Nat) : Int) = (2 : Int) ^ b := by simp
  omega
theorem mix_lt {x a c d e : Int} (x0 : 0 ≤ x) (x1 : x < 2147483648) (a0 : 0 ≤ a) (a1 : a < 100000) (c0 : 0 ≤ c) (c1 : c ≤ 1000) (d0 : 0 ≤ d) (d1 : d ≤ 100000) (e0 : 0 ≤ e) (e1 : e ≤ 100000) : (x * (2 * a + c) + d * a * a + e).natAbs < 2 ^ 64 := by
  have h1 : x * (2 * a + c) ≤ 2147483648 * 201000 := Int.mul_le_mul (by omega) (by omega) (by omega) (by decide)
  have h2 : 0 ≤ x * (2 * a + c) := Int.mul_nonneg x0 (by omega)
  have h3 : d * a ≤ 100000 * 100000 := Int.mul_le_mul d1 (by omega) a0 (by decide)
  have h4 : 0 ≤ d * a := Int.mul_nonneg d0 a0
  have h5 : d * a * a ≤ (100000 * 100000) * 100000 := Int.mul_le_mul h3 (by omega) a0 (by decide)
  have h6 : 0 ≤ d * a * a := Int.mul_nonneg h4 a0
  generalize x * (2 * a + c) = y at *
  generalize d * a * a = z at *
  refine pow_lt (by omega) (by omega)
theorem cut_ints (ns : List Int) (k : Nat) : cutV (ns.map V.int) none (some (k : Int)) = (ns.take k).map V.int := by
  unfold cutV
  rw [HT.sIx_none, HT.sIx_nat, List.drop_zero, Nat.sub_zero, List.map_take, List.length_map]
  by_cases h : k ≤ ns.length
  · rw [Nat.min_eq_left h]
  · rw [Nat.min_eq_right (by omega), List.take_of_length_le (by rw [List.length_map]; exact Nat.le_refl _), List.take_of_length_le (by rw [List.length_map]; omega)]
/-- names that are still the built-in ones -/
structure BI (mg : Str → Option Value) : Prop where
  z_len : mg "len" = none
  z_abs : mg "abs" = none
  z_int : mg "int" = none
  z_bool : mg "bool" = none
  z_list : mg "list" = none
  z_repr : mg "repr" = none
  z_isinstance : mg "isinstance" = none
  z_range : mg "range" = none
end My
/-! The end of a law whose def shows containers: a def that keeps its promise where nothing is being shown. -/
namespace My
open PySem PySem.Spec PyProof.Rows L2
/-- the heap h at the law's start as the walk sees it: the script's list at a, the tables of code objects -/
structure Begin (P : Program) (w : World) (K : PySem.W.Frag) (cs : List (Addr × Addr)) (a : Addr) (ns : List Int) (H : Hp) (h : Heap) : Prop where
  tbl : ∀ p ∈ cs, H p.2 = some (.tbl #[])
  kind : ∀ b, H b = none ∨ b ∈ cs.map (·.2) ∨ ∃ o xs, H b = some (.frz o (.lst xs))
  seq : SqL K H a (ns.map V.int)
  ok : HOk P w H h
  only : ∀ b, H b ≠ none → b = a ∨ b ∈ cs.map (·.2)
  out : H a ≠ none → K.lookup a = none
/-- what is known of a table and its code object -/
structure TabF (K : PySem.W.Frag) (h : Heap) (p : Addr × Addr) : Prop where
  get : h.get? p.2 = some { cls := .none, data := .fields #[] }
  out : K.lookup p.2 = none
  hd : PySem.W.CodeHd h p.1 p.2
def Goal (l : Program) (w : World) (fa a : Addr) (s₁ : Shared) : Prop := codeAny (model l w) callerA (.call (.ref fa) ⟨[.ref a], []⟩) (fun r s' => r = .ok (.ret (.bool true)) ∧ OldK s₁.heap s'.heap ∧ s'.os = s₁.os ∧ AllBare s'.gens) s₁
theorem tab_get {K : PySem.W.Frag} {h : Heap} {cs : List (Addr × Addr)} (t : ∀ p ∈ cs, TabF K h p) {b : Addr} (hb : b ∈ cs.map (·.2)) : h.get? b = some { cls := .none, data := .fields #[] } := by
  obtain ⟨p, hp, rfl⟩ := List.mem_map.mp hb
  exact (t p hp).get
section
variable {P : Program} {w : World} {K : PySem.W.Frag} {mg mb : Str → Option Value} {k : Nat} {fa a : Addr} {cs : List (Addr × Addr)} {fd : FuncData} {x : Str} {sp : Sp} {s₁ : Shared} {vs : List Value} {ns : List Int}
theorem from_begin {H : Hp} (B : Begin P w K cs a ns H s₁.heap) (hK : K.In s₁.heap) (gN : s₁.heap.Ns mainGlobals mg) (bN : s₁.heap.Ns builtinsNs mb) (bB : ∀ x : Str, x ≠ "__name__" → mb x = bootBuiltins x) (lim : s₁.heap.NoLimit) (gens : s₁.gens = #[])
    (ts : ∀ p ∈ cs, TabF K s₁.heap p) (mB : ∃ (bm : Addr) (ob : Obj), mg "__builtins__" = some (.ref bm) ∧ bm ≠ builtinsNs ∧ s₁.heap.get? bm = some ob ∧ ob.cls = .type "module" ∧ ob.dict = some builtinsNs ∧ ob.data = .plain)
    (la : s₁.heap.get? a = some { cls := .type "list", data := .seq vs.toArray }) (hr : Room k callerA)
    (F : ∀ base : Heap, K.In base → base.Ns mainGlobals mg → (∀ p ∈ cs, LamX.TabB base mg p.1 p.2) → FnG P w K mg base CX0 k fa fd [x] sp) (bd : ∀ (s : Shared) (u : Value), BindsTo s fd ⟨[u], []⟩ [(x, u)])
    (go : sp [.ref a] H (fun v _ => v = .bl true) fun _ _ _ => False) : Goal P w fa a s₁ := by
  have away : ∀ {b : Addr} {o : Obj}, s₁.heap.get? b = some o → (∀ ys n, o.data ≠ .seq ys n) → o.data ≠ .fields #[] → H b = none := fun {b o} e n1 n2 => by
    by_cases q : H b = none
    · exact q
    · exfalso
      rcases B.only b q with rfl | hb
      · rw [la] at e
        injection e with e
        subst e
        exact n1 _ _ rfl
      · rw [tab_get ts hb] at e
        injection e with e
        subst e
        exact n2 rfl
  have seen : ∀ {b : Addr} {o : Obj}, s₁.heap.get? b = some o → H b = none → (hidT s₁.heap H).get? b = some o := fun e n => hidT_get e n
  have nsOf : ∀ {b : Addr} {m : Str → Option Value}, s₁.heap.Ns b m → (hidT s₁.heap H).Ns b m := fun {b m} ⟨o, es, ep, e, d, r⟩ =>
    ⟨o, es, ep, seen e (away e (fun ys n z => by rw [d] at z; cases z) (fun z => by rw [d] at z; cases z)), d, r⟩
  have inK : K.In (hidT s₁.heap H) := fun b o e => by
    refine seen (hK b o e) ?_
    by_cases q : H b = none
    · exact q
    · exfalso
      rcases B.only b q with rfl | hb
      · rw [B.out q] at e
        cases e
      · obtain ⟨p, hp, rfl⟩ := List.mem_map.mp hb
        rw [(ts p hp).out] at e
        cases e
  have modK : L2.Mod K mg (hidT s₁.heap H) := ⟨inK, nsOf gN, ⟨mb, nsOf bN, bB⟩, let ⟨mc, h1, h2⟩ := lim; ⟨mc, nsOf h1, h2⟩⟩
  have tabs : ∀ p ∈ cs, LamX.TabB (hidT s₁.heap H) mg p.1 p.2 := fun p hp => by
    have tp := ts p hp
    refine ⟨?_, ?_, fun z => ?_⟩
    · obtain ⟨o, us, file, tf, flags, tg, inF, text, tt, e1, r1, r2, r3, rs⟩ := tp.hd
      exact ⟨o, us, file, tf, flags, tg, inF, text, tt, seen e1 (away e1 (fun ys n z => by rw [r2] at z; cases z) (fun z => by rw [r2] at z; cases z; simp at r3)), r1, r2, r3, rs⟩
    · obtain ⟨bm, ob, m1, m2, m3, m4, m5, m6⟩ := mB
      refine ⟨bm, ob, m1, m2, fun z => ?_, fun z => ?_, seen m3 (away m3 (fun ys n z => by rw [m6] at z; cases z) (fun z => by rw [m6] at z; cases z)), m4, m5, m6⟩
      · obtain ⟨o, es, ep, e, hd, _⟩ := gN
        rw [z, e] at m3
        cases m3
        rw [hd] at m6
        cases m6
      · rw [z, tp.get] at m3
        cases m3
        cases m6
    · obtain ⟨o, es, ep, e, hd, _⟩ := gN
      rw [z, tp.get] at e
      cases e
      cases hd
  have env0 : Env0 P w K mg (hidT s₁.heap H) callerA [] s₁ H := ⟨rfl, modK, fun b o e => of_hidT e, Nat.le_of_eq (hidT_size _ _), trivial, fun b hb => absurd (show b ∈ ([] : List Addr) from hb) (by simp), B.ok, .of_eq gens⟩
  unfold Goal
  refine codeAny_mono ((F _ inK (nsOf gN) tabs).run callerA [] s₁ H ⟨[.ref a], []⟩ [.ref a] [.ref a] _ _ rfl hr env0 (bd s₁ (.ref a)) (.cons rfl .nil) go) fun r s' done => ?_
  match r, done with
  | .error e, z => exact False.elim z
  | .ok .next, z => exact False.elim z
  | .ok .brk, z => exact False.elim z
  | .ok .cont, z => exact False.elim z
  | .ok (.ret u), ⟨v, H', os, bare, un, ok', r', q⟩ =>
    have q2 : v = .bl true := q
    subst q2
    have q3 : u = Value.bool true := r'
    subst q3
    have stays : ∀ b o, b ∉ cs.map (·.2) → s₁.heap.get? b = some o → s'.heap.get? b = some o := fun b o nb e => by
      rcases B.kind b with z | z | ⟨ob, xs, z⟩
      · exact un.keep b o e z (by intro z; exact absurd (show b ∈ ([] : List Addr) from z) (by simp)) (by simp)
      · exact absurd z nb
      · obtain ⟨e1, _⟩ := B.ok b _ z
        obtain ⟨e2, _⟩ := ok' b _ (un.frzs b ob _ z)
        rw [e] at e1
        cases e1
        exact e2
    have more : ∀ p ∈ cs, ∃ ys : Array Value, s'.heap.get? p.2 = some { cls := .none, data := .fields ys } := fun p hp => by
      obtain ⟨ys, z⟩ := un.tbls p.2 #[] (B.tbl p hp)
      exact ⟨_, ok' p.2 _ z⟩
    refine ⟨rfl, ⟨fun b o e => ?_, fun b o e => ?_⟩, os, bare⟩
    · by_cases hb : b ∈ cs.map (·.2)
      · obtain ⟨p, hp, rfl⟩ := List.mem_map.mp hb
        obtain ⟨ys, hm⟩ := more p hp
        rw [(ts p hp).get] at e
        cases e
        exact .inr (.inl ⟨((ts p hp).hd.tab (ts p hp).get).isCodeTable, rfl, #[], ys, rfl, by rw [Array.empty_append]; exact hm⟩)
      · exact .inl (stays b o hb e)
    · by_cases hb : b ∈ cs.map (·.2)
      · obtain ⟨p, hp, rfl⟩ := List.mem_map.mp hb
        obtain ⟨ys, hm⟩ := more p hp
        exact ⟨_, hm⟩
      · exact ⟨o, stays b o hb e⟩
/-- such a beginning is to be had -/
theorem begins (hK : K.In s₁.heap) (ts : ∀ p ∈ cs, TabF K s₁.heap p) (la : s₁.heap.get? a = some { cls := .type "list", data := .seq vs.toArray }) (hi : IntsAre vs ns) (hl : ns.length ≤ sizeLine) : ∃ H, Begin P w K cs a ns H s₁.heap := by
  have nt : a ∉ cs.map (·.2) := fun z => by
    have q := tab_get ts z
    rw [la] at q
    injection q with q
    injection q with _ _ q _
    cases q
  have rv := vals_ints hi
  let O : Option HO := if (K.lookup a).isSome = true then none else some (.frz { cls := .type "list", data := .seq vs.toArray } (.lst (ns.map V.int)))
  have atT : ∀ b, b ∈ cs.map (·.2) → (if b ∈ cs.map (·.2) then some (HO.tbl #[]) else if b = a then O else none) = some (HO.tbl #[]) := fun b h => if_pos h
  have atA : (if a ∈ cs.map (·.2) then some (HO.tbl #[]) else if a = a then O else none) = O := (if_neg nt).trans (if_pos rfl)
  have atN : ∀ b, b ∉ cs.map (·.2) → b ≠ a → (if b ∈ cs.map (·.2) then some (HO.tbl #[]) else if b = a then O else none) = none := fun b h1 h2 => (if_neg h1).trans (if_neg h2)
  refine ⟨fun b => if b ∈ cs.map (·.2) then some (.tbl #[]) else if b = a then O else none, fun p hp => atT _ (List.mem_map.mpr ⟨p, hp, rfl⟩), fun b => ?_, ?_, fun b u z => ?_, fun b z => ?_, fun z => ?_⟩
  · by_cases h1 : b ∈ cs.map (·.2)
    · exact .inr (.inl h1)
    · by_cases h2 : b = a
      · subst h2
        by_cases h3 : (K.lookup b).isSome = true
        · exact .inl (atA.trans (if_pos h3))
        · exact .inr (.inr ⟨_, _, atA.trans (if_neg h3)⟩)
      · exact .inl (atN b h1 h2)
  · cases h3 : K.lookup a with
    | none =>
      refine .inl (.inr ⟨_, atA.trans (if_neg ?_)⟩)
      rw [h3]
      exact Bool.noConfusion
    | some o =>
      have e := hK a o h3
      rw [la] at e
      cases e
      exact .inr ⟨_, vs.toArray, _, h3, rfl, rfl, rfl, by rw [List.size_toArray, hi.length]; exact hl, by simpa using rv⟩
  · by_cases h1 : b ∈ cs.map (·.2)
    · have z' := (atT b h1).symm.trans z
      cases z'
      exact tab_get ts h1
    · by_cases h2 : b = a
      · subst h2
        have z' := atA.symm.trans z
        by_cases h3 : (K.lookup b).isSome = true
        · have z2 := (if_pos h3).symm.trans z'
          cases z2
        · have z2 := (if_neg h3).symm.trans z'
          cases z2
          exact ⟨la, by rw [List.length_map]; exact hl, vs, _, rv, la⟩
      · have z' := (atN b h1 h2).symm.trans z
        cases z'
  · by_cases h1 : b ∈ cs.map (·.2)
    · exact .inr h1
    · by_cases h2 : b = a
      · exact .inl h2
      · exact absurd (atN b h1 h2) z
  · cases h3 : K.lookup a with
    | none => rfl
    | some o => exact absurd (atA.trans (if_pos (by rw [h3]; rfl))) z
end
/-- what is known of the law's promise at the head's heap h; TF: what the top says of the tables -/
def LawG (l : PySem.W.OpenLaw) (w : World) (K : PySem.W.Frag) (k n : Nat) (x : Str) (mg : Str → Option Value) (fa : Addr) (h : Heap) : Prop :=
  ∃ (fd : FuncData) (cs : List (Addr × Addr)) (sp : Sp), (∀ p ∈ cs, TabF K h p) ∧ (∀ (s : Shared) (u : Value), BindsTo s fd ⟨[u], []⟩ [(x, u)]) ∧
    (∀ (H : Hp) (a : Addr) (ns : List Int), ns.length ≤ n → (∀ z ∈ ns, Builtin.Int.intBits z ≤ 1048576) → (∀ p ∈ cs, H p.2 = some (.tbl #[])) → SqL K H a (ns.map V.int) → sp [.ref a] H (fun v _ => v = .bl true) fun _ _ _ => False) ∧
    ∀ base : Heap, K.In base → base.Ns mainGlobals mg → (∀ p ∈ cs, LamX.TabB base mg p.1 p.2) → FnG l.prog w K mg base CX0 k fa fd [x] sp
theorem walk_G {l : PySem.W.OpenLaw} {n k : Nat} {q : Program} {loose : List Str} {XP : (Str → Option Value) → Heap → Prop} {YP : World → Heap → Prop} {d : DefRec} {K : Params → PySem.W.Frag} {x : Str}
    (hn : l.most = some n) (hn2 : n ≤ sizeLine) (hdf : d.params.defaults = []) (hr : Room k callerA) (hY : ∀ (w : World) (h : Heap), YP w h → (K w.params).In h)
    (F : ∀ (w : World) (mg : Str → Option Value) (fa : Addr) (h : Heap), YP w h → (K w.params).In h → h.Ns mainGlobals mg → mg d.name = some (.ref fa) →
      (∀ (y : Str) (c T : Addr), ((recsOf q).any fun e => e.name == y) = true → PySem.W.tabIn (K w.params) y = some (c, T) → (K w.params).lookup T = none → TabF (K w.params) h (c, T)) → LawG l w (K w.params) k n x mg fa h) :
    PySem.W.WalkO q loose XP YP l.row.toRowW d [] (fun f vs => PySem.call f vs) := by
  refine Att.attach_callB hn hdf fun w s₀ s₁ mg mb fa o pm cd doc a vs ns G Y ho hd hcd hmg hobj hints hlen hbits hg => ?_
  have KX := hY w _ Y
  obtain ⟨fd, cs, sp, ts, hb, hsp, hF⟩ := F w mg fa _ Y KX G.T.g hmg fun y c T hrec hT hN => by
    obtain ⟨e, he⟩ := Option.isSome_iff_exists.mp (show ((recsOf q).find? fun e => e.name == y).isSome = true by rw [List.find?_isSome]; obtain ⟨e, h1, h2⟩ := List.any_eq_true.mp hrec; exact ⟨e, h1, h2⟩)
    obtain ⟨h1, h2⟩ := PySem.W.tab_of G.T KX he hT
    exact ⟨h2, hN, h1⟩
  obtain ⟨H, B⟩ := begins (P := l.prog) (w := w) KX ts hobj hints (Nat.le_trans hlen hn2)
  exact from_begin B KX G.T.g G.T.b G.T.builtins G.T.nolimit hg ts G.T.bmain hobj hr hF hb (hsp H a ns hlen hbits B.tbl B.seq)
end My
/-! What the top has written, by name. -/
namespace My
open PySem PySem.Spec PyProof.Rows L2
/-- the module has the def -/
structure Has (K : PySem.W.Frag) (mg : Str → Option Value) (x : Str) (st : Stmt) : Prop where
  ex : ∃ f fd, mg x = some (.ref f) ∧ Fun K x x st f fd
/-- a def that makes functions, its code object at c -/
structure HasC (K : PySem.W.Frag) (mg : Str → Option Value) (x : Str) (st : Stmt) (c : Addr) : Prop where
  ex : ∃ (f : Addr) (oc : Value) (od : Option Addr) (kV doc pm : Value) (an : Option Addr) (ct : Value) (osl : Array (Option Value)), mg x = some (.ref f) ∧
    K.lookup f = some ⟨oc, od, .func (PySem.W.fnOf x x (defArgs st) (defBody st) (defScope st) .none kV doc pm an (.ref c) ct), osl⟩ ∧ PySem.W.codeIn K (.ref c) x = true ∧ PySem.W.keepIn K (.ref f) = true
/-- the class has the method -/
structure HasM (K : PySem.W.Frag) (C : Addr) (m qual : Str) (st : Stmt) : Prop where
  ex : ∃ f fd, PySem.W.findIn K (.ref C) m = some (some (.ref f)) ∧ PySem.W.isFn K (.ref f) = true ∧ Fun K m qual st f fd
/-- the class has the method, with defaults -/
structure HasD (K : PySem.W.Frag) (C : Addr) (m qual : Str) (st : Stmt) (dvs : List V) (kws : List (Str × V)) : Prop where
  ex : ∃ f fd, PySem.W.findIn K (.ref C) m = some (some (.ref f)) ∧ PySem.W.isFn K (.ref f) = true ∧ FunD K m qual (defArgs st) (defBody st) (defScope st) dvs kws f fd
section
variable {P : Program} {w : World} {K : PySem.W.Frag} {mg : Str → Option Value} {base : Heap} {CX : CXT} {k : Nat} {x m qual : Str} {st : Stmt} {ps ks : List Str} {sp : Sp} {C c : Addr}
def BindW (x qual : Str) (st : Stmt) (ps : List Str) : Prop := ∀ (kV doc pm : Value) (an : Option Addr) (cdv ct : Value) (us : List Value), us.length = ps.length → bindArgs (PySem.W.fnOf x qual (defArgs st) (defBody st) (defScope st) .none kV doc pm an cdv ct) ⟨us, []⟩ = pure (ps.zip us)
theorem def_at (A : Has K mg x st) (ok : ∀ f fd, Fun K x x st f fd → FnOk P w K mg base CX k f fd ps sp) (b : BindW x x st ps) : DefAt P w K mg base CX k x ps sp := by
  obtain ⟨f, fd, h1, F⟩ := A.ex
  exact ⟨f, fd, ok f fd F, h1, F.kp, F.binds b⟩
theorem def_atG (A : Has K mg x st) (ok : ∀ f fd, Fun K x x st f fd → FnG P w K mg base CX k f fd ps sp) (b : BindW x x st ps) : DefG P w K mg base CX k x ps sp := by
  obtain ⟨f, fd, h1, F⟩ := A.ex
  exact ⟨f, fd, ok f fd F, h1, F.kp, F.binds b⟩
theorem meth_at (A : HasM K C m qual st) (ok : ∀ f fd, Fun K m qual st f fd → FnOk P w K mg base CX k f fd ps sp) (b : BindW m qual st ps) : MethAt P w K mg base CX k C m ps sp := by
  obtain ⟨f, fd, h1, h2, F⟩ := A.ex
  exact ⟨f, fd, ⟨h1, h2, F.kp⟩, ok f fd F, F.binds b⟩
theorem call_at (A : HasM K C "__call__" qual st) (ok : ∀ f fd, Fun K "__call__" qual st f fd → FnOk P w K mg base CX k f fd ps sp) (b : BindW "__call__" qual st ps) : CallAt P w K mg base CX k C ps sp := by
  obtain ⟨f, fd, h1, h2, F⟩ := A.ex
  obtain ⟨oc, od, kV, doc, pm, an, cdv, ct, osl, e, lk, _⟩ := F.ex
  refine ⟨f, fd, ⟨h1, h2, ?_⟩, ok f fd F, F.binds b⟩
  unfold PySem.W.fnIn
  rw [lk]
theorem cmp_at (A : HasM K C m qual st) (ok : ∀ f fd, Fun K m qual st f fd → FnOk P w K mg base CX k f fd ps sp) (b : BindW m qual st ps) : CmpAt P w K mg base CX k C m ps sp := by
  obtain ⟨f, fd, h1, h2, F⟩ := A.ex
  exact ⟨f, fd, h1, h2, ok f fd F, F.binds b⟩
/-- called with keywords alone -/
theorem methK_at {gV : List V → List V → List V} {g : List Value → List Value → List Value} (A : HasM K C m qual st) (ok : ∀ f fd, Fun K m qual st f fd → FnOk P w K mg base CX k f fd ps sp)
    (b : ∀ (kV doc pm : Value) (an : Option Addr) (cdv ct : Value) (us ws : List Value), us.length = 1 → ws.length = ks.length → bindArgs (PySem.W.fnOf m qual (defArgs st) (defBody st) (defScope st) .none kV doc pm an cdv ct) ⟨us, ks.zip ws⟩ = pure (ps.zip (g us ws)))
    (r : ∀ {vs : List V} {us : List Value} {zs : List V} {ws : List Value}, Vals vs us → Vals zs ws → Vals (gV vs zs) (g us ws)) : MethK P w K mg base CX k C m ps ks sp gV := by
  obtain ⟨f, fd, h1, h2, F⟩ := A.ex
  obtain ⟨oc, od, kV, doc, pm, an, cdv, ct, osl, rfl, lk, hcd⟩ := id F.ex
  exact ⟨f, _, g, ⟨h1, h2, F.kp⟩, ok f _ F, ⟨fun s us ws _ l1 l2 => .of_eq (b kV doc pm an cdv ct us ws l1 l2), r⟩⟩
/-- the class is made with all its arguments -/
theorem make_all {dvs : List V} (A : HasD K C "__init__" qual st dvs []) (hx : mg x = some (.ref C)) (mk : PySem.W.makesIn K C = true) (kp : PySem.W.keepIn K (.ref C) = true) (ok : ∀ f fd, FunD K "__init__" qual (defArgs st) (defBody st) (defScope st) dvs [] f fd → FnOk P w K mg base CX k f fd ps sp) (hd : dvs ≠ [])
    (b : ∀ (T : Addr) (kV doc pm : Value) (an : Option Addr) (cdv ct : Value) (us its : List Value), us.length = ps.length → its.length = dvs.length →
      ∃ k, bindArgs (PySem.W.fnOf "__init__" qual (defArgs st) (defBody st) (defScope st) (.ref T) kV doc pm an cdv ct) ⟨us, []⟩ = seqItems? (.ref T) >>= k ∧ k (some its.toArray) = pure (ps.zip (us ++ its.drop dvs.length))) : MakeAt P w K mg base CX k x C ps sp [] := by
  obtain ⟨f, fd, h1, h2, F⟩ := A.ex
  obtain ⟨ds, r, bs⟩ := F.binds1 ps.length dvs.length hd (by omega) b
  rw [List.drop_length] at r
  exact ⟨f, fd, ds, ⟨mk, h1, h2, kp⟩, ok f fd F, hx, bs, r⟩
end
end My
/-! Ints beside instances: the int's own slots decline. -/
namespace My
open PySem PySem.Spec PyProof.Rows
def Plain (h : Heap) (l : Addr) : Prop := ∃ (c : Value) (d : Option Addr) (sl : Array (Option Value)), h.get? l = some { cls := c, dict := d, data := .plain, slots := sl }
def Declines (B : Builtin) (a : Int) (t : Tok) (l : Addr) : Prop := Meets (B ⟨[.int a t, .ref l], []⟩) fun _ R s => Plain s.heap l ∧ R (.ok (.ret Value.notImplemented)) s
theorem dec_add (a : Int) (t : Tok) (l : Addr) : Declines Builtin.«int.__add__» a t l :=
  .of_wp fun prog w A R s h => by obtain ⟨hp, g, d, tk, os⟩ := s; obtain ⟨⟨c, dd, sl, hl⟩, h⟩ := h; wp_walk; exact ⟨_, rfl, h⟩
theorem dec_sub (a : Int) (t : Tok) (l : Addr) : Declines Builtin.«int.__sub__» a t l :=
  .of_wp fun prog w A R s h => by obtain ⟨hp, g, d, tk, os⟩ := s; obtain ⟨⟨c, dd, sl, hl⟩, h⟩ := h; wp_walk; exact ⟨_, rfl, h⟩
theorem dec_mul (a : Int) (t : Tok) (l : Addr) : Declines Builtin.«int.__mul__» a t l :=
  .of_wp fun prog w A R s h => by obtain ⟨hp, g, d, tk, os⟩ := s; obtain ⟨⟨c, dd, sl, hl⟩, h⟩ := h; wp_walk; exact ⟨_, rfl, h⟩
theorem dec_floordiv (a : Int) (t : Tok) (l : Addr) : Declines Builtin.«int.__floordiv__» a t l :=
  .of_wp fun prog w A R s h => by obtain ⟨hp, g, d, tk, os⟩ := s; obtain ⟨⟨c, dd, sl, hl⟩, h⟩ := h; wp_walk; exact ⟨_, rfl, h⟩
theorem dec_mod (a : Int) (t : Tok) (l : Addr) : Declines Builtin.«int.__mod__» a t l :=
  .of_wp fun prog w A R s h => by obtain ⟨hp, g, d, tk, os⟩ := s; obtain ⟨⟨c, dd, sl, hl⟩, h⟩ := h; wp_walk; exact ⟨_, rfl, h⟩
theorem dec_lt (a : Int) (t : Tok) (l : Addr) : Declines Builtin.«int.__lt__» a t l :=
  .of_wp fun prog w A R s h => by obtain ⟨hp, g, d, tk, os⟩ := s; obtain ⟨⟨c, dd, sl, hl⟩, h⟩ := h; wp_walk; exact ⟨_, rfl, h⟩
theorem dec_le (a : Int) (t : Tok) (l : Addr) : Declines Builtin.«int.__le__» a t l :=
  .of_wp fun prog w A R s h => by obtain ⟨hp, g, d, tk, os⟩ := s; obtain ⟨⟨c, dd, sl, hl⟩, h⟩ := h; wp_walk; exact ⟨_, rfl, h⟩
theorem dec_gt (a : Int) (t : Tok) (l : Addr) : Declines Builtin.«int.__gt__» a t l :=
  .of_wp fun prog w A R s h => by obtain ⟨hp, g, d, tk, os⟩ := s; obtain ⟨⟨c, dd, sl, hl⟩, h⟩ := h; wp_walk; exact ⟨_, rfl, h⟩
theorem dec_ge (a : Int) (t : Tok) (l : Addr) : Declines Builtin.«int.__ge__» a t l :=
  .of_wp fun prog w A R s h => by obtain ⟨hp, g, d, tk, os⟩ := s; obtain ⟨⟨c, dd, sl, hl⟩, h⟩ := h; wp_walk; exact ⟨_, rfl, h⟩
theorem dec_eq (a : Int) (t : Tok) (l : Addr) : Declines Builtin.«int.__eq__» a t l :=
  .of_wp fun prog w A R s h => by obtain ⟨hp, g, d, tk, os⟩ := s; obtain ⟨⟨c, dd, sl, hl⟩, h⟩ := h; wp_walk; exact ⟨_, rfl, h⟩
end My
/-! Own operators: an instance beside an instance, beside an int, an int beside it, in place, the sign. -/
namespace My
open PySem PySem.Spec PySem.Calls PyProof.Rows L2
section
open PySem.W
variable {prog : Program} {w : World} {A : Around} {E : Value → Shared → Prop} {s : Shared} {K : Frag} {x C L f f0 : Addr} {h₀ : Heap} {m : Str → Option Value} {ox : Obj} {od : Option Obj}
/-- what is known of the int's slot -/
structure IntSlot (K : Frag) (nm : String) (id : String) (B : Builtin) : Prop where
  slot : Slot "int" (PySem.dunder nm) id
  entry : entryFor table id = some B
  args : ∀ a b : Value, argsOk id ⟨[a, b], []⟩
  dec : ∀ a t l, Declines B a t l
theorem int_plain (i : Int) (t : Tok) (s : Shared) : s.TypeIs (.int i t) "int" := by
  first | exact .int | exact trivial | rfl | exact ⟨_, rfl⟩
theorem int_call {i : Int} {t : Tok} {nm id : String} {B : Builtin} {Q : Value → Shared → Prop} (S : IntSlot K nm id B) (hp : Plain s.heap x) (h : Q .notImplemented s) : wpAny (model prog w) A (call (.builtin id) [.int i t, .ref x]) Q E s :=
  call_meets S.slot (int_plain i t s) S.entry (S.args _ _) (S.dec i t x) ⟨hp, h⟩
/-- an int beside an instance: the reflected method -/
theorem binR_K {op : Operator} {i : Int} {t : Tok} {id : String} {B : Builtin} {fo ro : Option Value} {Q : Value → Shared → Prop} (S : IntSlot K op.info.2 id B) (F : Fr h₀ L s.heap m) (X₀ : K.In h₀) (I : InstAt s.heap x ox C od) (hp : Plain s.heap x) (hc : selfFirst K C = true)
    (hs : findIn K (.ref C) (PySem.dunder op.info.2) = some (some (.ref f0))) (hr : findIn K (.ref C) (dunderR op.info.2) = some (some (.ref f))) (hf : isFn K (.ref f) = true)
    (h1 : findIn K (.type "int") (PySem.dunder op.info.2) = some fo) (h2 : findIn K (.type "int") (dunderR op.info.2) = some ro) (hl : ((fo.isSome && !isSeqSlot fo) || (ro.isSome && !isSeqSlot ro)) = true) (hsub : subIn K (.ref C) (.type "int") = some false)
    (h : wpAny (model prog w) A (call (.ref f) [.ref x, .int i t]) (PySem.W.CmpBack Q) E s) : wpAny (model prog w) A (binaryOp op (.int i t) (.ref x)) Q E s := by
  have X := X₀.keeps F.keep
  obtain ⟨cd, rest, hcd, hm⟩ := ksp_first hc
  have two := ksp_try X I hr hf h
  rcases hi : op.info with ⟨sym, nm'⟩
  rw [hi] at hs hr h1 h2 S two
  dsimp only at hs hr h1 h2 S two
  have one : wpAny (model prog w) A (tryMethod (.int i t) (PySem.dunder nm') (.ref x)) (fun r s' => r = none ∧ s' = s) E s := wpAny_tryMethod_declines (int_plain i t s) S.slot (int_call S hp ⟨rfl, rfl, rfl⟩)
  obtain ⟨hh, g, d, tt, os⟩ := s
  have L1 : Looks (model prog w) hh (typeOf (.ref x)) (.ref C) := I.type
  have L2 : Looks (model prog w) hh (typeOf (.int i t)) (.type "int") := Looks.of_pure rfl
  have L3 : Looks (model prog w) hh (fillsNumberSlot (.ref C) nm') true := fills_K X hcd hm hs
  have L4 : Looks (model prog w) hh (fillsNumberSlot (.type "int") nm') true := hl ▸ ksp_fillsT X h1 h2
  have L5 : Looks (model prog w) hh (isSubtype (.ref C) (.type "int")) false := looks_subIn X hsub
  have L7 : Looks (model prog w) hh (numberSlotInPython (.type "int") nm') false := Looks.of_pure rfl
  have hne : (Value.type "int" == Value.ref C) = false := Bool.eq_false_iff.mpr fun q => by cases beq_iff_eq.mp q
  simp only [binaryOp, hi]
  refine wpAny_holding (wpAny_bind ?_)
  unfold binaryOp1
  refine wpAny_bind (L2.at (wpAny_bind (L1.at (wpAny_bind (L4.at ?_)))))
  simp only [hne, Bool.false_eq_true, if_false]
  ksp_lk
  refine wpAny_mono one (fun r s' hr' => ?_) fun _ _ e => e
  obtain ⟨rfl, rfl⟩ := hr'
  ksp_lk
  refine wpAny_mono two (fun r s' hr' => ?_) fun _ _ e => e
  obtain ⟨v, rfl, hq⟩ := hr'
  ksp_lk
  exact hq
/-- an int compared with an instance: the reflected method -/
theorem cmpR_K {op : CmpOp} {i : Int} {t : Tok} {id : String} {B : Builtin} {Q : Value → Shared → Prop} (hu : A.units < cLine) (sl : Slot "int" (cmpInfo op).2.1 id) (en : entryFor table id = some B) (ar : ∀ a b : Value, argsOk id ⟨[a, b], []⟩) (de : ∀ a t l, Declines B a t l)
    (F : Fr h₀ L s.heap m) (X₀ : K.In h₀) (I : InstAt s.heap x ox C od) (hp : Plain s.heap x) (hs : findIn K (.ref C) (cmpInfo op).2.2 = some (some (.ref f))) (hf : isFn K (.ref f) = true) (hsub : subIn K (.ref C) (.type "int") = some false)
    (h : wpAny (model prog w) A (call (.ref f) [.ref x, .int i t]) (PySem.W.CmpBack Q) E s) (h1 : oneThing? op (.int i t) (.ref x) = none) : wpAny (model prog w) A (richCompare op (.int i t) (.ref x)) Q E s := by
  have X := X₀.keeps F.keep
  have two : wpAny (model prog w) A (tryCompare (.ref x) (cmpInfo op).2.2 (.int i t)) (fun r s' => ∃ v, r = some v ∧ Q v s') E s := by
    unfold tryCompare
    refine wpAny_bind (ifBound_K X I hs hf (wpAny_mono h (fun v s' hv => ?_) fun _ _ e => e))
    cases v <;> first | exact hv.elim | exact wpAny_pure ⟨_, rfl, hv⟩
  have one : wpAny (model prog w) A (tryCompare (.int i t) (cmpInfo op).2.1 (.ref x)) (fun r s' => r = none ∧ s' = s) E s :=
    wpAny_tryCompare_declines (int_plain i t s) sl (call_meets sl (int_plain i t s) en (ar _ _) (de i t x) ⟨hp, rfl, rfl, rfl⟩)
  have hne : (Value.type "int" != Value.ref C) = true := by
    have : (Value.type "int" == Value.ref C) = false := Bool.eq_false_iff.mpr fun q => by cases beq_iff_eq.mp q
    simp [bne, this]
  unfold richCompare
  simp only [h1]
  refine wpAny_holding (wpAny_bind (wpAny_cRoomFor hu ?_))
  refine wpAny_bind ((Looks.of_pure (show typeOf (.int i t) = pure (.type "int") from rfl)).here (wpAny_bind (I.type.here ?_)))
  simp only [hne, if_true]
  refine wpAny_bind ((looks_subIn X hsub).here ?_)
  simp only [Bool.false_eq_true, if_false, Bool.not_false, if_true]
  refine wpAny_bind (wpAny_mono one (fun r s' z => ?_) fun _ _ e => e)
  obtain ⟨rfl, rfl⟩ := z
  refine wpAny_bind (wpAny_mono two (fun r s' z => ?_) fun _ _ e => e)
  obtain ⟨v, rfl, hq⟩ := z
  exact wpAny_pure hq
end
/-! ### a method run somewhere below the body -/
structure Und (X : Cx) (n : Nat) (A : Around) : Prop where
  room : Room n A
  fr : A.frames = X.A.frames
theorem Und.here {X : Cx} {n : Nat} (hr : Room n X.A) : Und X n X.A := ⟨hr, rfl⟩
theorem Und.in1 {X : Cx} {n : Nat} {A : Around} (u : Und X (n + 1) A) : Und X n A.in1 := ⟨u.room.in1, u.fr⟩
section
variable {X : Cx} {pins : List (Addr × Obj)} {σ : L2.St} {H : Hp} {s : Shared} {CX : CXT} {k : Nat} {ps : List Str} {sp : Sp} {E : XK} {C : Addr} {m : Str}
theorem run_at {f : Addr} {fd : FuncData} {A : Around} {vs : List V} {us : List Value} {Q : VK} (F : FnOk X.prog X.w X.K X.mg X.base CX k f fd ps sp) (hb : L2.Binds X.K fd ps []) (hx : Passes CX X E) (u : Und X k A) (I : Inv X pins σ H s) (r : Vals vs us) (hsp : sp vs H Q E) :
    wpAny (model X.prog X.w) A (call (.ref f) us) (EP X pins σ Q) X.xe s := by
  have e0 : Env0 X.prog X.w X.K X.mg X.base A X.stack s H := by
    have e := I.env0
    exact ⟨by rw [u.fr]; exact e.frames, e.mod, e.bs, e.bsz, e.funs, e.frf, e.hok, e.bare⟩
  have hl : (us ++ []).length = ps.length := by rw [List.append_nil, ← r.length]; exact F.len _ _ _ _ hsp
  have bd := hb s us I.kIn hl
  rw [List.append_nil] at bd
  refine wpAny_call (codeAny_mono (F.run A X.stack s H ⟨us, []⟩ us vs _ E u.room e0 bd r hsp) fun r s' hq => ?_)
  match r, hq with
  | .error e, hq => exact hx pins σ H s e s' I hq
  | .ok (.ret z), hq => exact I.after hq
  | .ok .next, hq => exact False.elim hq
  | .ok .brk, hq => exact False.elim hq
  | .ok .cont, hq => exact False.elim hq
theorem ep_back {Q : VK} {v : Value} {s' : Shared} (h : EP X pins σ Q v s') : PySem.W.CmpBack (EP X pins σ Q) v s' := by
  cases v with
  | notImplemented =>
    obtain ⟨zv, H', I', rz, q'⟩ := h
    cases zv <;> first | (cases rz; done) | (obtain ⟨_, rz⟩ := rz; cases rz)
  | _ => exact h
theorem ins_plain {a dx : Addr} {fs : List (Str × V)} (I : Inv X pins σ H s) (ha : H a = some (.ins C dx fs)) : ∃ (ox od : Obj), PySem.W.InstAt s.heap a ox C (some od) ∧ Plain s.heap a := by
  obtain ⟨mA, J, _⟩ := ins_get I.hok ha
  have g : Plain s.heap a := ⟨_, _, _, J.1⟩
  obtain ⟨od, J, _⟩ := J.look
  exact ⟨_, od, J, g⟩
/-- a two-place method of C beside an instance of C or an int -/
structure BinF (K : PySem.W.Frag) (C : Addr) (nm : String) : Prop where
  sf : PySem.W.selfFirst K C = true
  rc : ∃ rc, PySem.W.findIn K (.ref C) (dunderR nm) = some rc ∧ (rc = none ∨ ∃ g : Addr, rc = some (.ref g))
  i1 : ∃ fo, PySem.W.findIn K (.type "int") (PySem.dunder nm) = some fo
  i2 : ∃ ro, PySem.W.findIn K (.type "int") (dunderR nm) = some ro
  su : PySem.W.subIn K (.type "int") (.ref C) = some false
def OrInt (H : Hp) (C : Addr) (y : V) : Prop := (∃ b dy gs, y = .ref b ∧ H b = some (.ins C dy gs)) ∨ ∃ j, y = .int j
def rBinO (C : Addr) (sp : Sp) (E : XK) : R2 := fun x y H Q => ∃ a dx fs, x = .ref a ∧ H a = some (.ins C dx fs) ∧ OrInt H C y ∧ sp [x, y] H Q E
theorem op_binO {op : Operator} (M : CmpAt X.prog X.w X.K X.mg X.base CX k C m ps sp) (B : BinF X.K C op.info.2) (hr : Room k X.A) (hx : Passes CX X E) (hm : PySem.dunder op.info.2 = m := by rfl) : OpR X (binaryOp op) (rBinO C sp E) := by
  intro pins s σ H x y v u Q I rx ry h
  obtain ⟨f, fd, hs, hf, F, hb⟩ := M.ex
  obtain ⟨a, dx, fs, rfl, ha, oi, hsp⟩ := h
  obtain rfl : v = Value.ref a := rx
  obtain ⟨ox, od, J, _⟩ := ins_plain I ha
  obtain ⟨m', hF⟩ := I.fr
  subst hm
  have go : wpAny (model X.prog X.w) X.A (call (.ref f) [.ref a, u]) (PySem.W.CmpBack (EP X pins σ Q)) X.xe s := wpAny_mono (run_at (vs := [.ref a, y]) F hb hx (Und.here hr) I (.cons rfl (.cons ry .nil)) hsp) (fun _ _ z => ep_back z) fun _ _ z => z
  rcases oi with ⟨b, dy, gs, rfl, hb'⟩ | ⟨j, rfl⟩
  · obtain rfl : u = Value.ref b := ry
    obtain ⟨oy, od', J', _⟩ := ins_plain I hb'
    exact PySem.W.binop_K hF I.ok.mod.kin J J'.type B.sf hs hf go
  · obtain ⟨t, rfl⟩ := ry
    obtain ⟨rc, r1, r2⟩ := B.rc
    obtain ⟨fo, i1⟩ := B.i1
    obtain ⟨ro, i2⟩ := B.i2
    exact PySem.W.ksp_binT hF I.ok.mod.kin J rfl B.sf hs hf r1 r2 i1 i2 B.su go
/-- an int beside an instance: the reflected method -/
structure RefF (K : PySem.W.Frag) (C : Addr) (nm : String) : Prop where
  sf : PySem.W.selfFirst K C = true
  f0 : ∃ f : Addr, PySem.W.findIn K (.ref C) (PySem.dunder nm) = some (some (.ref f))
  ii : ∃ fo ro, PySem.W.findIn K (.type "int") (PySem.dunder nm) = some fo ∧ PySem.W.findIn K (.type "int") (dunderR nm) = some ro ∧ ((fo.isSome && !isSeqSlot fo) || (ro.isSome && !isSeqSlot ro)) = true
  su : PySem.W.subIn K (.ref C) (.type "int") = some false
def rBinR (C : Addr) (sp : Sp) (E : XK) : R2 := fun x y H Q => ∃ i b dy gs, x = .int i ∧ y = .ref b ∧ H b = some (.ins C dy gs) ∧ sp [y, x] H Q E
theorem op_binR {op : Operator} {id : String} {Bu : Builtin} (M : CmpAt X.prog X.w X.K X.mg X.base CX k C m ps sp) (S : IntSlot X.K op.info.2 id Bu) (B : RefF X.K C op.info.2) (hr : Room k X.A) (hx : Passes CX X E) (hm : dunderR op.info.2 = m := by rfl) : OpR X (binaryOp op) (rBinR C sp E) := by
  intro pins s σ H x y v u Q I rx ry h
  obtain ⟨f, fd, hs, hf, F, hb⟩ := M.ex
  obtain ⟨i, b, dy, gs, rfl, rfl, hb', hsp⟩ := h
  obtain rfl : u = Value.ref b := ry
  obtain ⟨t, rfl⟩ := rx
  obtain ⟨ox, od, J, pl⟩ := ins_plain I hb'
  obtain ⟨m', hF⟩ := I.fr
  subst hm
  obtain ⟨f0, h0⟩ := B.f0
  obtain ⟨fo, ro, i1, i2, i3⟩ := B.ii
  exact binR_K S hF I.ok.mod.kin J pl B.sf h0 hs hf i1 i2 i3 B.su (wpAny_mono (run_at (vs := [.ref b, .int i]) F hb hx (Und.here hr) I (.cons rfl (.cons ⟨t, rfl⟩ .nil)) hsp) (fun _ _ z => ep_back z) fun _ _ z => z)
theorem is_add {K : PySem.W.Frag} : IntSlot K (Operator.info .Add).2 "int.__add__" Builtin.«int.__add__» := ⟨PySem.F.slot_int_add, PySem.F.entry_int_add, PySem.F.args_int_add_2, dec_add⟩
theorem is_sub {K : PySem.W.Frag} : IntSlot K (Operator.info .Sub).2 "int.__sub__" Builtin.«int.__sub__» := ⟨PySem.F.slot_int_sub, PySem.F.entry_int_sub, PySem.F.args_int_sub_2, dec_sub⟩
theorem is_mul {K : PySem.W.Frag} : IntSlot K (Operator.info .Mult).2 "int.__mul__" Builtin.«int.__mul__» := ⟨PySem.F.slot_int_mul, PySem.F.entry_int_mul, PySem.F.args_int_mul_2, dec_mul⟩
/-- an int compared with an instance -/
def rCmpR (C : Addr) (sp : Sp) (E : XK) : R2 := fun x y H Q => ∃ i b dy gs, x = .int i ∧ y = .ref b ∧ H b = some (.ins C dy gs) ∧ sp [y, x] H Q E
theorem op_cmpRv {op : CmpOp} {id : String} {Bu : Builtin} (M : CmpAt X.prog X.w X.K X.mg X.base CX k C m ps sp) (su : PySem.W.subIn X.K (.ref C) (.type "int") = some false) (hr : Room k X.A) (hx : Passes CX X E) (hm : (cmpInfo op).2.2 = m) (hco : ∀ v u, compareOp op v u = richCompare op v u)
    (h1 : ∀ i t b, oneThing? op (.int i t) (.ref b) = none) (sl : Slot "int" (cmpInfo op).2.1 id) (en : entryFor table id = some Bu) (ar : ∀ a b : Value, argsOk id ⟨[a, b], []⟩) (de : ∀ a t l, Declines Bu a t l) : OpR X (compareOp op) (rCmpR C sp E) := by
  intro pins s σ H x y v u Q I rx ry h
  obtain ⟨f, fd, hs, hf, F, hb⟩ := M.ex
  obtain ⟨i, b, dy, gs, rfl, rfl, hb', hsp⟩ := h
  obtain rfl : u = Value.ref b := ry
  obtain ⟨t, rfl⟩ := rx
  obtain ⟨ox, od, J, pl⟩ := ins_plain I hb'
  obtain ⟨m', hF⟩ := I.fr
  subst hm
  rw [hco]
  exact cmpR_K hr.units0 sl en ar de hF I.ok.mod.kin J pl hs hf su (wpAny_mono (run_at (vs := [.ref b, .int i]) F hb hx (Und.here hr) I (.cons rfl (.cons ⟨t, rfl⟩ .nil)) hsp) (fun _ _ z => ep_back z) fun _ _ z => z) (h1 i t b)
theorem op_ltR (M : CmpAt X.prog X.w X.K X.mg X.base CX k C "__gt__" ps sp) (su : PySem.W.subIn X.K (.ref C) (.type "int") = some false) (hr : Room k X.A) (hx : Passes CX X E) : OpR X (compareOp .Lt) (rCmpR C sp E) := op_cmpRv M su hr hx rfl (fun _ _ => rfl) (fun _ _ _ => rfl) PySem.F.slot_int_lt PySem.F.entry_int_lt PySem.F.args_int_lt_2 dec_lt
theorem op_leR (M : CmpAt X.prog X.w X.K X.mg X.base CX k C "__ge__" ps sp) (su : PySem.W.subIn X.K (.ref C) (.type "int") = some false) (hr : Room k X.A) (hx : Passes CX X E) : OpR X (compareOp .LtE) (rCmpR C sp E) := op_cmpRv M su hr hx rfl (fun _ _ => rfl) (fun _ _ _ => rfl) PySem.F.slot_int_le PySem.F.entry_int_le PySem.F.args_int_le_2 dec_le
theorem op_gtR (M : CmpAt X.prog X.w X.K X.mg X.base CX k C "__lt__" ps sp) (su : PySem.W.subIn X.K (.ref C) (.type "int") = some false) (hr : Room k X.A) (hx : Passes CX X E) : OpR X (compareOp .Gt) (rCmpR C sp E) := op_cmpRv M su hr hx rfl (fun _ _ => rfl) (fun _ _ _ => rfl) PySem.F.slot_int_gt PySem.F.entry_int_gt PySem.F.args_int_gt_2 dec_gt
theorem op_geR (M : CmpAt X.prog X.w X.K X.mg X.base CX k C "__le__" ps sp) (su : PySem.W.subIn X.K (.ref C) (.type "int") = some false) (hr : Room k X.A) (hx : Passes CX X E) : OpR X (compareOp .GtE) (rCmpR C sp E) := op_cmpRv M su hr hx rfl (fun _ _ => rfl) (fun _ _ _ => rfl) PySem.F.slot_int_ge PySem.F.entry_int_ge PySem.F.args_int_ge_2 dec_ge
/-- - of an instance -/
def rNegO (C : Addr) (sp : Sp) (E : XK) : V → Hp → VK → Prop := fun x H Q => ∃ a dx fs, x = .ref a ∧ H a = some (.ins C dx fs) ∧ sp [x] H Q E
theorem un_negO (M : CmpAt X.prog X.w X.K X.mg X.base CX k C "__neg__" ps sp) (hr : Room k X.A) (hx : Passes CX X E) : UnR X (unaryOp .USub) (rNegO C sp E) := by
  intro pins s σ H x v Q I rx h
  obtain ⟨f, fd, hs, hf, F, hb⟩ := M.ex
  obtain ⟨a, dx, fs, rfl, ha, hsp⟩ := h
  obtain rfl : v = Value.ref a := rx
  obtain ⟨ox, od, J, _⟩ := ins_plain I ha
  obtain ⟨m', hF⟩ := I.fr
  exact PySem.W.ksp_neg hF I.ok.mod.kin J hs hf (run_at (vs := [.ref a]) F hb hx (Und.here hr) I (.cons rfl .nil) hsp)
/-- str(x) of an instance with its own __str__ -/
def rStrO (C : Addr) (sp : Sp) (E : XK) : List V → Hp → VK → Prop := fun xs H Q => ∃ a dx fs, xs = [.ref a] ∧ H a = some (.ins C dx fs) ∧ sp [.ref a] H (fun v H' => ∃ x, v = .str x ∧ Q v H') E
theorem call_strO (M : CmpAt X.prog X.w X.K X.mg X.base CX k C "__str__" ps sp) (hr : Room (k + 2) X.A) (hx : Passes CX X E) : CallR X (.type "str") (rStrO C sp E) := by
  intro pins s σ H xs us Q I r h
  obtain ⟨f, fd, hs, hf, F, hb⟩ := M.ex
  obtain ⟨a, dx, fs, rfl, ha, hsp⟩ := h
  obtain ⟨u, rfl, r1⟩ := vals1 r
  obtain rfl : u = Value.ref a := r1
  obtain ⟨ox, od, J, _⟩ := ins_plain I ha
  have U : Und X k X.A.in1.in1 := (Und.here hr).in1.in1
  refine PySem.W.kso_call U.room.units0 (I.kIn) J hs hf (wpAny_mono (run_at (vs := [.ref a]) F hb hx U I (.cons rfl .nil) hsp) (fun v s' z => ?_) fun _ _ z => z)
  obtain ⟨z, H', I', rz, x, rfl, q⟩ := z
  obtain ⟨t, rfl⟩ := rz
  exact ⟨.str x, H', I', ⟨t, rfl⟩, q⟩
end
end My
/-! != by an own ==. -/
namespace My
open PySem PySem.Spec PySem.Calls PyProof.Rows L2
theorem slot_one : Slot "object" "__ne__" "object.__ne__" :=
  .of (owner := "object") (n := "__ne__") (by rw [typeLookup_type, builtinLookup_eq_fast]; kernel_rfl) (by decide +kernel) (by decide +kernel) (by decide +kernel) (.inl (by decide +kernel)) (by rw [isSubtype_type]; kernel_rfl)
section
open PySem.W
variable {prog : Program} {w : World} {A : Around} {E : Value → Shared → Prop} {s : Shared} {K : Frag} {x C L f : Addr} {h₀ : Heap} {m : Str → Option Value} {ox : Obj} {od : Option Obj} {b tb : Value}
/-- what an own == hands back, turned about -/
def NotBack (Q : Value → Shared → Prop) (v : Value) (s' : Shared) : Prop := ∃ c, v = .bool c ∧ Q (.bool (!c)) s'
theorem one_call {Q : Value → Shared → Prop} (hu : A.in1.units < cLine) (X : K.In s.heap) (I : InstAt s.heap x ox C od) (hm : mroIn K C (.type "object") = some true) (hs : findIn K (.ref C) "__eq__" = some (some (.ref f))) (hf : isFn K (.ref f) = true)
    (h : wpAny (model prog w) A.in1 (call (.ref f) [.ref x, b]) (NotBack Q) E s) : wpAny (model prog w) A (call (.builtin "object.__ne__") [.ref x, b]) Q E s := by
  refine wpAny_call (codeAny_call_builtin slot_one.plain PySem.F.cmpEntry_ne (check_slot (i := "object.__ne__") (owner := "object") (n := "__ne__") PySem.F.cmpKind_ne PySem.F.cmpSplit_ne (I.type.andThen (looks_mroIn X hm)) (PySem.F.cmpArgs_ne _ _) ?_))
  unfold Builtin.«object.__ne__»
  refine wpAny_bind (m := slotArgs "__ne__" 1 _) (wpAny_pure ?_)
  refine wpAny_bind (m := cRoomFor _ _) (wpAny_cRoomFor hu ?_)
  refine wpAny_bind (m := callSpecialIfBound? (.ref x) (Str.ofString "__eq__") _) (ifBound_K X I hs hf (wpAny_mono h (fun r s' hq => ?_) fun _ _ y => y))
  obtain ⟨c, rfl, hq⟩ := hq
  refine wpAny_bind (m := truthy (.bool c)) (wpAny_truthy_bool ?_)
  exact wpAny_pure hq
theorem ne_K {Q : Value → Shared → Prop} (hu : A.units < cLine) (hu1 : A.in1.units < cLine) (F : Fr h₀ L s.heap m) (X₀ : K.In h₀) (I : InstAt s.heap x ox C od) (hb : Looks (model prog w) s.heap (typeOf b) tb) (hn : notFirst K C tb = true)
    (hm : mroIn K C (.type "object") = some true) (h1 : findIn K (.ref C) "__ne__" = some (some (.builtin "object.__ne__"))) (hs : findIn K (.ref C) "__eq__" = some (some (.ref f))) (hf : isFn K (.ref f) = true)
    (h : wpAny (model prog w) A.in1 (call (.ref f) [.ref x, b]) (NotBack Q) E s) : wpAny (model prog w) A (richCompare .NotEq (.ref x) b) Q E s := by
  have X := X₀.keeps F.keep
  have one : wpAny (model prog w) A (tryCompare (.ref x) "__ne__" b) (fun r s' => ∃ v, r = some v ∧ Q v s') E s := by
    unfold tryCompare
    refine wpAny_bind ?_
    simp only [callSpecialIfBound?, bindSpecialIfBound?]
    refine wpAny_holding (wpAny_bind (wpAny_bind (wpAny_bind (I.type.here ((looks_findIn X h1).here ?_)))))
    refine wpAny_bind (wpAny_askSetting (wpAny_ite ?_))
    have fin : wpAny (model prog w) A (call (.builtin "object.__ne__") ([.ref x] ++ [b]) >>= fun v => pure (some v)) (fun r s' => wpAny (model prog w) A (match r with | some .notImplemented | none => pure none | some v => pure (some v)) (fun r s' => ∃ v, r = some v ∧ Q v s') E s') E s := by
      refine wpAny_bind (one_call hu1 X I hm hs hf (wpAny_mono h (fun v s' z => ?_) fun _ _ z => z))
      obtain ⟨c, rfl, hq⟩ := z
      exact ⟨c, rfl, wpAny_pure (wpAny_pure ⟨_, rfl, hq⟩)⟩
    split
    · exact wpAny_bind ((Looks.of_pure (slot_one.bind (.ref x))).here (wpAny_pure (by exact fin)))
    · exact wpAny_tryCatch (wpAny_bind ((Looks.of_pure (slot_one.bind (.ref x))).here (wpAny_pure (by exact fin))))
  unfold richCompare
  simp only [oneThing_ref]
  refine wpAny_holding (wpAny_bind (wpAny_cRoomFor hu ?_))
  refine wpAny_bind (I.type.here (wpAny_bind (hb.here ?_)))
  split
  · rename_i q
    have e : subIn K tb (.ref C) = some false := by
      rcases Bool.or_eq_true_iff.mp hn with e | e
      · rw [beq_iff_eq.mp e] at q; simp at q
      · exact beq_iff_eq.mp e
    refine wpAny_bind ((looks_subIn X e).here ?_)
    simp only [Bool.false_eq_true, if_false]
    refine wpAny_bind (wpAny_mono one (fun r s' z => ?_) fun _ _ e => e)
    obtain ⟨v, rfl, hq⟩ := z
    exact wpAny_pure hq
  · refine wpAny_bind (wpAny_pure ?_)
    simp only [Bool.false_eq_true, if_false]
    refine wpAny_bind (wpAny_mono one (fun r s' z => ?_) fun _ _ e => e)
    obtain ⟨v, rfl, hq⟩ := z
    exact wpAny_pure hq
end
section
variable {X : Cx} {CX : CXT} {k : Nat} {ps : List Str} {sp : Sp} {E : XK} {C : Addr}
def rNeO (K : PySem.W.Frag) (C : Addr) (sp : Sp) (E : XK) : R2 := fun x y H Q => ∃ a dx fs t, x = .ref a ∧ H a = some (.ins C dx fs) ∧ TyX K H y t ∧ PySem.W.notFirst K C t = true ∧ sp [.ref a, y] H (fun v H' => ∃ b, v = .bl b ∧ Q (.bl (!b)) H') E
theorem op_neO (M : CmpAt X.prog X.w X.K X.mg X.base CX k C "__eq__" ps sp) (hm : PySem.W.mroIn X.K C (.type "object") = some true) (h1 : PySem.W.findIn X.K (.ref C) "__ne__" = some (some (.builtin "object.__ne__"))) (hr : Room (k + 1) X.A) (hx : Passes CX X E) : OpR X (compareOp .NotEq) (rNeO X.K C sp E) := by
  intro pins s σ H x y v u Q I rx ry h
  obtain ⟨f, fd, hs, hf, F, hb⟩ := M.ex
  obtain ⟨a, dx, fs, t, rfl, ha, ty, hn, hsp⟩ := h
  obtain rfl : v = Value.ref a := rx
  obtain ⟨ox, od, J, _⟩ := ins_plain I ha
  obtain ⟨m', hF⟩ := I.fr
  obtain ⟨Pz, Z, pz, _⟩ := kit_of I ry ty
  have U : Und X k X.A.in1 := (Und.here hr).in1
  refine ne_K hr.units0 U.room.units0 hF I.ok.mod.kin J (Z.ty _ _ I.kIn pz) hn hm h1 hs hf (wpAny_mono (run_at (vs := [.ref a, y]) F hb hx U I (.cons rfl (.cons ry .nil)) hsp) (fun v s' z => ?_) fun _ _ z => z)
  obtain ⟨z, H', I', rz, b, rfl, q⟩ := z
  obtain rfl : v = Value.bool b := rz
  exact ⟨b, rfl, .bl (!b), H', I', rfl, q⟩
end
end My
/-! Static methods by the class's name; ints divided by ints of any sign; lists beside the empty one. -/
namespace My
open PySem PySem.Spec PySem.Calls PyProof.Rows L2
/-- C.m is a staticmethod with the def at f -/
structure Stat (K : PySem.W.Frag) (C : Addr) (m : Str) (f : Addr) : Prop where
  ga : PySem.W.specialIn K (.ref C) "__getattribute__" = some (some (.builtin "type.__getattribute__"))
  rc : ∃ (mc : Value) (p : Addr) (rest : List Value), PySem.W.readsIn K C mc = true ∧ PySem.W.findCls K (.ref C) mc m = some (.get (.builtin "staticmethod.__get__") (.ref p) .none (.ref C)) ∧ PySem.W.recIn K p "staticmethod" = some (.ref f :: rest)
  kp : PySem.W.keepIn K (.ref f) = true
structure StatAt (P : Program) (w : World) (K : PySem.W.Frag) (mg : Str → Option Value) (base : Heap) (CX : CXT) (k : Nat) (C : Addr) (m : Str) (ps : List Str) (sp : Sp) : Prop where
  ex : ∃ f fd, Stat K C m f ∧ FnOk P w K mg base CX k f fd ps sp ∧ L2.Binds K fd ps []
structure StatK (P : Program) (w : World) (K : PySem.W.Frag) (mg : Str → Option Value) (base : Heap) (CX : CXT) (k : Nat) (C : Addr) (m : Str) (ps ks : List Str) (sp : Sp) (gV : List V → List V → List V) : Prop where
  ex : ∃ f fd g, Stat K C m f ∧ FnOk P w K mg base CX k f fd ps sp ∧ KBn K fd ps 0 ks g gV
section
variable {X : Cx} {CX : CXT} {k : Nat} {C : Addr} {ps ks : List Str} {sp : Sp} {E : XK} {m : Str} {e o : Expr} {es : List Expr} {kws : List Keyword} {t tk : TA} {ta : TE} {pos apos : Pos} {gV : List V → List V → List V}
theorem getstat_ok {pins : List (Addr × Obj)} {σ : L2.St} {H : Hp} {s : Shared} {f : Addr} {pl : Sem Bool} {A : Around} {Er : Value → Shared → Prop} {Q : Value × List Value → Shared → Prop} (I : Inv X pins σ H s) (c : Stat X.K C m f) (h : ∀ s', Inv X pins σ H s' → Q (.ref f, []) s') : wpAny (model X.prog X.w) A (getMethod (.ref C) m pl) Q Er s := by
  obtain ⟨mc, p, rest, h1, h2, h3⟩ := c.rc
  refine PySem.W.method_cls I.kIn c.ga (PySem.W.cls_bind I.kIn h1 h2 ?_)
  exact wpAny_call (PySem.W.sm_get (s := { s with toks := s.toks + 1 }) I.kIn h3 (PySem.W.handed_on rfl (h _ (I.tok _))))
def tStat (C : Addr) (sp : Sp) (E : XK) (ta : TE) (t : TA) : TE := fun σ H Q => ta σ H fun x H1 => x = .ref C ∧ t σ H1 fun vs H2 => sp vs H2 Q E
theorem pe_st {pl : Sem Bool} (M : StatAt X.prog X.w X.K X.mg X.base CX k C m ps sp) (hr : Room k X.A) (hx : Passes CX X E) (he : PE X o ta) (ha : PA X (e :: es) t)
    (hst : starEach (e :: es) X.env = (false, eval e X.env) :: starEach es X.env := by rfl) (hpl : (backTo pos (starEach es X.env)).any (·.1) = false := by rfl)
    (ht : eval (.Call (.Attribute o m apos) (e :: es) [] pos) X.env = (do
      let ov ← eval o X.env
      standAt apos.atName
      let (f, first) ← holding [ov] (getMethod ov m pl)
      callWith pos f first (backTo pos (starEach (e :: es) X.env)) (backToKw pos (keywordEach [] X.env))) := by rfl) :
    PE X (.Call (.Attribute o m apos) (e :: es) [] pos) (tStat C sp E ta t) := by
  obtain ⟨f, fd, c, F, b⟩ := M.ex
  refine ⟨fun pins s σ H Q I h => ?_⟩
  refine PySem.W.methodCall_KW (pl := pl) (thn (he.run pins s σ H _ I h) fun u s1 ⟨x, H1, I1, rx, ex, q⟩ => ?_) ht
  subst ex
  obtain rfl : u = Value.ref C := rx
  refine getstat_ok I1 c fun s1 I1 => ?_
  refine PySem.W.callWith_K (first := []) (h₀ := X.base) I.ok.mod.kin c.kp (thn (ha.run pos pins s1 σ H1 _ I1 q) fun us s2 ⟨vs, H2, I2, r, q2⟩ => ⟨I2.kIn, ?_⟩) hst hpl
  exact run_fn (us := us) (vs := vs) F hr b .nil hx I2 r (by rw [List.append_nil]; exact q2)
def tStatK (C : Addr) (j : Nat) (sp : Sp) (gV : List V → List V → List V) (E : XK) (ta : TE) (tk : TA) : TE := fun σ H Q => ta σ H fun x H1 => x = .ref C ∧ tk σ H1 fun zs H2 => zs.length = j ∧ sp (gV [] zs) H2 Q E
theorem pe_stK {pl : Sem Bool} (M : StatK X.prog X.w X.K X.mg X.base CX k C m ps ks sp gV) (hr : Room k X.A) (hx : Passes CX X E) (he : PE X o ta) (hkw : PK X kws tk)
    (hall : (backToKw pos (keywordEach kws X.env)).all (·.1.isSome) = true := by rfl) (hks : (backToKw pos (keywordEach kws X.env)).filterMap (·.1) = ks := by rfl)
    (hpl : ((backTo pos (starEach [] X.env)).any (·.1) || (backToKw pos (keywordEach kws X.env)).any (·.1.isNone)) = false := by rfl)
    (ht : eval (.Call (.Attribute o m apos) [] kws pos) X.env = (do
      let ov ← eval o X.env
      standAt apos.atName
      let (f, first) ← holding [ov] (getMethod ov m pl)
      callWith pos f first (backTo pos (starEach [] X.env)) (backToKw pos (keywordEach kws X.env))) := by rfl) :
    PE X (.Call (.Attribute o m apos) [] kws pos) (tStatK C ks.length sp gV E ta tk) := by
  obtain ⟨f, fd, g, c, F, b⟩ := M.ex
  refine ⟨fun pins s σ H Q I h => ?_⟩
  refine PySem.W.methodCall_KW (pl := pl) (thn (he.run pins s σ H _ I h) fun u s1 ⟨x, H1, I1, rx, ex, q⟩ => ?_) ht
  subst ex
  obtain rfl : u = Value.ref C := rx
  refine getstat_ok I1 c fun s1 I1 => ?_
  refine PySem.W.callWith_KW0 (first := []) (h₀ := X.base) I.ok.mod.kin c.kp hall (thn (hkw.run pos pins s1 σ H1 _ I1 q) fun ws s2 ⟨zs, H2, I2, rz, l2, q2⟩ => ⟨I2.kIn, ?_⟩) hpl
  rw [hks]
  exact run_fnN (us := []) (vs := []) F hr b hx I2 .nil rz rfl l2 q2
/-! ### // and % by any int but 0 -/
def CDivX (_ j : Int) : Prop := j ≠ 0 ∧ j.natAbs.log2 < 9000
theorem op_fdivX : OpR X (binaryOp .FloorDiv) (rI CDivX fun i j => .int (i.fdiv j)) := opI fun _ _ _ _ _ _ _ hc q => floordiv_int hc.1 q (.inl (PyProof.noPylong_of_log2 hc.2))
/-! ### lists of unlike lengths -/
def rEqL : R2 := fun x y H Q => ∃ l b xs ys, x = .ref l ∧ y = .ref b ∧ H l = some (.lst xs) ∧ H b = some (.lst ys) ∧ xs.length ≠ ys.length ∧ Q (.bl false) H
theorem op_eqL (hu : X.A.units < cLine) : OpR X (compareOp .Eq) rEqL := by
  intro pins s σ H x y v u Q I rx ry h
  obtain ⟨l, b, xs, ys, rfl, rfl, h1, h2, hn, q⟩ := h
  obtain rfl : v = Value.ref l := rx
  obtain rfl : u = Value.ref b := ry
  obtain ⟨z, its, n, r, hl, e⟩ := I.lstM h1
  obtain ⟨z2, its2, n2, r2, hl2, e2⟩ := I.lstM h2
  have hs : (its.toArray.size != its2.toArray.size) = true := by
    have a1 := r.length
    have a2 := r2.length
    simp only [List.size_toArray, bne_iff_ne, ne_eq]
    omega
  show wpAny (model X.prog X.w) X.A (richCompare .Eq (.ref l) (.ref b)) _ _ s
  refine wpAny_richCompare_same_room (op := .Eq) ⟨_, e, rfl⟩ ⟨_, e2, rfl⟩ PySem.F.slot_list_eq (call_meets PySem.F.slot_list_eq ⟨_, e, rfl⟩ PySem.F.entry_list_eq (PySem.F.args_list_eq_2 _ _) (AutoSeq1.list___eq___list_list_0 l its.toArray n b its2.toArray n2 hs) ⟨e, e2, ?_⟩) hu
  exact ⟨(fun x => nomatch x), .bl false, H, I, rfl, q⟩
end
end My
/-! The order of two pairs of ints; two promises of one def. -/
namespace My
open PySem PySem.Spec PySem.Calls PyProof.Rows L2
def ordP (r : Int → Int → Bool) (z : Bool) (a b c d : Int) : Bool := if a = c then (if b = d then z else r b d) else r a c
def rOrd (K : PySem.W.Frag) (r : Int → Int → Bool) (z : Bool) : R2 := fun x y H Q => ∃ (l m : Addr) (a b c d : Int), x = .ref l ∧ y = .ref m ∧ SqT K H l [.int a, .int b] ∧ SqT K H m [.int c, .int d] ∧ Q (.bl (ordP r z a b c d)) H
theorem int_here {s : Shared} {A : Around} (a c : Int) (t u : Tok) : SeqAt.EqAt A s (.int a t) (.int c u) (decide (a = c)) := by
  have e : (a == c) = decide (a = c) := by
    by_cases q : a = c
    · rw [decide_eq_true q]; exact beq_iff_eq.mpr q
    · rw [decide_eq_false q]; exact beq_eq_false_iff_ne.mpr q
  rw [← e]
  exact SeqAt.EqAt.int_int _ _ _ _
theorem op_ordV {X : Cx} {op : CmpOp} {r : Int → Int → Bool} {z : Bool} (hco : ∀ v u, compareOp op v u = richCompare op v u)
    (tup : ∀ {A : Around} {s : Shared} {l b : Addr} {is js : Array Value} {e r : Nat → Bool}, s.heap.IsTuple l is → s.heap.IsTuple b js → A.units < cLine → is.size = 2 → js.size = 2 → (∀ j (h1 : j < is.size) (h2 : j < js.size), SeqAt.EqAt A.in1 s is[j] js[j] (e j)) →
      (∀ j (h1 : j < is.size) (h2 : j < js.size), e j = false → Ob.RcOp op A.in1 s is[j] js[j] (r j)) → Ob.RcOp op A s (.ref l) (.ref b) (Ob.lexAt e r z 0 2))
    (int : ∀ {A : Around} {s : Shared} (a b : Int) (t u : Tok), Ob.RcOp op A s (.int a t) (.int b u) (r a b)) (hu : X.A.units < cLine) : OpR X (compareOp op) (rOrd X.K r z) := by
  intro pins s σ H x y v u Q I rx ry h
  obtain ⟨l, m, a, b, c, d, rfl, rfl, hl, hm, q⟩ := h
  obtain rfl : v = Value.ref l := rx
  obtain rfl : u = Value.ref m := ry
  obtain ⟨is, r1, p1, _⟩ := I.tuple hl
  obtain ⟨js, r2, p2, _⟩ := I.tuple hm
  cases r1 with
  | cons ra r1 =>
    cases r1 with
    | cons rb r1 =>
      cases r1
      cases r2 with
      | cons rc r2 =>
        cases r2 with
        | cons rd r2 =>
          cases r2
          obtain ⟨ta, rfl⟩ := ra
          obtain ⟨tb, rfl⟩ := rb
          obtain ⟨tc, rfl⟩ := rc
          obtain ⟨td, rfl⟩ := rd
          have R := tup (A := X.A) (s := s) (e := fun j => if j = 0 then decide (a = c) else decide (b = d)) (r := fun j => if j = 0 then r a c else r b d) p1 p2 hu rfl rfl (fun j h1 h2 => by
            match j, h1 with
            | 0, _ => exact int_here a c ta tc
            | 1, _ => exact int_here b d tb td) (fun j h1 h2 _ => by
            match j, h1 with
            | 0, _ => exact int a c ta tc
            | 1, _ => exact int b d tb td)
          rw [hco]
          refine R X.prog X.w X.xe (EP X pins σ Q) ⟨.bl _, H, I, rfl, ?_⟩
          have e : Ob.lexAt (fun j => if j = 0 then decide (a = c) else decide (b = d)) (fun j => if j = 0 then r a c else r b d) z 0 2 = ordP r z a b c d := by
            unfold ordP
            simp only [Ob.lexAt_succ, Ob.lexAt_zero]
            by_cases h1 : a = c
            · by_cases h2 : b = d
              · simp [h1, h2]
              · simp [h1, h2]
            · simp [h1]
          rw [e]
          exact q
section
variable {X : Cx}
theorem op_ltP (hu : X.A.units < cLine) : OpR X (compareOp .Lt) (rOrd X.K (fun i j => decide (i < j)) false) := op_ordV (fun _ _ => rfl) (fun {A s l b is js e r} h1 h2 h3 h4 h5 h6 h7 => by have z := Ob.RcOp.tuples_lt h1 h2 h3 h6 h7; rw [h4, h5] at z; exact z) (fun a b t u => Ob.RcOp.lt_int a b t u) hu
theorem op_leP (hu : X.A.units < cLine) : OpR X (compareOp .LtE) (rOrd X.K (fun i j => decide (i ≤ j)) true) := op_ordV (fun _ _ => rfl) (fun {A s l b is js e r} h1 h2 h3 h4 h5 h6 h7 => by have z := Ob.RcOp.tuples_le h1 h2 h3 h6 h7; rw [h4, h5] at z; exact z) (fun a b t u => Ob.RcOp.le_int a b t u) hu
theorem op_gtP (hu : X.A.units < cLine) : OpR X (compareOp .Gt) (rOrd X.K (fun i j => decide (j < i)) false) := op_ordV (fun _ _ => rfl) (fun {A s l b is js e r} h1 h2 h3 h4 h5 h6 h7 => by have z := Ob.RcOp.tuples_gt h1 h2 h3 h6 h7; rw [h4, h5] at z; exact z) (fun a b t u => Ob.RcOp.gt_int a b t u) hu
theorem op_geP (hu : X.A.units < cLine) : OpR X (compareOp .GtE) (rOrd X.K (fun i j => decide (j ≤ i)) true) := op_ordV (fun _ _ => rfl) (fun {A s l b is js e r} h1 h2 h3 h4 h5 h6 h7 => by have z := Ob.RcOp.tuples_ge h1 h2 h3 h6 h7; rw [h4, h5] at z; exact z) (fun a b t u => Ob.RcOp.ge_int a b t u) hu
end
/-! ### within a comprehension -/
theorem op_cmpB {X : Cx} {K : PySem.W.Frag} {CX : CXT} {k : Nat} {C : Addr} {m : Str} {ps : List Str} {sp : Sp} {E : XK} {op : CmpOp} (hK : X.K = K) (M : CmpAt X.prog X.w X.K X.mg X.base CX k C m ps sp) (hr : Room k X.A) (hx : Passes CX X E) (hop : (cmpInfo op).2.1 = m := by rfl)
    (hco : ∀ v u, compareOp op v u = richCompare op v u := by intro _ _; rfl) : OpR X (compareOp op) (rCmpO K C sp E) := by
  subst hK
  exact op_cmpO M hr hx hop hco
/-! ### a def that keeps two promises -/
def spOr (s1 s2 : Sp) : Sp := fun vs H Q E => s1 vs H Q E ∨ s2 vs H Q E
section
variable {P : Program} {w : World} {K : PySem.W.Frag} {mg : Str → Option Value} {base : Heap} {CX : CXT} {k : Nat} {f : Addr} {fd : FuncData} {ps : List Str} {s1 s2 : Sp}
theorem ok_or (h1 : FnOk P w K mg base CX k f fd ps s1) (h2 : FnOk P w K mg base CX k f fd ps s2) : FnOk P w K mg base CX k f fd ps (spOr s1 s2) :=
  ⟨fun vs H Q E h => h.elim (h1.len vs H Q E) (h2.len vs H Q E), fun A outer s H args us vs Q E hr e0 hb r h => h.elim (h1.run A outer s H args us vs Q E hr e0 hb r) (h2.run A outer s H args us vs Q E hr e0 hb r)⟩
theorem okG_or (h1 : FnG P w K mg base CX k f fd ps s1) (h2 : FnG P w K mg base CX k f fd ps s2) : FnG P w K mg base CX k f fd ps (spOr s1 s2) :=
  ⟨fun vs H Q E h => h.elim (h1.len vs H Q E) (h2.len vs H Q E), fun A outer s H args us vs Q E hg hr e0 hb r h => h.elim (h1.run A outer s H args us vs Q E hg hr e0 hb r) (h2.run A outer s H args us vs Q E hg hr e0 hb r)⟩
end
end My
/-! Signs in place; an instance called by keywords; what a comprehension may hold. -/
namespace My
open PySem PySem.Spec PySem.Calls PyProof.Rows L2
section
open PySem.W
variable {prog : Program} {w : World} {M : Model} {A : Around} {E : Value → Shared → Prop} {s : Shared} {K : Frag} {x C L f : Addr} {h₀ : Heap} {m : Str → Option Value} {ox : Obj} {od : Option Obj} {nm : String}
/-- beside one of its own class -/
theorem bin1_S {b : Value} {Q : Value → Shared → Prop} (X : K.In s.heap) (I : InstAt s.heap x ox C od) (hb : Looks (model prog w) s.heap (typeOf b) (.ref C)) (hc : selfFirst K C = true) (hs : findIn K (.ref C) (PySem.dunder nm) = some (some (.ref f))) (hf : isFn K (.ref f) = true)
    (h : wpAny (model prog w) A (call (.ref f) [.ref x, b]) (PySem.W.CmpBack Q) E s) : wpAny (model prog w) A (binaryOp1 nm (.ref x) b) (fun r s' => ∃ v, r = some v ∧ Q v s') E s := by
  obtain ⟨cd, rest, hcd, hm⟩ := ksp_first hc
  have one := ksp_try X I hs hf h
  obtain ⟨hh, g, d, tt, os⟩ := s
  have L1 : Looks (model prog w) hh (typeOf (.ref x)) (.ref C) := I.type
  have L2 : Looks (model prog w) hh (typeOf b) (.ref C) := hb
  have L3 : Looks (model prog w) hh (fillsNumberSlot (.ref C) nm) true := fills_K X hcd hm hs
  unfold binaryOp1
  refine wpAny_bind (L1.at (wpAny_bind (L2.at (wpAny_bind (L3.at ?_)))))
  simp only [beq_self_eq_true, if_true]
  ksp_lk
  refine wpAny_mono one (fun r s' hr' => ?_) fun _ _ e => e
  obtain ⟨v, rfl, hq⟩ := hr'
  ksp_lk
  exact ⟨v, rfl, hq⟩
/-- beside a value of a built-in type -/
theorem bin1_T {T : String} {b : Value} {fo ro rc : Option Value} {Q : Value → Shared → Prop} (X : K.In s.heap) (I : InstAt s.heap x ox C od) (hb : typeOf b = pure (.type T)) (hc : selfFirst K C = true)
    (hs : findIn K (.ref C) (PySem.dunder nm) = some (some (.ref f))) (hf : isFn K (.ref f) = true) (hr : findIn K (.ref C) (dunderR nm) = some rc) (hp : rc = none ∨ ∃ g : Addr, rc = some (.ref g))
    (h1 : findIn K (.type T) (PySem.dunder nm) = some fo) (h2 : findIn K (.type T) (dunderR nm) = some ro) (hsub : subIn K (.type T) (.ref C) = some false)
    (h : wpAny (model prog w) A (call (.ref f) [.ref x, b]) (PySem.W.CmpBack Q) E s) : wpAny (model prog w) A (binaryOp1 nm (.ref x) b) (fun r s' => ∃ v, r = some v ∧ Q v s') E s := by
  obtain ⟨cd, rest, hcd, hm⟩ := ksp_first hc
  have one := ksp_try X I hs hf h
  obtain ⟨hh, g, d, tt, os⟩ := s
  have L1 : Looks (model prog w) hh (typeOf (.ref x)) (.ref C) := I.type
  have L2 : Looks (model prog w) hh (typeOf b) (.type T) := Looks.of_pure hb
  have L3 : Looks (model prog w) hh (fillsNumberSlot (.ref C) nm) true := fills_K X hcd hm hs
  have L4 : Looks (model prog w) hh (fillsNumberSlot (.type T) nm) ((fo.isSome && !isSeqSlot fo) || (ro.isSome && !isSeqSlot ro)) := ksp_fillsT X h1 h2
  have L5 : Looks (model prog w) hh (isSubtype (.type T) (.ref C)) false := looks_subIn X hsub
  have L6 : Looks (model prog w) hh (numberSlotInPython (.ref C) nm) true := ksp_inPy X hs hr hp
  have L7 : Looks (model prog w) hh (numberSlotInPython (.type T) nm) false := Looks.of_pure rfl
  have L8 : Looks (model prog w) hh (typeLookup (.type T) (dunderR nm)) ro := looks_findIn X h2
  generalize ((fo.isSome && !isSeqSlot fo) || (ro.isSome && !isSeqSlot ro)) = right at L4
  have hne : (Value.ref C == Value.type T) = false := Bool.eq_false_iff.mpr fun q => by cases beq_iff_eq.mp q
  unfold binaryOp1
  refine wpAny_bind (L1.at (wpAny_bind (L2.at (wpAny_bind (L3.at ?_)))))
  simp only [hne, Bool.false_eq_true, if_false]
  cases right with
  | false =>
    ksp_lk
    refine wpAny_mono one (fun r s' hr' => ?_) fun _ _ e => e
    obtain ⟨v, rfl, hq⟩ := hr'
    ksp_lk
    exact ⟨v, rfl, hq⟩
  | true =>
    ksp_lk
    refine wpAny_mono one (fun r s' hr' => ?_) fun _ _ e => e
    obtain ⟨v, rfl, hq⟩ := hr'
    ksp_lk
    exact ⟨v, rfl, hq⟩
/-- the class has no slot in place -/
theorem noInplace {h : Heap} {cd : ClassData} {add : Bool} (X : K.In h) (hc : clsIn K C = some cd) (hm : cd.mro = [.ref C, .type "object"]) (h1 : findIn K (.ref C) (dunderI nm) = some none) (h2 : findIn K (.type "object") (dunderI nm) = some none) : Looks M h (fillsInplaceSlot (.ref C) nm add) false := by
  intro A Q E s k q
  have Lm : Looks M h (mroOf (.ref C)) cd.mro := (looks_clsIn X hc).andThen (f := fun cd => pure cd.mro) .now
  have Lm' := Lm.keeps k
  obtain ⟨hh, g, d, tt, os⟩ := s
  have X' : K.In hh := X.keeps k
  have L1 : Looks M hh (typeLookup (.ref C) (dunderI nm)) none := looks_findIn X' h1
  have L2 : Looks M hh (typeLookup (.type "object") (dunderI nm)) none := looks_findIn X' h2
  unfold fillsInplaceSlot
  refine wpAny_bind (Lm'.at ?_)
  rw [hm, List.anyM_cons]
  refine wpAny_bind ?_
  repeat lk
  exact q
theorem inpl_K {op : Operator} {b : Value} {Q : Value → Shared → Prop} {cd : ClassData} (X : K.In s.heap) (I : InstAt s.heap x ox C od) (hc : clsIn K C = some cd) (hm : cd.mro = [.ref C, .type "object"]) (h1 : findIn K (.ref C) (dunderI op.info.2) = some none) (h2 : findIn K (.type "object") (dunderI op.info.2) = some none)
    (h : wpAny (model prog w) A (binaryOp1 op.info.2 (.ref x) b) (fun r s' => ∃ v, r = some v ∧ Q v s') E s) : wpAny (model prog w) A (inplaceOp op (.ref x) b) Q E s := by
  have L2 : Looks (model prog w) s.heap (fillsInplaceSlot (.ref C) op.info.2 (op == .Add)) false := noInplace X hc hm h1 h2
  unfold inplaceOp
  refine wpAny_holding ?_
  dsimp only
  refine wpAny_bind (I.type.here (wpAny_bind (L2.here ?_)))
  simp only [Bool.false_eq_true, if_false]
  refine wpAny_bind (wpAny_mono h (fun r s' z => ?_) fun _ _ e => e)
  obtain ⟨v, rfl, hq⟩ := z
  exact wpAny_pure hq
end
/-- the class has no slot in place -/
structure InpF (K : PySem.W.Frag) (C : Addr) (nm : String) : Prop where
  mro : ∃ cd, PySem.W.clsIn K C = some cd ∧ cd.mro = [.ref C, .type "object"]
  no1 : PySem.W.findIn K (.ref C) (dunderI nm) = some none
  no2 : PySem.W.findIn K (.type "object") (dunderI nm) = some none
section
variable {X : Cx} {CX : CXT} {k : Nat} {ps ks : List Str} {sp : Sp} {E : XK} {C : Addr} {m : Str}
theorem iop_O {op : Operator} (M : CmpAt X.prog X.w X.K X.mg X.base CX k C m ps sp) (B : BinF X.K C op.info.2) (N : InpF X.K C op.info.2) (hr : Room k X.A) (hx : Passes CX X E) (hm : PySem.dunder op.info.2 = m := by rfl) : OpR X (inplaceOp op) (rBinO C sp E) := by
  intro pins s σ H x y v u Q I rx ry h
  obtain ⟨f, fd, hs, hf, F, hb⟩ := M.ex
  obtain ⟨a, dx, fs, rfl, ha, oi, hsp⟩ := h
  obtain rfl : v = Value.ref a := rx
  obtain ⟨ox, od, J, _⟩ := ins_plain I ha
  obtain ⟨cd, c1, c2⟩ := N.mro
  subst hm
  have go : wpAny (model X.prog X.w) X.A (call (.ref f) [.ref a, u]) (PySem.W.CmpBack (EP X pins σ Q)) X.xe s := wpAny_mono (run_at (vs := [.ref a, y]) F hb hx (Und.here hr) I (.cons rfl (.cons ry .nil)) hsp) (fun _ _ z => ep_back z) fun _ _ z => z
  refine inpl_K I.kIn J c1 c2 N.no1 N.no2 ?_
  rcases oi with ⟨b, dy, gs, rfl, hb'⟩ | ⟨j, rfl⟩
  · obtain rfl : u = Value.ref b := ry
    obtain ⟨oy, od', J', _⟩ := ins_plain I hb'
    exact bin1_S I.kIn J J'.type B.sf hs hf go
  · obtain ⟨t, rfl⟩ := ry
    obtain ⟨rc, r1, r2⟩ := B.rc
    obtain ⟨fo, i1⟩ := B.i1
    obtain ⟨ro, i2⟩ := B.i2
    exact bin1_T I.kIn J rfl B.sf hs hf r1 r2 i1 i2 B.su go
/-! ### an instance called -/
/-- f(e, ..), told without the context -/
def tCallI (C : Addr) (sp : Sp) (E : XK) (tf : TE) (t : TA) : TE := fun σ H Q => tf σ H fun y H1 => ∃ a, y = V.ref a ∧ t σ H1 fun vs H2 => (∃ dx fs, H2 a = some (.ins C dx fs)) ∧ sp (V.ref a :: vs) H2 Q E
theorem pe_clI {fe e : Expr} {es : List Expr} {tf : TE} {t : TA} {pos : Pos} (M : CallAt X.prog X.w X.K X.mg X.base CX k C ps sp) (hr : Room k X.A) (hx : Passes CX X E) (hf : PE X fe tf) (ha : PA X (e :: es) t)
    (ht : eval (.Call fe (e :: es) [] pos) X.env = (do callWith pos (← eval fe X.env) [] (backTo pos (starEach (e :: es) X.env)) (backToKw pos (keywordEach [] X.env))) := by rfl)
    (hs : starEach (e :: es) X.env = (false, eval e X.env) :: starEach es X.env := by rfl) (hpl : (backTo pos (starEach es X.env)).any (·.1) = false := by rfl) : PE X (.Call fe (e :: es) [] pos) (tCallI C sp E tf t) := by
  obtain ⟨f, fd, c, F, b⟩ := M.ex
  refine ⟨fun pins s σ H Q I h => ?_⟩
  refine Call_ (thn (hf.run pins s σ H _ I h) fun u s1 ⟨y, H1, I1, ry, a, ey, q⟩ => ?_) ht
  subst ey
  obtain rfl : u = Value.ref a := ry
  refine StX.callO_with (thn (ha.run pos pins s1 σ H1 _ I1 q) fun us s2 ⟨vs, H2, I2, r, ⟨dx, fs, hi⟩, q2⟩ => ?_) hs hpl
  obtain ⟨ox, od, J, hd⟩ := StX.insC_at (X := X) I2 (.inr ⟨dx, fs, hi⟩)
  refine ⟨⟨C, ox, od, J, hd⟩, ?_⟩
  have hl : (Value.ref a :: us ++ []).length = ps.length := by
    rw [List.append_nil, List.length_cons, ← r.length]
    exact F.len _ _ _ _ q2
  have bd := b s2 (.ref a :: us) I2.kIn hl
  rw [List.append_nil] at bd
  refine wpAny_call (PySem.W.kco_code I2.kIn J hd c.at_ c.fn c.fi (codeAny_mono (F.run X.A X.stack s2 H2 ⟨.ref a :: us, []⟩ (.ref a :: us) (.ref a :: vs) _ E hr I2.env0 bd (.cons rfl r) q2) fun r s' hq => ?_))
  match r, hq with
  | .error e, hq => exact hx pins σ H2 s2 e s' I2 hq
  | .ok (.ret z), hq => exact I2.after hq
  | .ok .next, hq => exact False.elim hq
  | .ok .brk, hq => exact False.elim hq
  | .ok .cont, hq => exact False.elim hq
structure CallK (P : Program) (w : World) (K : PySem.W.Frag) (mg : Str → Option Value) (base : Heap) (CX : CXT) (k : Nat) (C : Addr) (ps ks : List Str) (sp : Sp) (gV : List V → List V → List V) : Prop where
  ex : ∃ f fd g, StX.CallO K C f ∧ FnOk P w K mg base CX k f fd ps sp ∧ KBn K fd ps 1 ks g gV
def tCallK (C : Addr) (j : Nat) (sp : Sp) (gV : List V → List V → List V) (E : XK) (tf : TE) (tk : TA) : TE := fun σ H Q => tf σ H fun y H1 => ∃ a, y = V.ref a ∧ tk σ H1 fun zs H2 => zs.length = j ∧ (∃ dx fs, H2 a = some (.ins C dx fs)) ∧ sp (gV [.ref a] zs) H2 Q E
/-- the call's node where the callee is an instance, keywords alone -/
theorem callO_kw {M : Model} {A : Around} {Er : Value → Shared → Prop} {s : Shared} {a : Addr} {pos : Pos} {Q : Value → Shared → Prop} {args : List (Bool × Sem Value)} {kw : List (Option Str × Sem Value)} (hplain : (args.any (·.1) || kw.any (·.1.isNone)) = false)
    (h : wpAny M A (evalArgs (.ref a) true args kw) (fun z s₁ => (∃ C ox od, PySem.W.InstAt s₁.heap a ox C od ∧ ox.data = .plain) ∧ wpAny M A (call (.ref a) ([] ++ z.pos) z.kw) Q Er s₁) Er s) : wpAny M A (callWith pos (.ref a) [] args kw) Q Er s := by
  unfold callWith
  refine wpAny_bind (wpAny_holding (wpAny_mono h (fun z s₁ h₁ => wpAny_bind (wpAny_standAt ?_)) fun _ _ y => y))
  obtain ⟨⟨C, ox, od, J, hd⟩, h₁⟩ := h₁
  simp only [hplain]
  refine wpAny_bind ((PySem.W.kco_keeper (M := M) J hd).here ?_)
  refine wpAny_bind (wpAny_mono (wpAny_operateT h₁) (fun r s₂ hr => wpAny_bind (wpAny_holding (wpAny_point (wpAny_pure hr)))) fun _ _ y => y)
theorem pe_clK {fe : Expr} {kws : List Keyword} {tf : TE} {tk : TA} {pos : Pos} {gV : List V → List V → List V} (M : CallK X.prog X.w X.K X.mg X.base CX k C ps ks sp gV) (hr : Room k X.A) (hx : Passes CX X E) (hf : PE X fe tf) (hkw : PK X kws tk)
    (ht : eval (.Call fe [] kws pos) X.env = (do callWith pos (← eval fe X.env) [] (backTo pos (starEach [] X.env)) (backToKw pos (keywordEach kws X.env))) := by rfl)
    (hall : (backToKw pos (keywordEach kws X.env)).all (·.1.isSome) = true := by rfl) (hks : (backToKw pos (keywordEach kws X.env)).filterMap (·.1) = ks := by rfl)
    (hpl : ((backTo pos (starEach [] X.env)).any (·.1) || (backToKw pos (keywordEach kws X.env)).any (·.1.isNone)) = false := by rfl) : PE X (.Call fe [] kws pos) (tCallK C ks.length sp gV E tf tk) := by
  obtain ⟨f, fd, g, c, F, b⟩ := M.ex
  refine ⟨fun pins s σ H Q I h => ?_⟩
  rw [ht]
  refine wpAny_bind (thn (hf.run pins s σ H _ I h) fun u s1 ⟨y, H1, I1, ry, a, ey, q⟩ => ?_)
  subst ey
  obtain rfl : u = Value.ref a := ry
  refine callO_kw hpl (evalArgs_kw2_nil hall (thn (hkw.run pos pins s1 σ H1 _ I1 q) fun ws s2 ⟨zs, H2, I2, rz, l2, ⟨dx, fs, hi⟩, q2⟩ => ?_))
  obtain ⟨ox, od, J, hd⟩ := StX.insC_at (X := X) I2 (.inr ⟨dx, fs, hi⟩)
  refine ⟨⟨C, ox, od, J, hd⟩, ?_⟩
  rw [hks]
  have r2 := b.rel (vs := [V.ref a]) (us := [Value.ref a]) (.cons rfl .nil) rz
  refine wpAny_call (PySem.W.kco_code I2.kIn J hd c.at_ c.fn c.fi (codeAny_mono (F.run X.A X.stack s2 H2 ⟨[.ref a], ks.zip ws⟩ (g [.ref a] ws) (gV [.ref a] zs) _ E hr I2.env0 (b.to s2 [.ref a] ws I2.kIn rfl (rz.length.symm.trans l2)) r2 q2) fun r s' hq => ?_))
  match r, hq with
  | .error e, hq => exact hx pins σ H2 s2 e s' I2 hq
  | .ok (.ret z), hq => exact I2.after hq
  | .ok .next, hq => exact False.elim hq
  | .ok .brk, hq => exact False.elim hq
  | .ok .cont, hq => exact False.elim hq
/-- a class of the module made by keywords alone -/
structure MakeK (P : Program) (w : World) (K : PySem.W.Frag) (mg : Str → Option Value) (base : Heap) (CX : CXT) (k : Nat) (x : Str) (C : Addr) (ps ks : List Str) (sp : Sp) (gV : List V → List V → List V) : Prop where
  ex : ∃ f fd g, Mk K C f ∧ FnOk P w K mg base CX k f fd ps sp ∧ mg x = some (.ref C) ∧ KBn K fd ps 1 ks g gV
theorem pe_mkK {x : Str} {p pos : Pos} {kws : List Keyword} {tk : TA} {gV : List V → List V → List V} (M : MakeK X.prog X.w X.K X.mg X.base CX k x C ps ks sp gV) (hr : Room (k + 1) X.A) (hg : Gl X x) (hx : Passes CX X E) (hkw : PK X kws tk)
    (hall : (backToKw pos (keywordEach kws X.env)).all (·.1.isSome) = true := by rfl) (hks : (backToKw pos (keywordEach kws X.env)).filterMap (·.1) = ks := by rfl) (hdb : (x == ("__debug__" : Str)) = false := by decide)
    (hpl : ((backTo pos (starEach [] X.env)).any (·.1) || (backToKw pos (keywordEach kws X.env)).any (·.1.isNone)) = false := by rfl) : PE X (.Call (.Name x p) [] kws pos) (tMakeK C 0 ks.length sp gV E tNil tk) := by
  obtain ⟨f, fd, g, mk, F, hm, b⟩ := M.ex
  exact pe_makeK0 mk F hr hg hm b hx hkw hall hks hdb hpl
end
end My
/-! For the end: static methods, makers with defaults, calls by keywords. -/
namespace My
open PySem PySem.Spec PyProof.Rows L2
def gApp (vs zs : List V) : List V := vs ++ zs
def gSw (vs zs : List V) : List V := vs ++ zs.reverse
theorem nm_part : Sup.Nm "part" := ⟨by decide, by decide, by decide, by decide, fun _ _ _ _ _ _ _ _ _ _ _ _ => rfl⟩
theorem app_rel {vs : List V} {us : List Value} {zs : List V} {ws : List Value} (h1 : Vals vs us) (h2 : Vals zs ws) : Vals (gApp vs zs) (us ++ ws) := h1.append h2
/-- the class has the static method -/
structure HasS (K : PySem.W.Frag) (C : Addr) (m qual : Str) (st : Stmt) : Prop where
  ex : ∃ f fd, Stat K C m f ∧ Fun K m qual st f fd
section
variable {P : Program} {w : World} {K : PySem.W.Frag} {mg : Str → Option Value} {base : Heap} {CX : CXT} {k : Nat} {m qual : Str} {st : Stmt} {ps ks : List Str} {sp : Sp} {C : Addr}
theorem stat_at (A : HasS K C m qual st) (ok : ∀ f fd, Fun K m qual st f fd → FnOk P w K mg base CX k f fd ps sp) (b : BindW m qual st ps) : StatAt P w K mg base CX k C m ps sp := by
  obtain ⟨f, fd, h1, F⟩ := A.ex
  exact ⟨f, fd, h1, ok f fd F, F.binds b⟩
theorem statK_at {gV : List V → List V → List V} {g : List Value → List Value → List Value} (A : HasS K C m qual st) (ok : ∀ f fd, Fun K m qual st f fd → FnOk P w K mg base CX k f fd ps sp)
    (b : ∀ (kV doc pm : Value) (an : Option Addr) (cdv ct : Value) (us ws : List Value), us.length = 0 → ws.length = ks.length → bindArgs (PySem.W.fnOf m qual (defArgs st) (defBody st) (defScope st) .none kV doc pm an cdv ct) ⟨us, ks.zip ws⟩ = pure (ps.zip (g us ws)))
    (r : ∀ {vs : List V} {us : List Value} {zs : List V} {ws : List Value}, Vals vs us → Vals zs ws → Vals (gV vs zs) (g us ws)) : StatK P w K mg base CX k C m ps ks sp gV := by
  obtain ⟨f, fd, h1, F⟩ := A.ex
  obtain ⟨oc, od, kV, doc, pm, an, cdv, ct, osl, rfl, _⟩ := id F.ex
  exact ⟨f, _, g, h1, ok f _ F, ⟨fun s us ws _ l1 l2 => .of_eq (b kV doc pm an cdv ct us ws l1 l2), r⟩⟩
end
theorem sw_rel {vs : List V} {us : List Value} {zs : List V} {ws : List Value} (h1 : Vals vs us) (h2 : Vals zs ws) : Vals (gSw vs zs) (us ++ ws.reverse) := h1.append h2.reverse
theorem kinds7 {K : PySem.W.Frag} {C : Addr} (a0 : PySem.W.kitOne K (.type "int") (.ref C) = some false) (b0 : PySem.W.notFirst K C (.type "int") = true) (a1 : PySem.W.kitOne K (.type "tuple") (.ref C) = some false) (b1 : PySem.W.notFirst K C (.type "tuple") = true) (a2 : PySem.W.kitOne K (.type "NoneType") (.ref C) = some false) (b2 : PySem.W.notFirst K C (.type "NoneType") = true) (a3 : PySem.W.kitOne K (.type "str") (.ref C) = some false) (b3 : PySem.W.notFirst K C (.type "str") = true) (a4 : PySem.W.kitOne K (.type "list") (.ref C) = some false) (b4 : PySem.W.notFirst K C (.type "list") = true) (a5 : PySem.W.kitOne K (.type "bool") (.ref C) = some false) (b5 : PySem.W.notFirst K C (.type "bool") = true) (a6 : PySem.W.kitOne K (.type "dict") (.ref C) = some false) (b6 : PySem.W.notFirst K C (.type "dict") = true) : ∀ t ∈ ["int", "tuple", "NoneType", "str", "list", "bool", "dict"], PySem.W.kitOne K (.type t) (.ref C) = some false ∧ PySem.W.notFirst K C (.type t) = true := fun t ht => by
  simp only [List.mem_cons, List.mem_nil_iff, or_false] at ht
  rcases ht with rfl | rfl | rfl | rfl | rfl | rfl | rfl
  · exact ⟨a0, b0⟩
  · exact ⟨a1, b1⟩
  · exact ⟨a2, b2⟩
  · exact ⟨a3, b3⟩
  · exact ⟨a4, b4⟩
  · exact ⟨a5, b5⟩
  · exact ⟨a6, b6⟩
section
variable {P : Program} {w : World} {K : PySem.W.Frag} {mg : Str → Option Value} {base : Heap} {CX : CXT} {k : Nat} {x qual : Str} {st : Stmt} {ps ks : List Str} {sp : Sp} {C : Addr} {dvs : List V}
/-- the class is made with its defaults left out -/
theorem make_dfl {n : Nat} (A : HasD K C "__init__" qual st dvs []) (hx : mg x = some (.ref C)) (mk : PySem.W.makesIn K C = true) (kp : PySem.W.keepIn K (.ref C) = true) (ok : ∀ f fd, FunD K "__init__" qual (defArgs st) (defBody st) (defScope st) dvs [] f fd → FnOk P w K mg base CX k f fd ps sp) (hd : dvs ≠ []) (hn : n + (dvs.length - 0) = ps.length)
    (b : ∀ (T : Addr) (kV doc pm : Value) (an : Option Addr) (cdv ct : Value) (us its : List Value), us.length = n → its.length = dvs.length →
      ∃ k, bindArgs (PySem.W.fnOf "__init__" qual (defArgs st) (defBody st) (defScope st) (.ref T) kV doc pm an cdv ct) ⟨us, []⟩ = seqItems? (.ref T) >>= k ∧ k (some its.toArray) = pure (ps.zip (us ++ its.drop 0))) : MakeAt P w K mg base CX k x C ps sp dvs := by
  obtain ⟨f, fd, h1, h2, F⟩ := A.ex
  obtain ⟨ds, r, bs⟩ := F.binds1 n 0 hd hn b
  rw [List.drop_zero] at r
  exact ⟨f, fd, ds, ⟨mk, h1, h2, kp⟩, ok f fd F, hx, bs, r⟩
theorem make_sw (A : HasD K C "__init__" qual st dvs []) (hx : mg x = some (.ref C)) (mk : PySem.W.makesIn K C = true) (kp : PySem.W.keepIn K (.ref C) = true) (ok : ∀ f fd, FunD K "__init__" qual (defArgs st) (defBody st) (defScope st) dvs [] f fd → FnOk P w K mg base CX k f fd ps sp) (hd : dvs ≠ [])
    (b : ∀ (T : Addr) (kV doc pm : Value) (an : Option Addr) (cdv ct : Value) (us its ws : List Value), us.length = 1 → its.length = dvs.length → ws.length = ks.length →
      ∃ k, bindArgs (PySem.W.fnOf "__init__" qual (defArgs st) (defBody st) (defScope st) (.ref T) kV doc pm an cdv ct) ⟨us, ks.zip ws⟩ = seqItems? (.ref T) >>= k ∧ k (some its.toArray) = pure (ps.zip (us ++ ws.reverse))) : MakeK P w K mg base CX k x C ps ks sp gSw := by
  obtain ⟨f, fd, h1, h2, F⟩ := A.ex
  obtain ⟨its, kb⟩ := F.kbindsD (ps := ps) 1 ks (fun us _ ws => us ++ ws.reverse) hd (fun h1 _ h3 => h1.append h3.reverse) b
  exact ⟨f, fd, _, ⟨mk, h1, h2, kp⟩, ok f fd F, hx, kb⟩
theorem callK_at {g : List Value → List Value → List Value} (A : HasM K C "__call__" qual st) (ok : ∀ f fd, Fun K "__call__" qual st f fd → FnOk P w K mg base CX k f fd ps sp)
    (b : ∀ (kV doc pm : Value) (an : Option Addr) (cdv ct : Value) (us ws : List Value), us.length = 1 → ws.length = ks.length → bindArgs (PySem.W.fnOf "__call__" qual (defArgs st) (defBody st) (defScope st) .none kV doc pm an cdv ct) ⟨us, ks.zip ws⟩ = pure (ps.zip (us ++ ws))) : CallK P w K mg base CX k C ps ks sp gApp := by
  obtain ⟨f, fd, h1, h2, F⟩ := A.ex
  obtain ⟨oc, od, kV, doc, pm, an, cdv, ct, osl, rfl, lk, _⟩ := id F.ex
  refine ⟨f, _, _, ⟨h1, h2, ?_⟩, ok f _ F, ⟨fun s us ws _ l1 l2 => .of_eq (b kV doc pm an cdv ct us ws l1 l2), app_rel⟩⟩
  unfold PySem.W.fnIn
  rw [lk]
end
end My
/-! int == an instance; bool(x), abs(x) of an instance; // and % of an int by an instance. -/
namespace My
open PySem PySem.Spec PySem.Calls PyProof.Rows L2
theorem is_fdv {K : PySem.W.Frag} : IntSlot K (Operator.info .FloorDiv).2 "int.__floordiv__" Builtin.«int.__floordiv__» := ⟨PySem.F.slot_int_floordiv, PySem.F.entry_int_floordiv, PySem.F.args_int_floordiv_2, dec_floordiv⟩
theorem is_mod {K : PySem.W.Frag} : IntSlot K (Operator.info .Mod).2 "int.__mod__" Builtin.«int.__mod__» := ⟨PySem.F.slot_int_mod, PySem.F.entry_int_mod, PySem.F.args_int_mod_2, dec_mod⟩
section
open PySem.W
variable {prog : Program} {w : World} {A : Around} {E : Value → Shared → Prop} {s : Shared} {K : Frag} {x C L f : Addr} {h₀ : Heap} {m : Str → Option Value} {ox : Obj} {od : Option Obj}
theorem bool_call {Q : Value → Shared → Prop} (F : Fr h₀ L s.heap m) (X₀ : K.In h₀) (I : InstAt s.heap x ox C od) (hs : findIn K (.ref C) "__bool__" = some (some (.ref f))) (hf : isFn K (.ref f) = true)
    (h : wpAny (model prog w) A.in1.in1 (call (.ref f) [.ref x]) (PySem.W.BoolBack fun b s' => Q (.bool b) s') E s) : wpAny (model prog w) A (call (.type "bool") [.ref x]) Q E s := by
  refine callType_codes (T := "bool") (Bi := Builtin.«object.__init__») (Q₁ := fun r s' => ∃ b, r = .bool b ∧ Q r s') PySem.F.called_bool (PySem.F.typeCall_bool_1 _) PySem.F.entry_object_init ?_ ?_
  · refine codeAny_of_tree ?_
    show wpAny _ A.in1.in1 (do checkBuiltinCall "bool.__new__" ⟨[.type "bool", .ref x], []⟩; again (.builtin "bool.__new__" ⟨[.type "bool", .ref x], []⟩)) _ _ s
    refine wpAny_bind (wpAny_of_eq (PySem.F.newCall_bool_1 _) (wpAny_pure ⟨plainId_quiet (by decide +kernel) _, codeAny_builtin PySem.F.entry_bool_new ?_⟩))
    rw [Around.under_plainId (by decide +kernel) _]
    unfold Builtin.«bool.__new__»
    have f1 := PySem.F.conv_sub_bool
    have go : wpAny (model prog w) A.in1.in1 (truthy (.ref x)) (fun b s' => Q (.bool b) s') E s := truthy_K F X₀ I hs hf h
    refine wpAny_bind (m := isType (.type "bool")) (wpAny_pure ?_)
    refine wpAny_bind (m := isSubtype (.type "bool") (.type "bool")) (wpAny_of_eq f1 ?_)
    refine wpAny_bind (wpAny_pure ?_)
    refine wpAny_bind (m := truthy (.ref x)) (wpAny_mono go (fun b s' hq => ?_) fun _ _ y => y)
    exact wpAny_pure ⟨b, rfl, hq⟩
  · rintro obj s' ⟨b, rfl, hq⟩
    exact ⟨PySem.typeIs_bool _ _, PySem.F.args_object_init_2 _ _, object_init_meets PySem.F.called_bool.init.lookup PySem.F.called_bool.made (by decide) prog w A.in1 _ s' ⟨PySem.typeIs_bool _ _, rfl, hq⟩⟩
theorem abs_call {Q : Value → Shared → Prop} (X : K.In s.heap) (I : InstAt s.heap x ox C od) (hs : findIn K (.ref C) "__abs__" = some (some (.ref f))) (hf : isFn K (.ref f) = true)
    (h : wpAny (model prog w) A.in1 (call (.ref f) [.ref x]) Q E s) : wpAny (model prog w) A (call (.builtin "abs") [.ref x]) Q E s := by
  refine call_function_entry kind_abs plain_abs entry_abs (args_abs _) ?_
  unfold Builtin.«abs»
  refine wpAny_bind (m := oneArg "abs" _) (wpAny_pure ?_)
  refine wpAny_bind (m := callSpecial? (.ref x) (Str.ofString "__abs__")) (special_fn X I hs (beq_iff_eq.mp hf) (wpAny_mono h (fun r s' hr => ?_) fun _ _ y => y))
  exact wpAny_pure ⟨_, rfl, hr⟩
end
section
variable {X : Cx} {CX : CXT} {k : Nat} {C : Addr} {ps : List Str} {sp : Sp} {E : XK}
theorem op_eqR (M : CmpAt X.prog X.w X.K X.mg X.base CX k C "__eq__" ps sp) (su : PySem.W.subIn X.K (.ref C) (.type "int") = some false) (hr : Room k X.A) (hx : Passes CX X E) : OpR X (compareOp .Eq) (rCmpR C sp E) := op_cmpRv M su hr hx rfl (fun _ _ => rfl) (fun _ _ _ => rfl) PySem.F.slot_int_eq PySem.F.entry_int_eq PySem.F.args_int_eq_2 dec_eq
/-- bool(x) of an instance with its own __bool__ -/
def rBoolO (C : Addr) (sp : Sp) (E : XK) : List V → Hp → VK → Prop := fun xs H Q => ∃ a dx fs, xs = [.ref a] ∧ H a = some (.ins C dx fs) ∧ sp [.ref a] H (fun v H' => ∃ b, v = .bl b ∧ Q v H') E
theorem call_boolO (M : CmpAt X.prog X.w X.K X.mg X.base CX k C "__bool__" ps sp) (hr : Room (k + 2) X.A) (hx : Passes CX X E) : CallR X (.type "bool") (rBoolO C sp E) := by
  intro pins s σ H xs us Q I r h
  obtain ⟨f, fd, hs, hf, F, hb⟩ := M.ex
  obtain ⟨a, dx, fs, rfl, ha, hsp⟩ := h
  obtain ⟨u, rfl, r1⟩ := vals1 r
  obtain rfl : u = Value.ref a := r1
  obtain ⟨ox, od, J, _⟩ := ins_plain I ha
  obtain ⟨m', hF⟩ := I.fr
  have U : Und X k X.A.in1.in1 := (Und.here hr).in1.in1
  refine bool_call hF I.ok.mod.kin J hs hf (wpAny_mono (run_at (vs := [.ref a]) F hb hx U I (.cons rfl .nil) hsp) (fun v s' z => ?_) fun _ _ z => z)
  obtain ⟨z, H', I', rz, b, rfl, q⟩ := z
  cases (show v = Value.bool b from rz)
  exact ⟨.bl b, H', I', rfl, q⟩
/-- abs(x) of an instance with its own __abs__ -/
def rAbsO (C : Addr) (sp : Sp) (E : XK) : List V → Hp → VK → Prop := fun xs H Q => ∃ a dx fs, xs = [.ref a] ∧ H a = some (.ins C dx fs) ∧ sp [.ref a] H Q E
theorem call_absO (M : CmpAt X.prog X.w X.K X.mg X.base CX k C "__abs__" ps sp) (hr : Room (k + 1) X.A) (hx : Passes CX X E) : CallR X (.builtin "abs") (rAbsO C sp E) := by
  intro pins s σ H xs us Q I r h
  obtain ⟨f, fd, hs, hf, F, hb⟩ := M.ex
  obtain ⟨a, dx, fs, rfl, ha, hsp⟩ := h
  obtain ⟨u, rfl, r1⟩ := vals1 r
  obtain rfl : u = Value.ref a := r1
  obtain ⟨ox, od, J, _⟩ := ins_plain I ha
  have U : Und X k X.A.in1 := (Und.here hr).in1
  exact abs_call I.kIn J hs hf (run_at (vs := [.ref a]) F hb hx U I (.cons rfl .nil) hsp)
end
end My
/-! enumerate of a tuple; a class made by a star; a tuple turned about. -/
namespace My
open PySem PySem.Spec PySem.Calls PyProof.Rows L2
/-! ### enumerate(tuple) -/
theorem enum1_meets {v : Value} {o : Obj} {H : Heap → Prop} (B : Begins v o H) :
    Meets (Builtin.«enumerate.__new__» ⟨[.type "enumerate", v], []⟩) (fun _ R s => H s.heap ∧
      R (.ok (.ret (.ref (s.heap.push o).objs.size))) { s with heap := (s.heap.push o).push { cls := .type "enumerate", data := .fields #[.none, .bool false, .ref s.heap.objs.size, rawInt 0, .none, .none] } }) :=
  .of_wp fun prog w A R s h => by
    obtain ⟨hp, g, d, tk, os⟩ := s
    obtain ⟨h1, h⟩ := h
    have hsub := sub_enumerate
    have q1 : ∀ {A' : Around} {E : Value → Shared → Prop} {Q : Value → Shared → Prop}, Q (.ref hp.objs.size) ⟨hp.push o, g, d, tk, os⟩ → wpAny (model prog w) A' (pyIter v) Q E ⟨hp, g, d, tk, os⟩ :=
      fun q => B.iter prog w _ _ ⟨hp, g, d, tk, os⟩ _ h1 q
    wp_walk using q1
    refine wpAny_stack_any fun st => wpAny_pure ?_
    split
    · rename_i c _ _ _ _ _
      cases (c == Value.type "enumerate")
      · wp_walk using q1
        exact ⟨_, rfl, h⟩
      · wp_walk using q1
        exact ⟨_, rfl, h⟩
    · wp_walk using q1
      exact ⟨_, rfl, h⟩
section
variable {prog : Program} {w : World} {A : Around} {E : Value → Shared → Prop} {s : Shared}
theorem enum1_begins {v : Value} {o : Obj} {H : Heap → Prop} {Q : Value → Shared → Prop} (B : Begins v o H) (h1 : H s.heap)
    (h : ∀ h', IsEnum h' (s.heap.objs.size + 1) s.heap.objs.size 0 .none → h'.get? s.heap.objs.size = some o → h'.objs.size = s.heap.objs.size + 2 →
      (∀ b o, s.heap.get? b = some o → h'.get? b = some o) → Q (.ref (s.heap.objs.size + 1)) { s with heap := h' }) :
    wpAny (model prog w) A (call (.type "enumerate") [v]) Q E s := by
  refine callType_new F.called_enumerate (by decide) (F.typeCall_enumerate_1 _) (F.newCall_enumerate_1 _) (fun obj => F.args_object_init_2 obj _) F.entry_enumerate_new (enum1_meets B) ⟨h1, ?_⟩
  have hz : (s.heap.push o).objs.size = s.heap.objs.size + 1 := Heap.size_push ..
  show _ ∧ _
  rw [hz]
  have he : IsEnum ((s.heap.push o).push { cls := .type "enumerate", data := .fields #[.none, .bool false, .ref s.heap.objs.size, rawInt 0, .none, .none] }) (s.heap.objs.size + 1) s.heap.objs.size 0 .none := by
    have z := Heap.get?_push_size (s.heap.push o) (o := { cls := .type "enumerate", data := .fields #[.none, .bool false, .ref s.heap.objs.size, rawInt 0, .none, .none] }) rfl
    rw [hz] at z
    exact z
  exact ⟨⟨_, he, rfl⟩, h _ he (Heap.get?_push_of_some _ (Heap.get?_push_size _ B.free)) (by rw [Heap.size_push, hz]) fun b o x => Heap.get?_push_of_some _ (Heap.get?_push_of_some _ x)⟩
end
/-- the tuple at a, each item in a new pair -/
def IteT (K : PySem.W.Frag) (a : Addr) : It :=
  ⟨fun i H => ∃ (xs : List V) (x : V), SqT K H a xs ∧ xs[i]? = some x, fun i H v H' => ∃ T x, v = .ref T ∧ H T = none ∧ H' = upd H T (.tup [.int (i : Nat), x]) ∧ ∀ xs, SqT K H a xs → xs[i]? = some x, fun i H => ∃ xs : List V, SqT K H a xs ∧ xs.length = i⟩
theorem turn_enumT {P : Program} {w : World} {K : PySem.W.Frag} {elts : List Expr} {kk : Nat} {tpos : Pos} (a e it : Addr) :
    Turn P w K (.Tuple elts kk tpos) (IteT K a) [e, it] e (fun i h => (∃ old, IsEnum h e it ((i : Nat) : Int) old) ∧ h.IsTupleIter it a i ∧ e ≠ it) where
  mem := by simp
  obj := fun i h st b hb => by
    obtain ⟨⟨old, he⟩, ⟨o, ho, hc, hd⟩, _⟩ := st
    rcases (show b = e ∨ b = it by simpa using hb) with rfl | rfl
    · exact ⟨_, he, fun v q => nomatch q⟩
    · exact ⟨o, ho, fun v q => by rw [hd] at q; cases q⟩
  keep := fun i h h' st k => let ⟨⟨old, he⟩, hi, hne⟩ := st; ⟨⟨old, k e (by simp) _ he⟩, hi.at fun o q => k it (by simp) o q, hne⟩
  item := by
    intro X hP hw hK hc i pins s σ H E I hf st hg
    subst hP hw hK
    obtain ⟨⟨old, he⟩, hit, hne⟩ := st
    obtain ⟨xs, x, hq, hx⟩ := hg
    obtain ⟨its, rv, p, hz⟩ := I.tuple hq
    obtain ⟨u, hu, ru⟩ := rv.get hx
    have hel : e < s.heap.objs.size := Heap.lt_size he
    have hil : it < s.heap.objs.size := by obtain ⟨_, q, _⟩ := hit; exact Heap.lt_size q
    have hat : a ≠ it := fun z => by
      obtain ⟨o1, e1, c1, _⟩ := p
      obtain ⟨o2, e2, c2, _⟩ := hit
      rw [z, e2] at e1
      cases e1
      rw [c2] at c1
      exact absurd c1 (by decide)
    have hae : a ≠ e := fun z => by
      obtain ⟨o1, e1, c1, _⟩ := p
      rw [z, show s.heap.get? e = _ from he] at e1
      cases e1
      exact absurd (show Value.type "enumerate" = Value.type "tuple" from c1) (by decide)
    have D := Draws.tuple (prog := X.prog) (w := X.w) (A := X.A.in1) (I.ok.hd hc) it a hat its.toArray
    have hlt : i < its.toArray.size := by
      have := (List.getElem?_eq_some_iff.mp hu).1
      simpa using this
    refine wpAny_pyNext_enum_itemC (n := its.toArray.size) D he ⟨hit, p⟩ hlt hne (by simp; exact ⟨hne, Ne.symm hae⟩) fun x' h' tk hPx ho hst' hT hsz hk => ?_
    have ex : x' = u := by
      have h1 : its.toArray[i]? = some x' := hPx
      rw [List.getElem?_toArray, hu] at h1
      exact (Option.some.inj h1).symm
    subst ex
    refine ⟨_, rfl, wpAny_letOwnedTupleGo_enum (s := { s with heap := h', toks := tk + 1 }) ho fun h'' he' sb => ?_⟩
    have hT2 : h''.get? s.heap.objs.size = some { cls := .type "tuple", data := .seq #[.int i tk, x'] } := (sb.2 _ (Nat.ne_of_gt hel)).trans hT
    have new : ObjOk X.prog X.w (upd H s.heap.objs.size (.tup [.int (i : Nat), x])) h'' s.heap.objs.size (.tup [.int (i : Nat), x]) :=
      ⟨by show 2 ≤ sizeLine; decide, [.int i tk, x'], .cons ⟨_, rfl⟩ (.cons ru .nil), ⟨_, hT2, rfl, _, rfl⟩⟩
    have I1 : Inv X pins σ (upd H s.heap.objs.size (.tup [.int (i : Nat), x])) { s with heap := h'', toks := tk + 1 } :=
      I.turnedNew (ch := [e, it]) (fun b ob hb q => (sb.2 b (fun z => hb (by simp [z]))).trans (hk b ob (fun z => hb (by simp [z])) (fun z => hb (by simp [z])) q)) hf (Nat.le_refl _) new
    refine ⟨.ref s.heap.objs.size, _, I1, rfl, ⟨_, x, rfl, I.hok.fresh (Nat.le_refl _), rfl, fun ys hy => by rw [I.tuple_inj hy hq]; exact hx⟩, ⟨⟨x', ?_⟩, hst'.1.at fun o q => (sb.2 it (Ne.symm hne)).trans q, hne⟩, fun b hb => ?_⟩
    · have e1 : ((i + 1 : Nat) : Int) = (i : Int) + 1 := by omega
      rw [e1]
      exact he'
    · have hb' : b < s.heap.objs.size := by
        rcases (show b = e ∨ b = it by simpa using hb) with rfl | rfl
        · exact hel
        · exact hil
      rw [upd_ne (Nat.ne_of_lt hb')]
      exact (hf b hb).1
  done := by
    intro X hP hw hK hc i pins s σ H E I hf st hg
    subst hP hw hK
    obtain ⟨⟨old, he⟩, hit, hne⟩ := st
    obtain ⟨xs, hq, hx⟩ := hg
    obtain ⟨its, rv, p, hz⟩ := I.tuple hq
    obtain ⟨f0, f1, f2, f3, f4, f5⟩ := hf it (by simp)
    have hl := rv.length
    have hat : a ≠ it := fun z => by
      obtain ⟨o1, e1, c1, _⟩ := p
      obtain ⟨o2, e2, c2, _⟩ := hit
      rw [z, e2] at e1
      cases e1
      rw [c2] at c1
      exact absurd c1 (by decide)
    have D := Draws.tuple (prog := X.prog) (w := X.w) (A := X.A.in1) (I.ok.hd hc) it a hat its.toArray
    have ei : i = its.toArray.size := by
      rw [List.size_toArray]
      omega
    subst ei
    exact wpAny_pyNext_enum_endD D he ⟨hit, p⟩ fun h' eb => ⟨rfl, I.turned (t' := s.toks) (fun b o hb q => eb b o hb q) f0 f1 f3 f4 f5⟩
  self := fun A i s Q E st h => let ⟨⟨_, he⟩, _⟩ := st; wpAny_pyIter_enum he h
def iEnumT (K : PySem.W.Frag) (ta : TA) : TI := fun σ H R => ta σ H fun vs H1 => ∃ a xs, vs = [.ref a] ∧ SqT K H1 a xs ∧ R (IteT K a) H1
theorem pi_enumT {X : Cx} {e : Expr} {ta : TA} {p pos tpos : Pos} {elts : List Expr} {kk : Nat} (hg : Gl X "enumerate") (hm : X.mg "enumerate" = none) (ha : PA X [e] ta) (hs : starEach [e] X.env = [(false, eval e X.env)] := by rfl) :
    PI X (.Tuple elts kk tpos) (.Call (.Name "enumerate" p) [e] [] pos) (iEnumT X.K ta) := by
  refine ⟨fun pins s σ H R I h => ?_⟩
  refine Call_ (ld_blt I hg hm boot_enumerate (PyProof.Rows.callWith_type1 (thn (ha.run pos pins s σ H _ I h) fun us s1 ⟨vs, H1, I1, r1, q1⟩ => ?_) hs rfl))
  obtain ⟨a, xs, ex, hq, q⟩ := q1
  subst ex
  cases r1 with
  | cons r rr =>
    cases rr
    cases r
    obtain ⟨its, rv, p', hz⟩ := I1.tuple hq
    refine enum1_begins (begins_tuple a its.toArray) p' fun h' he hit hsz hk => wpAny_pyIter_enum he ?_
    have I2 : Inv X pins σ H1 { s1 with heap := h' } := I1.kept (t' := s1.toks) hk
    refine ⟨s1.heap.objs.size + 1, [s1.heap.objs.size + 1, s1.heap.objs.size], _, _, H1, rfl, I2, turn_enumT a (s1.heap.objs.size + 1) s1.heap.objs.size, ⟨⟨.none, he⟩, ⟨_, hit, rfl, rfl⟩, Nat.succ_ne_self _⟩, fun b hb => ?_, q⟩
    have hle : s1.heap.objs.size ≤ b := by
      rcases (show b = s1.heap.objs.size + 1 ∨ b = s1.heap.objs.size by simpa using hb) with rfl | rfl
      · exact Nat.le_add_right _ _
      · exact Nat.le_refl _
    exact I1.fpOk hle (I1.hok.fresh hle)
/-! ### t[::-1] of a tuple -/
section
variable {prog : Program} {w : World} {A : Around} {E : Value → Shared → Prop} {s : Shared}
theorem places_rev (n : Nat) : Builtin.Slice.slicePlaces ((n : Int) - 1) (-1) (-1) = n := by
  unfold Builtin.Slice.slicePlaces
  rw [if_neg (by decide)]
  split
  · have e : ((n : Int) - 1 - -1 - 1) / (- -1) + 1 = n := by
      rw [show (- -1 : Int) = 1 by decide, Int.ediv_one]
      omega
    rw [e]
    omega
  · omega
theorem pick_rev (xs : Array Value) : ((List.range xs.size).filterMap fun (k : Nat) => xs[((xs.size : Int) - 1 + (k : Int) * (-1)).toNat]?).toArray = xs.toList.reverse.toArray := by
  have h := PySem.W.krv_pick xs
  rw [← h]
  unfold slicePick
  rw [PySem.W.krv_bounds]
  show _ = ((sliceRange ((xs.size : Int) - 1) (-1) (-1)).filterMap (xs[·]?)).toArray
  rw [PySem.W.krv_sliceRange, List.filterMap_map]
  congr 1
  have go : ∀ l : List Nat, (∀ k ∈ l, k < xs.size) → l.filterMap (fun (k : Nat) => xs[((xs.size : Int) - 1 + (k : Int) * (-1)).toNat]?) = l.filterMap ((fun x => xs[x]?) ∘ fun k => xs.size - 1 - k) := by
    intro l
    induction l with
    | nil => intro _; rfl
    | cons k l ih =>
      intro h
      have hk := h k List.mem_cons_self
      have e : ((xs.size : Int) - 1 + (k : Int) * (-1)).toNat = xs.size - 1 - k := by omega
      rw [List.filterMap_cons, List.filterMap_cons, e, ih fun x hx => h x (List.mem_cons_of_mem _ hx)]
      rfl
  exact go _ fun k hk => List.mem_range.mp hk
theorem getItem_rev {t sl : Addr} {items : Array Value} {vl vu vs : Value} {Q : Value → Shared → Prop} (ht : IsTup s.heap t items) (hs : s.heap.IsSliceOf sl vl vu vs) (pl : IsPart vl none) (pu : IsPart vu none) (ps : IsPart vs (some (-1)))
    (h : Q (.ref s.heap.objs.size) { s with heap := s.heap.push { cls := .type "tuple", data := .seq items.toList.reverse.toArray } }) (hsz : items.size ≤ sizeLine) : wpAny (model prog w) A (getItem (.ref t) (.ref sl)) Q E s := by
  have hok : sizeOk (.seq items.toList.reverse.toArray) := by
    show items.toList.reverse.toArray.size ≤ sizeLine
    rw [List.size_toArray, List.length_reverse, Array.length_toList]
    exact hsz
  obtain ⟨os, hos, hcs, hds⟩ := id hs
  have hTs : s.TypeIs (.ref sl) "slice" := ⟨os, hos, hcs⟩
  unfold getItem
  try with_reducible refine wpAny_holding ?_
  first | refine wpAny_bind (wpAny_pure ?_) | skip
  refine wpAny_bind (wpAny_sequenceKey ht.typeIs (by decide) ?_)
  refine wpAny_bind (wpAny_callSpecial?_slot (name := Str.ofString "__getitem__") ht.typeIs PyProof.Rows.slot_tuple_getitem
    (wpAny_call_entry PyProof.Rows.slot_tuple_getitem ht.typeIs entry_tuple_getitem ?_ (args_tuple_getitem _ _)))
  show wpAny _ _ (Builtin.Tuple.tupleItemsOf (.ref t) >>= _) _ _ s
  refine wpAny_bind (tupleItemsOf_ ht ?_)
  refine wpAny_bind (wpAny_typeOf hTs ?_)
  rw [if_pos (by decide)]
  have app : ∀ {Q : Int × Int × Nat → Shared → Prop}, Q ((items.size : Int) - 1, -1, items.size) s → wpAny (model prog w) A.in1 (Builtin.Slice.sliceApplied (.ref sl) (pure (items.size : Int))) Q E s := fun {Q} q => by
    unfold Builtin.Slice.sliceApplied Builtin.Slice.sliceFields
    refine wpAny_bind (wpAny_bind (wpAny_field hos hds (x := vl) rfl (wpAny_bind (wpAny_field hos hds (x := vu) rfl (wpAny_bind (wpAny_field hos hds (x := vs) rfl (wpAny_pure ?_)))))))
    refine wpAny_bind (HT.slicePart_ ps ?_)
    show wpAny _ _ (if ((-1 : Int) == 0) = true then _ else _) _ _ s
    rw [if_neg (by decide)]
    refine wpAny_bind (HT.slicePart_ pl (wpAny_bind (HT.slicePart_ pu (wpAny_bind (wpAny_pure ?_)))))
    have e : Builtin.Slice.slicePlaces ((items.size : Int) - 1) (-1) (-1) = items.size := places_rev _
    show wpAny _ _ (pure (((items.size : Int) - 1), (-1 : Int), Builtin.Slice.slicePlaces ((items.size : Int) - 1) (-1) (-1))) _ _ s
    rw [e]
    exact wpAny_pure q
  refine wpAny_bind (app ?_)
  have hno : ¬ ((((items.size : Int) - 1) == 0 && (-1 : Int) == 1 && items.size == items.size) = true) := by
    intro q
    rw [Bool.and_eq_true, Bool.and_eq_true] at q
    exact absurd q.1.2 (by decide)
  show wpAny _ _ (if (((items.size : Int) - 1) == 0 && (-1 : Int) == 1 && items.size == items.size) = true then _ else _) _ _ s
  rw [if_neg hno, pick_rev]
  first
    | exact wpAny_bind (m := Builtin.Tuple.tupleExact _) (wpAny_newObj_type (wpAny_pure ⟨_, rfl, wpAny_pure h⟩) hok)
    | exact wpAny_bind (m := Builtin.Tuple.tupleExact _) (wpAny_newObj_type (wpAny_bind (wpAny_pure (wpAny_pure ⟨_, rfl, wpAny_pure h⟩))) hok)
    | exact wpAny_bind (wpAny_bind (m := Builtin.Tuple.tupleExact _) (wpAny_newObj_type (wpAny_pure (wpAny_pure ⟨_, rfl, wpAny_pure h⟩)) hok))
    | exact wpAny_bind (wpAny_bind (m := Builtin.Tuple.tupleExact _) (wpAny_newObj_type (wpAny_pure ⟨_, rfl, wpAny_pure h⟩) hok))
end
end My
/-! A class made by a star, classmethods, x[k] by an own __getitem__, bool of a tuple, a tuple turned about, enumerate in a for. -/
namespace My
open PySem PySem.Spec PySem.Calls PyProof.Rows L2
/-! ### t[::-1] -/
def tRevT (K : PySem.W.Frag) (te : TE) : TE := fun σ H Q => te σ H fun x H1 => ∃ a xs, x = .ref a ∧ SqT K H1 a xs ∧ ∀ p, H1 p = none → Q (.ref p) (upd H1 p (.tup xs.reverse))
theorem pe_revT {X : Cx} {e : Expr} {te : TE} {k : Nat} {p1 p2 p3 pos : Pos} (he : PE X e te) : PE X (.Subscript e (.Slice none none (some (.UnaryOp .USub (.Constant (.int 1) k p1) p2)) p3) pos) (tRevT X.K te) := by
  refine ⟨fun pins s σ H Q I h => ?_⟩
  refine Subscript_ (thn (he.run pins s σ H _ I h) fun v t1 ⟨x, H1, I1, r1, a, xs, ex, hx, q⟩ => ?_)
  subst ex
  cases r1
  have step : PO X (some (.UnaryOp .USub (.Constant (.int 1) k p1) p2)) (tPart (tUn (rU fun i => .int (-i)) (tC (.int 1)))) := po_some (pe_un un_neg pe_int)
  refine wpAny_Slice (thn (po_none.run pins t1 σ H1 (fun o H2 => o = none ∧ H2 = H1) I1 ⟨rfl, rfl⟩) fun vl t2 ⟨l, H2, I2, pl, el, e2⟩ => ?_)
  subst el e2
  refine thn (po_none.run pins t2 σ H2 (fun o H3 => o = none ∧ H3 = H2) I2 ⟨rfl, rfl⟩) fun vu t3 ⟨u, H3, I3, pu, eu, e3⟩ => ?_
  subst eu e3
  refine thn (step.run pins t3 σ H3 (fun o H4 => o = some (-1) ∧ H4 = H3) I3 ⟨1, rfl, -1, rfl, rfl, rfl⟩) fun vs t4 ⟨o, H4, I4, ps, eo, e4⟩ => ?_
  subst eo e4
  have I5 : Inv X pins σ H4 { t4 with heap := t4.heap.push { cls := .type "slice", data := .fields #[vl, vu, vs] } } := I4.kept (t' := t4.toks) fun b ob q => Heap.get?_push_of_some _ q
  obtain ⟨its, r, ht, hz⟩ := I5.tuple hx
  have hlen := r.length
  show wpAny (model X.prog X.w) X.A (subscriptTail e (.Slice none none (some (.UnaryOp .USub (.Constant (.int 1) k p1) p2)) p3) (.ref a) (.ref t4.heap.objs.size)) (EP X pins σ Q) X.xe { t4 with heap := t4.heap.push { cls := .type "slice", data := .fields #[vl, vu, vs] } }
  refine tail_any (ops := [.ref a, .ref t4.heap.objs.size]) ht.typeIs (PyProof.Rows.slot_tuple_getitem.lookup) ?_ (by with_unfolding_all rfl)
  refine getItem_rev ht (Heap.IsSliceOf.new _ vl vu vs) pl pu ps ?_ (by rw [List.size_toArray]; omega)
  refine ⟨.ref _, _, I5.laid (t' := t4.toks) (o := .tup xs.reverse) (fun b ob q => Heap.get?_push_of_some _ q) (Nat.le_refl _) ?_, rfl, q _ (I5.hok.fresh (Nat.le_refl _))⟩
  exact ⟨by rw [List.length_reverse]; exact hz, _, r.reverse, ⟨_, Heap.get?_push_size _ rfl, rfl, _, rfl⟩⟩
/-! ### bool(t) -/
section
variable {prog : Program} {w : World} {A : Around} {E : Value → Shared → Prop} {s : Shared}
theorem bool_tup {t : Addr} {items : Array Value} {Q : Value → Shared → Prop} (hfit : (items.size : Int) < 2 ^ 63) (ht : IsTup s.heap t items) (h : ∀ tk, Q (.bool (!items.isEmpty)) { s with toks := tk }) : wpAny (model prog w) A (call (.type "bool") [.ref t]) Q E s := by
  refine callType_codes (T := "bool") (Bi := Builtin.«object.__init__») (Q₁ := fun r s' => ∃ b, r = .bool b ∧ Q r s') PySem.F.called_bool (PySem.F.typeCall_bool_1 _) PySem.F.entry_object_init ?_ ?_
  · refine codeAny_of_tree ?_
    show wpAny _ A.in1.in1 (do checkBuiltinCall "bool.__new__" ⟨[.type "bool", .ref t], []⟩; again (.builtin "bool.__new__" ⟨[.type "bool", .ref t], []⟩)) _ _ s
    refine wpAny_bind (wpAny_of_eq (PySem.F.newCall_bool_1 _) (wpAny_pure ⟨plainId_quiet (by decide +kernel) _, codeAny_builtin PySem.F.entry_bool_new ?_⟩))
    rw [Around.under_plainId (by decide +kernel) _]
    unfold Builtin.«bool.__new__»
    have f1 := PySem.F.conv_sub_bool
    have go : wpAny (model prog w) A.in1.in1 (truthy (.ref t)) (fun b s' => Q (.bool b) s') E s := truthy_tuple ht hfit (h _)
    refine wpAny_bind (m := isType (.type "bool")) (wpAny_pure ?_)
    refine wpAny_bind (m := isSubtype (.type "bool") (.type "bool")) (wpAny_of_eq f1 ?_)
    refine wpAny_bind (wpAny_pure ?_)
    refine wpAny_bind (m := truthy (.ref t)) (wpAny_mono go (fun b s' hq => ?_) fun _ _ y => y)
    exact wpAny_pure ⟨b, rfl, hq⟩
  · rintro obj s' ⟨b, rfl, hq⟩
    exact ⟨PySem.typeIs_bool _ _, PySem.F.args_object_init_2 _ _, object_init_meets PySem.F.called_bool.init.lookup PySem.F.called_bool.made (by decide) prog w A.in1 _ s' ⟨PySem.typeIs_bool _ _, rfl, hq⟩⟩
end
theorem call_boolT {X : Cx} : CallR X (.type "bool") (fun xs H Q => ∃ (a : Addr) (zs : List V), xs = [.ref a] ∧ SqT X.K H a zs ∧ Q (.bl (!zs.isEmpty)) H) := by
  intro pins s σ H xs us Q I r h
  obtain ⟨a, zs, rfl, hq, q⟩ := h
  obtain rfl := Vals.ref1 r
  obtain ⟨its, rv, pl, hz⟩ := I.tuple hq
  have hl := line63
  have hlen := rv.length
  refine bool_tup (by simp only [List.size_toArray]; omega) pl fun tk => ?_
  exact ⟨.bl (!zs.isEmpty), H, I.tok _, by rw [isEmpty_of rv]; rfl, q⟩
/-! ### a class whose __init__ takes a star -/
structure MakeR (P : Program) (w : World) (K : PySem.W.Frag) (mg : Str → Option Value) (base : Heap) (CX : CXT) (k : Nat) (x : Str) (C : Addr) (sp : Sp) : Prop where
  ex : ∃ f, Mk K C f ∧ FnR P w K mg base CX k f sp ∧ mg x = some (.ref C)
section
variable {X : Cx} {CX : CXT} {k : Nat} {C : Addr} {sp : Sp} {E : XK} {x : Str} {e : Expr} {es : List Expr} {te : TE} {t : TA} {p sp_ pos : Pos}
theorem pe_mkR (M : MakeR X.prog X.w X.K X.mg X.base CX k x C sp) (hr : Room (k + 1) X.A) (hg : Gl X x) (hx : Passes CX X E) (ha : PA X (e :: es) t) (hdb : (x == ("__debug__" : Str)) = false := by decide)
    (he : starEach (e :: es) X.env = (false, eval e X.env) :: starEach es X.env := by rfl) (hpl : (backTo pos (starEach es X.env)).any (·.1) = false := by rfl) : PE X (.Call (.Name x p) (e :: es) [] pos) (StX.tMakeR C sp E t) := by
  obtain ⟨f, mk, F, hm⟩ := M.ex
  exact StX.pe_makeR mk F hr hg hm hx ha hdb he hpl
/-- C() -/
theorem pe_mkR0 (M : MakeR X.prog X.w X.K X.mg X.base CX k x C sp) (hr : Room (k + 1) X.A) (hg : Gl X x) (hx : Passes CX X E) (hdb : (x == ("__debug__" : Str)) = false := by decide) : PE X (.Call (.Name x p) [] [] pos) (StX.tMakeR C sp E tNil) := by
  obtain ⟨f, mk, F, hm⟩ := M.ex
  refine ⟨fun pins s σ H Q I h => ?_⟩
  refine wpAny_Call_Name_kw (ld_glob I hg hm ?_ hdb)
  refine PySem.W.callWith_K0 (first := []) I.kIn mk.kp ?_
  exact StX.run_makeR mk F hr hx I .nil h
/-- C(*e) -/
def tMakeS (K : PySem.W.Frag) (C : Addr) (sp : Sp) (E : XK) (te : TE) : TE := fun σ H Q => te σ H fun y H1 => ∃ a xs, y = V.ref a ∧ (SqT K H1 a xs ∨ SqL K H1 a xs) ∧ ∀ x dx, H1 x = none → H1 dx = none → dx ≠ x →
  sp (V.ref x :: xs) (upd (upd H1 dx (.own x)) x (.ins C dx [])) (fun v H2 => v = .non ∧ Q (.ref x) H2) E
theorem pe_mkS (M : MakeR X.prog X.w X.K X.mg X.base CX k x C sp) (hr : Room (k + 1) X.A) (hg : Gl X x) (hx : Passes CX X E) (he : PE X e te) (hdb : (x == ("__debug__" : Str)) = false := by decide)
    (hst : starEach [.Starred e sp_] X.env = [(true, eval e X.env)] := by rfl) : PE X (.Call (.Name x p) [.Starred e sp_] [] pos) (tMakeS X.K C sp E te) := by
  obtain ⟨f, mk, F, hm⟩ := M.ex
  refine ⟨fun pins s σ H Q I h => ?_⟩
  refine wpAny_Call_Name_kw (ld_glob I hg hm ?_ hdb)
  refine PySem.W.callWith_S (h₀ := X.base) I.ok.mod.kin mk.kp (thn (he.run pins s σ H _ I h) fun v t1 ⟨y, H1, I1, ry, a, xs, ey, hxs, q⟩ => ?_) hst
  subst ey
  obtain rfl : v = Value.ref a := ry
  exact StX.star_any I1 hxs fun us t2 I2 rv => ⟨I2.kIn, StX.run_makeR mk F hr hx I2 rv q⟩
end
/-! ### classmethods -/
theorem fnR_of {P : Program} {w : World} {K : PySem.W.Frag} {mg : Str → Option Value} {base : Heap} {CX : CXT} {k : Nat} {f : Addr} {fd : FuncData} {ps : List Str} {sp : Sp} (F : FnOk P w K mg base CX k f fd ps sp) (b : L2.Binds K fd ps []) : FnR P w K mg base CX k f sp := by
  intro A outer s H us vs Q E hr e0 r hsp
  have hl : (us ++ []).length = ps.length := by
    rw [List.append_nil, ← r.length]
    exact F.len _ _ _ _ hsp
  have hb := b s us (e0.mod.kin.keeps fun b o e => (e0.bs b o e).1) hl
  rw [List.append_nil] at hb
  exact F.run A outer s H ⟨us, []⟩ us vs Q E hr e0 hb r hsp
structure ClsAt (P : Program) (w : World) (K : PySem.W.Frag) (mg : Str → Option Value) (base : Heap) (CX : CXT) (k : Nat) (C : Addr) (m : Str) (sp : Sp) : Prop where
  ex : ∃ mc p g, ClX.CRead K C mc ∧ ClX.CMet K C mc m p g ∧ FnR P w K mg base CX k g sp
theorem pe_cm {X : Cx} {CX : CXT} {k : Nat} {C : Addr} {sp : Sp} {E : XK} {o e : Expr} {es : List Expr} {m : Str} {pos apos : Pos} {ta : TE} {t : TA} {pl : Sem Bool} (M : ClsAt X.prog X.w X.K X.mg X.base CX k C m sp) (hr : Room k X.A) (hx : Passes CX X E) (he : PE X o ta) (ha : PA X (e :: es) t)
    (hst : starEach (e :: es) X.env = (false, eval e X.env) :: starEach es X.env := by rfl) (hpl : (backTo pos (starEach es X.env)).any (·.1) = false := by rfl)
    (ht : eval (.Call (.Attribute o m apos) (e :: es) [] pos) X.env = (do
      let ov ← eval o X.env
      standAt apos.atName
      let (f, first) ← holding [ov] (getMethod ov m pl)
      callWith pos f first (backTo pos (starEach (e :: es) X.env)) (backToKw pos (keywordEach [] X.env))) := by rfl) :
    PE X (.Call (.Attribute o m apos) (e :: es) [] pos) (ClX.tCMeth C sp E ta t) := by
  obtain ⟨mc, p, g, r, c, F⟩ := M.ex
  exact ClX.pe_cmeth he r c F hr hx ha hst hpl ht
/-! ### x[k] by an own __getitem__ -/
structure GetAt (P : Program) (w : World) (K : PySem.W.Frag) (mg : Str → Option Value) (base : Heap) (CX : CXT) (k : Nat) (C : Addr) (ps : List Str) (sp : Sp) : Prop where
  ex : ∃ f fd, PySem.W.findIn K (.ref C) "__getitem__" = some (some (.ref f)) ∧ PySem.W.isFn K (.ref f) = true ∧ PySem.W.fnIn K f = true ∧ FnOk P w K mg base CX k f fd ps sp ∧ L2.Binds K fd ps []
def tGet (C : Addr) (sp : Sp) (E : XK) (ta tb : TE) : TE := fun σ H Q => ta σ H fun x H1 => tb σ H1 fun y H2 => ∃ a dx fs, x = .ref a ∧ H2 a = some (.ins C dx fs) ∧ sp [x, y] H2 Q E
theorem pe_get {X : Cx} {CX : CXT} {k : Nat} {C : Addr} {ps : List Str} {sp : Sp} {E : XK} {a b : Expr} {ta tb : TE} {pos : Pos} (M : GetAt X.prog X.w X.K X.mg X.base CX k C ps sp) (hr : Room (k + 1) X.A) (hx : Passes CX X E) (ha : PE X a ta) (hb : PE X b tb)
    (hsl : ∀ (x : Addr) (i : Value), subscripted b true (.ref x) i = runValue (.builtin "lifetime.subscript" ⟨[.ref x, i], []⟩) := by intro _ _; with_unfolding_all rfl) : PE X (.Subscript a b pos) (tGet C sp E ta tb) := by
  obtain ⟨f, fd, hs, hf, hfn, F, hbd⟩ := M.ex
  refine ⟨fun pins s σ H Q I h => ?_⟩
  refine Subscript_ (binT ha hb I h fun v u s2 x y H2 I2 rx ry q => ?_)
  obtain ⟨p, dx, fs, rfl, hp, hsp⟩ := q
  obtain rfl : v = Value.ref p := rx
  obtain ⟨ox, od, J, _⟩ := ins_plain I2 hp
  obtain ⟨m', hF⟩ := I2.fr
  have U : Und X k X.A.in1 := (Und.here hr).in1
  exact PySem.W.sub_K hF I2.ok.mod.kin J hs hfn hf (run_at (vs := [.ref p, y]) F hbd hx U I2 (.cons rfl (.cons ry .nil)) hsp) (hsl _ _)
end My
/-! A class made by a star, a classmethod, an own __getitem__, from what the top finds. -/
namespace My
open PySem PySem.Spec PyProof.Rows L2
theorem nm_at : Sup.Nm "at" := ⟨by decide, by decide, by decide, by decide, fun _ _ _ _ _ _ _ _ _ _ _ _ => rfl⟩
theorem nm_value : Sup.Nm "value" := ⟨by decide, by decide, by decide, by decide, fun _ _ _ _ _ _ _ _ _ _ _ _ => rfl⟩
structure HasCM (K : PySem.W.Frag) (C : Addr) (m qual : Str) (st : Stmt) : Prop where
  ex : ∃ mc p g fd, ClX.CRead K C mc ∧ ClX.CMet K C mc m p g ∧ Fun K m qual st g fd
section
variable {P : Program} {w : World} {K : PySem.W.Frag} {mg : Str → Option Value} {base : Heap} {CX : CXT} {k : Nat} {x m qual : Str} {st : Stmt} {ps ks : List Str} {sp : Sp} {C : Addr}
theorem makeR_at (A : HasM K C "__init__" qual st) (hx : mg x = some (.ref C)) (mk : PySem.W.makesIn K C = true) (kp : PySem.W.keepIn K (.ref C) = true)
    (ok : ∀ (f : Addr) (oc : Value) (od : Option Addr) (kV doc pm : Value) (an : Option Addr) (cdv ct : Value) (osl : Array (Option Value)), K.lookup f = some ⟨oc, od, .func (PySem.W.fnOf "__init__" qual (defArgs st) (defBody st) (defScope st) .none kV doc pm an cdv ct), osl⟩ → PySem.W.codeIn K cdv qual = true → FnR P w K mg base CX k f sp) : MakeR P w K mg base CX k x C sp := by
  obtain ⟨f, fd, h1, h2, F⟩ := A.ex
  obtain ⟨oc, od, kV, doc, pm, an, cdv, ct, osl, rfl, lk, hcd⟩ := F.ex
  exact ⟨f, ⟨mk, h1, h2, kp⟩, ok f _ _ _ _ _ _ _ _ _ lk hcd, hx⟩
theorem cls_at (A : HasCM K C m qual st) (ok : ∀ f fd, Fun K m qual st f fd → FnOk P w K mg base CX k f fd ps sp) (b : BindW m qual st ps) : ClsAt P w K mg base CX k C m sp := by
  obtain ⟨mc, p, g, fd, h1, h2, F⟩ := A.ex
  exact ⟨mc, p, g, h1, h2, fnR_of (ok g fd F) (F.binds b)⟩
theorem get_at (A : HasM K C "__getitem__" qual st) (ok : ∀ f fd, Fun K "__getitem__" qual st f fd → FnOk P w K mg base CX k f fd ps sp) (b : BindW "__getitem__" qual st ps) : GetAt P w K mg base CX k C ps sp := by
  obtain ⟨f, fd, h1, h2, F⟩ := A.ex
  have F' := F
  obtain ⟨oc, od, kV, doc, pm, an, cdv, ct, osl, rfl, lk, _⟩ := id F.ex
  refine ⟨f, _, h1, h2, ?_, ok f _ F', F'.binds b⟩
  unfold PySem.W.fnIn
  rw [lk]
end
end My
/-! A text times an int. -/
namespace My
open PySem PySem.Spec PyProof.Rows L2
def mulS (a : Str) (n : Nat) : Str := ⟨(List.replicate n a.cps).foldl (· ++ ·) #[]⟩
def rMulS : R2 := fun x y H Q => ∃ a n, x = .str a ∧ y = .int n ∧ 2 ≤ n ∧ n ≤ 1000 ∧ 1 ≤ a.length ∧ a.length ≤ 1000 ∧ (mulS a n.toNat).length ≤ sizeLine ∧ Q (.str (mulS a n.toNat)) H
theorem op_mulS {X : Cx} : OpR X (binaryOp .Mult) rMulS := by
  intro pins s σ H x y v u Q I rx ry h
  obtain ⟨a, n, rfl, rfl, n1, n2, a1, a2, hz, q⟩ := h
  obtain ⟨t, rfl⟩ := rx
  obtain ⟨t', rfl⟩ := ry
  have e1 : (n == 1 || a.length == 0) = false := by
    rw [Bool.or_eq_false_iff, beq_eq_false_iff_ne, beq_eq_false_iff_ne]
    exact ⟨by omega, by omega⟩
  have hlo : ¬ n < -(2 ^ 63 : Int) := by omega
  have h2 : ¬ n ≥ 2 ^ 63 := by omega
  have hd : (2 ^ 63 - 1 : Int) / n ≥ 1000 := by
    have : (1000 : Int) * n ≤ 2 ^ 63 - 1 := by omega
    exact (Int.le_ediv_iff_mul_le (by omega)).mpr this
  have hl : a.length * n.toNat ≤ 1000000 := by
    have := Nat.mul_le_mul a2 (show n.toNat ≤ 1000 by omega)
    omega
  refine P.mul_str (by rw [decide_eq_false hlo, decide_eq_false h2]; rfl) (fun _ _ => by omega) (fun _ _ => ?_) ?_
  · unfold Builtin.Str.tooLong
    have hs := sizeLine_eq
    first | exact decide_eq_false (by omega) | simp; omega
  · rw [if_neg (show ¬ n < 1 by omega), e1, if_neg (by decide)]
    first
      | exact ⟨hz, ⟨.str (mulS a n.toNat), H, I.tok _, ⟨_, rfl⟩, q⟩⟩
      | exact ⟨.str (mulS a n.toNat), H, I.tok _, ⟨_, rfl⟩, q⟩
end My
/-! == and != of data with any texts. -/
namespace My
open PySem PySem.Spec PyProof.Rows L2
section
variable {X : Cx}
def rEqP (K : PySem.W.Frag) : R2 := fun x y H Q => ∃ d e, Dp K H x d ∧ Dp K H y e ∧ d.plain = true ∧ e.plain = true ∧ min d.depth e.depth ≤ 60 ∧ Q (.bl (PyData.eqv d e)) H
def rNeP (K : PySem.W.Frag) : R2 := fun x y H Q => ∃ d e, Dp K H x d ∧ Dp K H y e ∧ d.plain = true ∧ e.plain = true ∧ min d.depth e.depth ≤ 60 ∧ Q (.bl (!PyData.eqv d e)) H
theorem op_eqP (hu : X.A.units + 64 < cLine) : OpR X (compareOp .Eq) (rEqP X.K) := by
  intro pins s σ H x y v u Q I rx ry h
  obtain ⟨d, e, hd, he, sd, se, dp, q⟩ := h
  obtain ⟨as, r1⟩ := Dp.reads I d x v hd rx
  obtain ⟨bs, r2⟩ := Dp.reads I e y u he ry
  exact SeqAt.eq_plain r1 r2 sd se (by omega) ⟨.bl _, H, I, rfl, q⟩
theorem op_neP (hu : X.A.units + 64 < cLine) : OpR X (compareOp .NotEq) (rNeP X.K) := by
  intro pins s σ H x y v u Q I rx ry h
  obtain ⟨d, e, hd, he, sd, se, dp, q⟩ := h
  obtain ⟨as, r1⟩ := Dp.reads I d x v hd rx
  obtain ⟨bs, r2⟩ := Dp.reads I e y u he ry
  exact SeqAt.ne_plain r1 r2 sd se (by omega) ⟨.bl _, H, I, rfl, q⟩
theorem plain_strs : ∀ zs : List Str, PyData.plainAll (zs.map PyData.str) = true
  | [] => rfl
  | z :: zs => by
    show (true && PyData.plainAll (zs.map PyData.str)) = true
    rw [plain_strs zs]
    rfl
end
end My
/-! Texts as lists of signs: numbers written and read, slices, words. -/
namespace TX
open PySem PySem.Spec PyProof.Rows L2 TL
def isDig (c : Nat) : Bool := decide (48 ≤ c) && decide (c ≤ 57)
theorem isDig_iff {c : Nat} : isDig c = true ↔ 48 ≤ c ∧ c ≤ 57 := by
  unfold isDig
  rw [Bool.and_eq_true, decide_eq_true_iff, decide_eq_true_iff]
theorem dig_mem (c : Nat) : decide (c ∈ tl ("0123456789" : Str)) = isDig c := by
  have e : tl ("0123456789" : Str) = [48, 49, 50, 51, 52, 53, 54, 55, 56, 57] := by decide +kernel
  rw [e]
  by_cases h : 48 ≤ c ∧ c ≤ 57
  · rw [isDig_iff.mpr h]
    have : c = 48 ∨ c = 49 ∨ c = 50 ∨ c = 51 ∨ c = 52 ∨ c = 53 ∨ c = 54 ∨ c = 55 ∨ c = 56 ∨ c = 57 := by omega
    refine decide_eq_true ?_
    simpa using this
  · have h2 : isDig c = false := by
      rw [Bool.eq_false_iff]
      exact fun z => h (isDig_iff.mp z)
    rw [h2]
    refine decide_eq_false fun z => h ?_
    have z : c = 48 ∨ c = 49 ∨ c = 50 ∨ c = 51 ∨ c = 52 ∨ c = 53 ∨ c = 54 ∨ c = 55 ∨ c = 56 ∨ c = 57 := by simpa using z
    omega
/-- the signs may stand for a number of at most 60 figures -/
def okD (l : List Nat) : Bool := decide (1 ≤ l.length) && (decide (l.length ≤ 60) && l.all isDig)
/-- .. without zeros ahead -/
def dg (l : List Nat) : Option Int := if okD l = true then (if 1 < l.length ∧ l.head? = some 48 then none else some ((NumText.digitsVal l : Nat) : Int)) else none
theorem okD_all {l : List Nat} (h : okD l = true) : 1 ≤ l.length ∧ l.length ≤ 60 ∧ NumText.AllDigits l := by
  unfold okD at h
  rw [Bool.and_eq_true, Bool.and_eq_true, decide_eq_true_iff, decide_eq_true_iff, List.all_eq_true] at h
  exact ⟨h.1, h.2.1, fun c hc => isDig_iff.mp (h.2.2 c hc)⟩
theorem okD_of {l : List Nat} (h1 : 1 ≤ l.length) (h2 : l.length ≤ 60) (h3 : NumText.AllDigits l) : okD l = true := by
  unfold okD
  rw [Bool.and_eq_true, Bool.and_eq_true, decide_eq_true_iff, decide_eq_true_iff, List.all_eq_true]
  exact ⟨h1, h2, fun c hc => isDig_iff.mpr (h3 c hc)⟩
theorem int_of {x : Str} (h : okD (tl x) = true) : intText? x = some ((NumText.digitsVal (tl x) : Nat) : Int) ∧ x.length ≤ 640 := by
  obtain ⟨h1, h2, h3⟩ := okD_all h
  rw [← len_tl] at h1 h2
  refine ⟨intText_digits h3 (fun z => ?_) (by omega), by omega⟩
  rw [len_tl] at h1
  have : (tl x).length = 0 := by
    show x.cps.toList.length = 0
    rw [z]
    rfl
  omega
theorem val_lt : ∀ (l : List Nat) (a : Nat), NumText.AllDigits l → l.foldl (fun acc c => acc * 10 + (c - 48)) a < (a + 1) * 10 ^ l.length
  | [], a, _ => by
    show a < (a + 1) * 1
    omega
  | c :: l, a, h => by
    have hc := h.head
    have ih := val_lt l (a * 10 + (c - 48)) h.tail
    show l.foldl _ (a * 10 + (c - 48)) < (a + 1) * 10 ^ (l.length + 1)
    have e : (a + 1) * 10 ^ (l.length + 1) = ((a + 1) * 10) * 10 ^ l.length := by rw [Nat.pow_succ, Nat.mul_assoc, Nat.mul_comm (10 ^ l.length)]
    rw [e]
    exact Nat.lt_of_lt_of_le ih (Nat.mul_le_mul_right _ (by omega))
theorem dg_lt {l : List Nat} {z : Int} (h : dg l = some z) : 0 ≤ z ∧ z < 10 ^ 60 := by
  unfold dg at h
  split at h
  · rename_i ok
    obtain ⟨h1, h2, h3⟩ := okD_all ok
    split at h
    · cases h
    · have e := Option.some.inj h
      have v := val_lt l 0 h3
      have p : (0 + 1) * 10 ^ l.length ≤ 10 ^ 60 := by
        rw [Nat.zero_add, Nat.one_mul]
        exact Nat.pow_le_pow_right (by decide) h2
      have q : NumText.digitsVal l < 10 ^ 60 := Nat.lt_of_lt_of_le v p
      have r : ((10 ^ 60 : Nat) : Int) = (10 : Int) ^ 60 := by simp
      rw [← e, ← r]
      omega
  · cases h
theorem numL_head {n : Nat} (h : 0 < n) : (numL n).head? ≠ some 48 := by
  induction n using Nat.strongRecOn with
  | _ n ih =>
    by_cases c : n < 10
    · rw [numL_lt c]
      intro z
      have := Option.some.inj z
      omega
    · rw [numL_step (by omega)]
      have g := ih (n / 10) (by omega) (by omega)
      cases e : numL (n / 10) with
      | nil => exact absurd e (numL_ne _)
      | cons a l =>
        rw [e] at g
        exact g
theorem dg_num {n : Nat} (h : n < 10 ^ 60) : dg (numL n) = some (n : Int) := by
  have l1 : 1 ≤ (numL n).length := by
    have := numL_ne n
    cases e : numL n with
    | nil => exact absurd e this
    | cons c l => exact Nat.succ_le_succ (Nat.zero_le _)
  unfold dg
  rw [if_pos (okD_of l1 (numL_len (by decide) h) (numL_digits n)), if_neg ?_, numL_val]
  rintro ⟨g1, g2⟩
  by_cases z : 0 < n
  · exact numL_head z g2
  · have : n = 0 := by omega
    rw [this, numL_lt (by decide)] at g1
    exact absurd g1 (by decide)
/-! ### slices -/
theorem tl_S (l : List Nat) : tl (⟨l.toArray⟩ : Str) = l := rfl
theorem cut_to1 (x : Str) : tl (cutS x none (some 1)) = (tl x).take 1 := by
  show ((tl x).drop 0).take (HT.sIx x.length x.length (some ((1 : Nat) : Int)) - 0) = _
  rw [HT.sIx_nat, List.drop_zero, Nat.sub_zero, len_tl]
  by_cases h : 1 ≤ (tl x).length
  · rw [Nat.min_eq_left h]
  · rw [Nat.min_eq_right (by omega), List.take_of_length_le (Nat.le_refl _), List.take_of_length_le (by omega)]
theorem cut_from1 (x : Str) : tl (cutS x (some 1) none) = (tl x).drop 1 := by
  show ((tl x).drop (HT.sIx x.length 0 (some ((1 : Nat) : Int)))).take (HT.sIx x.length x.length none - HT.sIx x.length 0 (some ((1 : Nat) : Int))) = _
  rw [HT.sIx_nat, HT.sIx_none, len_tl]
  by_cases h : 1 ≤ (tl x).length
  · rw [Nat.min_eq_left h, List.take_of_length_le (by rw [List.length_drop]; exact Nat.le_refl _)]
  · have e : tl x = [] := List.eq_nil_of_length_eq_zero (by omega)
    rw [e]
    rfl
theorem sIx_m1 (n d : Nat) : HT.sIx n d (some (-1)) = n - 1 := by
  have e : HT.sIx n d (some (-1)) = ((-1 : Int) + (n : Int)).toNat := by
    unfold HT.sIx
    exact if_pos (by decide)
  rw [e]
  omega
theorem cut_last (x : Str) : tl (cutS x (some (-1)) none) = (tl x).drop ((tl x).length - 1) := by
  show ((tl x).drop (HT.sIx x.length 0 (some (-1)))).take (HT.sIx x.length x.length none - HT.sIx x.length 0 (some (-1))) = _
  rw [sIx_m1, HT.sIx_none, len_tl, List.take_of_length_le (by rw [List.length_drop]; exact Nat.le_refl _)]
theorem cut_but (x : Str) : tl (cutS x none (some (-1))) = (tl x).dropLast := by
  show ((tl x).drop 0).take (HT.sIx x.length x.length (some (-1)) - 0) = _
  rw [sIx_m1, List.drop_zero, Nat.sub_zero, len_tl, List.dropLast_eq_take]
theorem tl_eq {x y : Str} : x = y ↔ tl x = tl y := ⟨fun h => by rw [h], ext_tl⟩
theorem str_eq {x y : Str} : decide (V.str x = V.str y) = decide (tl x = tl y) := by
  by_cases h : tl x = tl y
  · rw [decide_eq_true h, ext_tl h, decide_eq_true rfl]
  · rw [decide_eq_false h, decide_eq_false fun z => h (by rw [V.str.inj z])]
theorem beq_str {x y : Str} : (x == y) = decide (tl x = tl y) := by
  by_cases h : tl x = tl y
  · rw [decide_eq_true h, ext_tl h, beq_self_eq_true]
  · rw [decide_eq_false h]
    rw [Bool.eq_false_iff]
    intro z
    exact h (by rw [beq_iff_eq.mp z])
/-! ### numbers written -/
theorem tl_nat (n : Nat) : tl (Str.ofString (toString ((n : Nat) : Int))) = numL n := tl_num n
theorem tl_neg (m : Nat) : tl (Str.ofString (toString (-((m + 1 : Nat) : Int)))) = 45 :: numL (m + 1) := by
  have e : (-((m + 1 : Nat) : Int)) = Int.negSucc m := rfl
  rw [e]
  have e2 : (toString (Int.negSucc m) : String) = "-" ++ toString (m + 1) := rfl
  have e3 : (toString (m + 1) : String) = toString (((m + 1 : Nat)) : Int) := rfl
  rw [e2, e3, tl_ofString, String.toList_append, List.map_append]
  show [45] ++ _ = _
  rw [← tl_ofString, tl_num]
  rfl
/-- an int as signs -/
def intL (i : Int) : List Nat := if i < 0 then 45 :: numL i.natAbs else numL i.natAbs
theorem tl_int (i : Int) : tl (Str.ofString (toString i)) = intL i := by
  unfold intL
  by_cases h : i < 0
  · obtain ⟨m, rfl⟩ : ∃ m : Nat, i = -((m + 1 : Nat) : Int) := ⟨i.natAbs - 1, by omega⟩
    rw [if_pos h, tl_neg, Int.natAbs_neg, Int.natAbs_natCast]
  · obtain ⟨m, rfl⟩ : ∃ m : Nat, i = (m : Int) := ⟨i.natAbs, by omega⟩
    rw [if_neg h, tl_num, Int.natAbs_natCast]
theorem intL_free {i : Int} {s : Nat} (h : s < 48 ∨ 57 < s) (h2 : s ≠ 45) : s ∉ intL i := by
  unfold intL
  split
  · intro z
    rcases List.mem_cons.mp z with z | z
    · exact h2 z
    · exact numL_free h z
  · exact numL_free h
end TX
/-! Lines as texts: what is read of words. -/
namespace TX
open PySem PySem.Spec PyProof.Rows L2 TL
/-- a number with its sign -/
def sg (l : List Nat) : Option Int := if l.take 1 = [45] then (match dg (l.drop 1) with | none => none | some k => if k = 0 then none else some (0 - k)) else dg l
/-- a slope -/
def rs (l : List Nat) : Option Int :=
  if l.drop (l.length - 1) = [109] then (if l = [109] then some 1 else if l = [45, 109] then some (-1) else match sg l.dropLast with | none => none | some k => if k = 0 ∨ k = 1 ∨ k = -1 then none else some k) else none
/-- what is read: the first wrong word, or the parts -/
inductive RL where
  | word (k : Nat)
  | line (a b : Int)
  deriving DecidableEq
def readM (s : Int) (rest : List (List Nat)) : RL :=
  match rest with
  | [] => .line s 0
  | w1 :: rest => if w1 = [43] ∨ w1 = [45] then
      (match rest with
      | [] => .word 2
      | w2 :: rest => match dg w2 with
        | none => .word 2
        | some k => if k = 0 then .word 2 else if rest = [] then .line s (if w1 = [43] then k else 0 - k) else .word 3)
    else .word 1
def readL (ws : List (List Nat)) : RL :=
  match ws with
  | [] => .word 0
  | w0 :: rest => match rs w0 with
    | none => (match sg w0 with | none => .word 0 | some b => if rest = [] then .line 0 b else .word 1)
    | some s => readM s rest
/-! ### what is written is read -/
theorem dg_head {l : List Nat} {c : Nat} {r : List Nat} (e : l = c :: r) (h : isDig c = false) : dg l = none := by
  unfold dg
  rw [if_neg]
  intro z
  have := (okD_all z).2.2 c (by rw [e]; exact List.mem_cons_self)
  rw [Bool.eq_false_iff] at h
  exact h (isDig_iff.mpr this)
theorem take1_num (n : Nat) : (numL n).take 1 ≠ [45] := by
  cases e : numL n with
  | nil => exact absurd e (numL_ne n)
  | cons c l =>
    intro z
    have z : [c] = [45] := z
    have : c = 45 := (List.cons.inj z).1
    have h := numL_digits n c (by rw [e]; exact List.mem_cons_self)
    omega
theorem sg_int {i : Int} (h : i.natAbs < 10 ^ 60) : sg (intL i) = some i := by
  unfold sg intL
  by_cases c : i < 0
  · rw [if_pos c, if_pos (show (45 :: numL i.natAbs).take 1 = [45] from rfl)]
    show (match dg (numL i.natAbs) with | none => none | some k => if k = 0 then none else some (0 - k)) = _
    rw [dg_num h]
    show (if ((i.natAbs : Nat) : Int) = 0 then none else some (0 - ((i.natAbs : Nat) : Int))) = _
    rw [if_neg (by omega)]
    congr 1
    omega
  · rw [if_neg c, if_neg (take1_num _), dg_num h]
    congr 1
    omega
theorem last_m (l : List Nat) : (l ++ [109]).drop ((l ++ [109]).length - 1) = [109] := by
  rw [List.length_append]
  show List.drop (l.length + 1 - 1) _ = _
  rw [Nat.add_sub_cancel, List.drop_left]
theorem rs_int {i : Int} (h : i.natAbs < 10 ^ 60) (h0 : i ≠ 0) (h1 : i ≠ 1) (h2 : i ≠ -1) : rs (intL i ++ [109]) = some i := by
  have n1 : ¬ intL i ++ [109] = [109] := fun z => by
    have e := congrArg List.length z
    rw [List.length_append] at e
    have l0 : (intL i).length = 0 := by
      have : ([109] : List Nat).length = 1 := rfl
      omega
    have l1 : intL i = [] := List.eq_nil_of_length_eq_zero l0
    unfold intL at l1
    split at l1
    · cases l1
    · exact numL_ne _ l1
  have n2 : ¬ intL i ++ [109] = [45, 109] := fun z => by
    have e : intL i = [45] := List.append_inj_left' (t₁ := [109]) (t₂ := [109]) (by rw [z]; rfl) rfl
    unfold intL at e
    split at e
    · have := (List.cons.inj e).2
      exact numL_ne _ this
    · have := numL_digits i.natAbs 45 (by rw [e]; exact List.mem_singleton.mpr rfl)
      omega
  unfold rs
  rw [if_pos (last_m _), if_neg n1, if_neg n2, List.dropLast_concat, sg_int h]
  show (if i = 0 ∨ i = 1 ∨ i = -1 then none else some i) = _
  rw [if_neg (by omega)]
theorem rs_no {i : Int} : rs (intL i) = none := by
  unfold rs
  rw [if_neg]
  intro z
  have hm : (109 : Nat) ∈ intL i := by
    have : (109 : Nat) ∈ (intL i).drop ((intL i).length - 1) := by rw [z]; exact List.mem_singleton.mpr rfl
    exact List.mem_of_mem_drop this
  exact intL_free (i := i) (by decide) (by decide) hm
/-- the slope as written -/
def headL (a : Int) : List Nat := if a = 1 then [109] else if a = -1 then [45, 109] else intL a ++ [109]
theorem rs_head {a : Int} (h : a.natAbs < 10 ^ 60) (h0 : a ≠ 0) : rs (headL a) = some a := by
  unfold headL
  split
  · rename_i c
    rw [c]
    decide
  · split
    · rename_i c
      rw [c]
      decide
    · rename_i h1 h2
      exact rs_int h h0 h1 h2
theorem headL_free {a : Int} : (32 : Nat) ∉ headL a := by
  unfold headL
  split
  · decide
  · split
    · decide
    · intro z
      rcases List.mem_append.mp z with z | z
      · exact intL_free (by decide) (by decide) z
      · exact absurd z (by decide)
/-- the words of a line's text -/
def lineWs (a b : Int) : List (List Nat) := if a = 0 then [intL b] else if b = 0 then [headL a] else [headL a, if 0 < b then [43] else [45], numL b.natAbs]
theorem read_line {a b : Int} (ha : a.natAbs < 10 ^ 60) (hb : b.natAbs < 10 ^ 60) : readL (lineWs a b) = .line a b := by
  unfold lineWs
  split
  · rename_i c
    show (match rs (intL b) with | none => _ | some s => _) = _
    rw [rs_no, sg_int hb, c]
    rfl
  · rename_i c
    split
    · rename_i d
      show (match rs (headL a) with | none => _ | some s => _) = _
      rw [rs_head ha c, d]
      rfl
    · rename_i d
      show (match rs (headL a) with | none => _ | some s => _) = _
      rw [rs_head ha c]
      show readM a [if 0 < b then [43] else [45], numL b.natAbs] = _
      by_cases g : 0 < b
      · rw [if_pos g]
        show (match dg (numL b.natAbs) with | none => _ | some k => _) = _
        rw [dg_num hb]
        show (if ((b.natAbs : Nat) : Int) = 0 then RL.word 2 else if ([] : List (List Nat)) = [] then RL.line a (if [43] = [43] then ((b.natAbs : Nat) : Int) else 0 - ((b.natAbs : Nat) : Int)) else .word 3) = _
        rw [if_neg (by omega), if_pos rfl, if_pos rfl]
        congr 1
        omega
      · rw [if_neg g]
        show (match dg (numL b.natAbs) with | none => _ | some k => _) = _
        rw [dg_num hb]
        show (if ((b.natAbs : Nat) : Int) = 0 then RL.word 2 else if ([] : List (List Nat)) = [] then RL.line a (if [45] = [43] then ((b.natAbs : Nat) : Int) else 0 - ((b.natAbs : Nat) : Int)) else .word 3) = _
        rw [if_neg (by omega), if_pos rfl, if_neg (by decide)]
        congr 1
        omega
theorem lineWs_free {a b : Int} : ∀ p ∈ lineWs a b, (32 : Nat) ∉ p := fun p hp => by
  unfold lineWs at hp
  split at hp
  · rw [List.mem_singleton.mp hp]
    exact intL_free (by decide) (by decide)
  · split at hp
    · rw [List.mem_singleton.mp hp]
      exact headL_free
    · simp only [List.mem_cons, List.mem_nil_iff, or_false] at hp
      rcases hp with rfl | rfl | rfl
      · exact headL_free
      · split <;> decide
      · exact numL_free (by decide)
theorem lineWs_ne {a b : Int} : lineWs a b ≠ [] := by
  unfold lineWs
  split
  · simp
  · split <;> simp
/-- split a joined text -/
theorem words_of {x : Str} {ps : List (List Nat)} (h : tl x = joinL [32] ps) (hne : ps ≠ []) (hf : ∀ p ∈ ps, (32 : Nat) ∉ p) : (Txt.split x " ").map tl = ps := by
  have ey : tl (" " : Str) = [32] := by decide +kernel
  rw [split_spl x " " (by rw [ey]; simp) (kind_ok (by decide +kernel)), ey, h]
  exact spl_join hne hf
theorem split_ne (x : Str) : ∃ w ws, (Txt.split x " ").map tl = w :: ws := by
  have ey : tl (" " : Str) = [32] := by decide +kernel
  rw [split_spl x " " (by rw [ey]; simp) (kind_ok (by decide +kernel)), ey]
  have : ∀ (l acc : List Nat) (k : Nat), ∃ w ws, spl [32] k acc l = w :: ws := by
    intro l
    induction l with
    | nil => intro acc k; exact ⟨acc, [], spl_nil _ _ _⟩
    | cons c r ih =>
      intro acc k
      cases k with
      | zero =>
        by_cases h : pre [32] (c :: r) = true
        · exact ⟨acc, _, spl_hit h⟩
        · rw [spl_miss (by simpa using h)]
          exact ih _ _
      | succ k =>
        show ∃ w ws, spl [32] k acc r = w :: ws
        exact ih _ _
  exact this _ _ _
theorem spl_len : ∀ (l acc : List Nat) (k : Nat), (spl [32] k acc l).length ≤ l.length + 1 ∧ ((spl [32] k acc l).map List.length).sum ≤ acc.length + l.length
  | [], acc, k => by
    rw [spl_nil]
    show 1 ≤ 1 ∧ acc.length + 0 ≤ acc.length + 0
    omega
  | c :: r, acc, 0 => by
    by_cases h : pre [32] (c :: r) = true
    · rw [spl_hit h]
      have := spl_len r [] ([32].length - 1)
      show (spl [32] _ [] r).length + 1 ≤ r.length + 1 + 1 ∧ acc.length + ((spl [32] _ [] r).map List.length).sum ≤ acc.length + (r.length + 1)
      have e : ([] : List Nat).length = 0 := rfl
      omega
    · rw [spl_miss (by simpa using h)]
      have := spl_len r (acc ++ [c]) 0
      rw [List.length_append] at this
      have e : ([c] : List Nat).length = 1 := rfl
      rw [List.length_cons]
      omega
  | c :: r, acc, k + 1 => by
    have := spl_len r acc k
    show (spl [32] k acc r).length ≤ r.length + 1 + 1 ∧ ((spl [32] k acc r).map List.length).sum ≤ acc.length + (r.length + 1)
    omega
theorem mem_sum : ∀ {l : List Nat} {n : Nat}, n ∈ l → n ≤ l.sum
  | a :: l, n, h => by
    rw [List.sum_cons]
    rcases List.mem_cons.mp h with rfl | h
    · omega
    · have := mem_sum h
      omega
/-- the words of a text: how many, how long -/
theorem words_len (x : Str) : (Txt.split x " ").length ≤ x.length + 1 ∧ ((Txt.split x " ").map (·.length)).sum ≤ x.length ∧ ∀ y ∈ Txt.split x " ", y.length ≤ x.length := by
  have ey : tl (" " : Str) = [32] := by decide +kernel
  have e := split_spl x " " (by rw [ey]; simp) (kind_ok (by decide +kernel))
  rw [ey] at e
  have h := spl_len (tl x) [] 0
  rw [← e, List.length_map, List.map_map, ← len_tl] at h
  have em : (Txt.split x " ").map (List.length ∘ tl) = (Txt.split x " ").map (·.length) := List.map_congr_left fun y _ => (len_tl y).symm
  rw [em] at h
  have e0 : ([] : List Nat).length = 0 := rfl
  refine ⟨h.1, by omega, fun y hy => ?_⟩
  have := mem_sum (List.mem_map_of_mem (f := fun z : Str => z.length) hy)
  omega
/-- the size of what is read -/
theorem sg_lt {l : List Nat} {z : Int} (h : sg l = some z) : z.natAbs < 10 ^ 60 := by
  unfold sg at h
  split at h
  · cases e : dg (l.drop 1) with
    | none => rw [e] at h; cases h
    | some k =>
      rw [e] at h
      have := dg_lt e
      have h : (if k = 0 then none else some (0 - k)) = some z := h
      split at h
      · cases h
      · have := Option.some.inj h
        omega
  · have := dg_lt h
    omega
theorem rs_lt {l : List Nat} {z : Int} (h : rs l = some z) : z.natAbs < 10 ^ 60 := by
  unfold rs at h
  split at h
  · split at h
    · rw [← Option.some.inj h]; decide
    · split at h
      · rw [← Option.some.inj h]; decide
      · cases e : sg l.dropLast with
        | none => rw [e] at h; cases h
        | some k =>
          rw [e] at h
          have h : (if k = 0 ∨ k = 1 ∨ k = -1 then none else some k) = some z := h
          split at h
          · cases h
          · rw [← Option.some.inj h]
            exact sg_lt e
  · cases h
/-- parts of less than 61 figures -/
def RL.ok : RL → Prop
  | .word _ => True
  | .line a b => a.natAbs < 10 ^ 60 ∧ b.natAbs < 10 ^ 60
theorem readM_ok {s : Int} {rest : List (List Nat)} (h : s.natAbs < 10 ^ 60) : (readM s rest).ok := by
  unfold readM
  split
  · exact ⟨h, by decide⟩
  · split
    · split
      · trivial
      · split
        · trivial
        · rename_i e
          have := dg_lt e
          split
          · trivial
          · split
            · refine ⟨h, ?_⟩
              split <;> omega
            · trivial
    · trivial
theorem readL_ok (ws : List (List Nat)) : (readL ws).ok := by
  unfold readL
  split
  · trivial
  · split
    · split
      · trivial
      · rename_i e
        split
        · exact ⟨by decide, sg_lt e⟩
        · trivial
    · rename_i e
      exact readM_ok (rs_lt e)
end TX
/-! Values of other kinds, ints shown, what stays where the pen and the tables change. -/
namespace My
open PySem PySem.Spec PyProof.Rows L2
/-! ### values of other kinds -/
/-- the built-in kind of a value -/
inductive Ty0 (H : Hp) : V → String → Prop where
  | non : Ty0 H .non "NoneType"
  | bl (b : Bool) : Ty0 H (.bl b) "bool"
  | int (i : Int) : Ty0 H (.int i) "int"
  | str (x : Str) : Ty0 H (.str x) "str"
  | lst {a : Addr} {xs : List V} (e : H a = some (.lst xs)) : Ty0 H (.ref a) "list"
  | tup {a : Addr} {xs : List V} (e : H a = some (.tup xs)) : Ty0 H (.ref a) "tuple"
  | dK {a : Addr} {kvs : List (Key × V)} (e : H a = some (.dK kvs)) : Ty0 H (.ref a) "dict"
theorem Ty0.tyx {K : PySem.W.Frag} {H : Hp} {v : V} {t : String} (h : Ty0 H v t) : TyX K H v (.type t) := by
  cases h with
  | non => exact .base .non
  | bl b => exact .base (.bl b)
  | int i => exact .base (.int i)
  | str x => exact .base (.str x)
  | lst e => exact .base (.lst e)
  | tup e => exact .base (.tup e)
  | dK e => exact .base (.dK e)
def isI : V → Bool
  | .int _ => true
  | _ => false
theorem isI_int {v : V} (h : isI v = true) : ∃ i, v = .int i := by
  cases v with
  | int i => exact ⟨i, rfl⟩
  | _ => cases h
def isT (t : String) : Bool := t == "int"
theorem Ty0.isI {H : Hp} {v : V} {t : String} (h : Ty0 H v t) : My.isI v = isT t := by cases h <;> rfl
theorem Ty0.kint {K : PySem.W.Frag} {H : Hp} {v : V} {t : String} (h : Ty0 H v t) : ∃ b, PySem.W.kitOne K (.type t) (.type "int") = some b ∧ (b = true → ∃ c, PySem.W.kitOne K (.type t) (.type "bool") = some c ∧ My.isI v = !c) ∧ (b = false → My.isI v = false) := by
  cases h with
  | non => exact ⟨false, kit_ty (by decide +kernel), (fun z => Bool.noConfusion z), fun _ => rfl⟩
  | bl b => exact ⟨true, kit_ty (by decide +kernel), fun _ => ⟨true, kit_ty (by decide +kernel), rfl⟩, (fun z => Bool.noConfusion z)⟩
  | int i => exact ⟨true, kit_ty (by decide +kernel), fun _ => ⟨false, kit_ty (by decide +kernel), rfl⟩, (fun z => Bool.noConfusion z)⟩
  | str x => exact ⟨false, kit_ty (by decide +kernel), (fun z => Bool.noConfusion z), fun _ => rfl⟩
  | lst e => exact ⟨false, kit_ty (by decide +kernel), (fun z => Bool.noConfusion z), fun _ => rfl⟩
  | tup e => exact ⟨false, kit_ty (by decide +kernel), (fun z => Bool.noConfusion z), fun _ => rfl⟩
  | dK e => exact ⟨false, kit_ty (by decide +kernel), (fun z => Bool.noConfusion z), fun _ => rfl⟩
theorem Ty0.keep {H H' : Hp} {v : V} {t : String} (h : Ty0 H v t) (k : ∀ b o, H b = some o → (∀ p, v = .ref p → p = b → H' b = some o)) : Ty0 H' v t := by
  cases h with
  | non => exact .non
  | bl b => exact .bl b
  | int i => exact .int i
  | str x => exact .str x
  | lst e => exact .lst (k _ _ e _ rfl rfl)
  | tup e => exact .tup (k _ _ e _ rfl rfl)
  | dK e => exact .dK (k _ _ e _ rfl rfl)
theorem Ty0.same {H H' : Hp} {v : V} {t : String} (h : Ty0 H v t) (k : Same H H') : Ty0 H' v t := h.keep fun b o e _ _ _ => k b o e
theorem same_new {H : Hp} {p : Addr} {o : HO} (h : H p = none) : Same H (upd H p o) := fun b u e => by rw [upd_ne (ne_of_none e h)]; exact e
/-- a value of a built-in kind, or an instance of the class at C -/
def TyL (C : Addr) (H : Hp) (v : V) : Prop := (∃ t, Ty0 H v t) ∨ ∃ a dx fs, v = .ref a ∧ H a = some (.ins C dx fs)
theorem TyL.same {C : Addr} {H H' : Hp} {v : V} (h : TyL C H v) (k : Same H H') : TyL C H' v := by
  rcases h with ⟨t, h⟩ | ⟨a, dx, fs, e, h⟩
  · exact .inl ⟨t, h.same k⟩
  · exact .inr ⟨a, dx, fs, e, k _ _ h⟩
theorem TyL.int (C : Addr) (H : Hp) (i : Int) : TyL C H (.int i) := .inl ⟨_, .int i⟩
theorem pen_ne {H : Hp} {pn l : Addr} {n : Nat} (hp : PenAt H pn n) (hl : H l = none) : l ≠ pn := by
  obtain ⟨cl, ns, a, r, g1, _⟩ := hp
  exact (ne_of_none g1 hl).symm
theorem but_same {pn : Addr} {H H' : Hp} (s : Same H H') : But pn H H' := fun b o e _ => s b o e
theorem pen_same {pn : Addr} {H H' : Hp} {n : Nat} (hp : PenAt H pn n) (k : Same H H') : PenAt H' pn n := by
  obtain ⟨cl, ns, a, r, g1, g2, g3⟩ := hp
  exact ⟨cl, ns, a, r, k _ _ g1, k _ _ g2, g3⟩
theorem mem_ints {v : V} {zs : List Int} (h : v ∈ zs.map V.int) : ∃ z, v = .int z ∧ z ∈ zs := by
  obtain ⟨z, hz, e⟩ := List.mem_map.mp h
  exact ⟨z, e.symm, hz⟩
theorem num_len {i : Int} (h : i.natAbs.log2 < 1920) : ((toString i : String) : Str).length ≤ 1921 := by
  have e := int_text_length_le (k := 1920) (by decide) h
  show (Str.ofString (toString i)).length ≤ 1921
  rw [PySem.ofString_length]
  exact e
theorem app_len (x y : Str) : (x ++ y).length = x.length + y.length := PySem.Str.length_append x y
/-- an int of less than 300 bits -/
def Sm (z : Int) : Prop := z.natAbs < 2 ^ 300
theorem Sm.mul {a b : Int} {i j : Nat} (ha : a.natAbs < 2 ^ i) (hb : b.natAbs < 2 ^ j) (h0 : 0 < i := by decide) (h1 : 0 < j := by decide) (h : i + j ≤ 1000000 := by decide) : CMulW a b := wide_mul ha hb h0 h1 h
theorem Sm.log {z : Int} (h : Sm z) : z.natAbs.log2 < 1920 := Nat.lt_of_lt_of_le (PySem.Flt.log2_lt_of (k := 300) (by decide) h) (by decide)
theorem shown_sum : ∀ (ns : List Int), (∀ z ∈ ns, z.natAbs.log2 < 1920) → ((PyData.shownAll (ns.map PyData.int)).map (·.length)).sum ≤ 1921 * ns.length ∧ (PyData.shownAll (ns.map PyData.int)).length = ns.length
  | [], _ => ⟨Nat.le_refl _, rfl⟩
  | n :: ns, h => by
    obtain ⟨h1, h2⟩ := shown_sum ns fun z hz => h z (List.mem_cons_of_mem _ hz)
    have e2 := num_len (h n List.mem_cons_self)
    refine ⟨?_, ?_⟩
    · show ((toString n : String) : Str).length + ((PyData.shownAll (ns.map PyData.int)).map (·.length)).sum ≤ 1921 * (ns.length + 1)
      omega
    · show (PyData.shownAll (ns.map PyData.int)).length + 1 = ns.length + 1
      omega
theorem showable_ints : ∀ (ns : List Int), (∀ z ∈ ns, z.natAbs.log2 < 1920) → PyData.showableAll (ns.map PyData.int) = true
  | [], _ => rfl
  | n :: ns, h => by
    show (decide (n.natAbs.log2 < 1920) && PyData.showableAll (ns.map PyData.int)) = true
    rw [showable_ints ns fun z hz => h z (List.mem_cons_of_mem _ hz), decide_eq_true (h n List.mem_cons_self)]
    rfl
/-- a list of ints shown -/
theorem ints_show {K : PySem.W.Frag} {H : Hp} {l : Addr} (ns : List Int) (hz : ∀ z ∈ ns, z.natAbs.log2 < 1920) (hl : ns.length ≤ 1000) (h : H l = some (.lst (ns.map V.int))) : Dr K H (.ref l) (.list (ns.map PyData.int)) ∧ (PyData.list (ns.map PyData.int)).showable = true ∧ (PyData.list (ns.map PyData.int)).depth ≤ 60 ∧ (PyData.list (ns.map PyData.int)).shown.length ≤ sizeLine := by
  refine ⟨.inl (.lst (SqL.of h) (dp_ints ns)), showable_ints ns hz, ?_, ?_⟩
  · show PyData.depthAll (ns.map PyData.int) + 1 ≤ 60
    rw [dep_ints]
    decide
  · have h1 := listText_len_le (PyData.shownAll (ns.map PyData.int))
    obtain ⟨h2, h3⟩ := shown_sum ns hz
    show (listText (PyData.shownAll (ns.map PyData.int))).length ≤ sizeLine
    rw [sizeLine_eq]
    omega
theorem yes_go {σ : L2.St} {H : Hp} {A B : Hp → Prop} (h : A H) : tYes σ H (fun b H3 => if b = true then A H3 else B H3) := by
  show (if true = true then A H else B H)
  rw [if_pos rfl]
  exact h
theorem take1 {α : Type} {ls : List α} {i : Nat} {y : α} (h : ls[i]? = some y) : ls.take (i + 1) = ls.take i ++ [y] := by rw [List.take_add_one, h]; rfl
theorem at_int {ls : List Int} {i : Nat} {v : V} (h : (ls.map V.int)[i]? = some v) : ∃ y, ls[i]? = some y ∧ v = .int y := by
  rw [List.getElem?_map] at h
  cases e : ls[i]? with
  | none => rw [e] at h; cases h
  | some y => rw [e] at h; cases h; exact ⟨y, rfl, rfl⟩
/-! ### tables of code objects, the pen, and all else -/
/-- all but the pen and the tables stays, the tables are tables -/
structure Kp (pn : Addr) (TS : List (Addr × Str)) (H H' : Hp) : Prop where
  keep : ∀ b o, H b = some o → b ≠ pn → (∀ ps, o ≠ .tbl ps) → H' b = some o
  tabs : LamX.Tabs TS H'
theorem Kp.trans {pn : Addr} {TS : List (Addr × Str)} {H H1 H2 : Hp} (a : Kp pn TS H H1) (b : Kp pn TS H1 H2) : Kp pn TS H H2 := ⟨fun c o h n m => b.keep c o (a.keep c o h n m) n m, b.tabs⟩
theorem tabs_but {pn : Addr} {TS : List (Addr × Str)} {H H' : Hp} {n : Nat} (t : LamX.Tabs TS H) (hp : PenAt H pn n) (k : But pn H H') : LamX.Tabs TS H' := fun p hp' => by
  obtain ⟨ps, h1, h2, h3⟩ := t p hp'
  obtain ⟨cl, ns, a, r, g1, _⟩ := hp
  refine ⟨ps, k _ _ h1 (ne_of h1 g1 (by intro z; cases z)), h2, fun pos cv hc => ?_⟩
  obtain ⟨c, e1, e2⟩ := h3 pos cv hc
  exact ⟨c, e1, k _ _ e2 (ne_of e2 g1 (by intro z; unfold LamX.CodeO at z; cases z))⟩
theorem Kp.but {pn : Addr} {TS : List (Addr × Str)} {H H' : Hp} {n : Nat} (t : LamX.Tabs TS H) (hp : PenAt H pn n) (k : But pn H H') : Kp pn TS H H' := ⟨fun b o h nb _ => k b o h nb, tabs_but t hp k⟩
theorem Kp.same {pn : Addr} {TS : List (Addr × Str)} {H H' : Hp} (t : LamX.Tabs TS H) (k : Same H H') : Kp pn TS H H' := ⟨fun b o h _ _ => k b o h, t.ext k⟩
theorem Kp.ext {pn : Addr} {TS : List (Addr × Str)} {H H' : Hp} (t : LamX.Tabs TS H') (k : LamX.ExtN H H') : Kp pn TS H H' := ⟨fun b o h _ m => k b o h m, t⟩
theorem pen_ext {pn : Addr} {H H' : Hp} {n : Nat} (hp : PenAt H pn n) (k : LamX.ExtN H H') : PenAt H' pn n := by
  obtain ⟨cl, ns, a, r, g1, g2, g3⟩ := hp
  exact ⟨cl, ns, a, r, k _ _ g1 (by intro ps z; cases z), k _ _ g2 (by intro ps z; cases z), g3⟩
/-- a def whose code object stands at c -/
structure FunC (K : PySem.W.Frag) (x qual : Str) (st : Stmt) (f : Addr) (fd : FuncData) (c : Addr) : Prop where
  ex : ∃ (oc : Value) (od : Option Addr) (kV doc pm : Value) (an : Option Addr) (ct : Value) (osl : Array (Option Value)),
    fd = PySem.W.fnOf x qual (defArgs st) (defBody st) (defScope st) .none kV doc pm an (.ref c) ct ∧ K.lookup f = some ⟨oc, od, .func fd, osl⟩ ∧ PySem.W.codeIn K (.ref c) qual = true
  kp : PySem.W.keepIn K (.ref f) = true
theorem okGc {P : Program} {w : World} {K : PySem.W.Frag} {mg : Str → Option Value} {base : Heap} {x qual : Str} {st : Stmt} {f c : Addr} {fd : FuncData} {N ps : List Str} {k : Nat} {sp : Sp} (F : FunC K x qual st f fd c) (S : FnScope N ps (defScope st)) (len : ∀ vs H Q E, sp vs H Q E → vs.length = ps.length)
    (hbody : ∀ (A : Around) (outer : List Env) (s : Shared) (H : Hp) (vs : List V) (Q : VK) (E : XK), A.guards = some [] → Room k (A.deeper (envOfC qual (defScope st) s.heap.objs.size f (.ref c))) → sp vs H Q E →
      ∃ t, PSs (cxOf CX0 P w K mg base N qual (defScope st) f (.ref c) A outer s H E).nox (defBody st) t ∧ t { nx := fun _ H' => Q .non H', rt := Q } (start N vs) H) : FnG P w K mg base CX0 (k + 1) f fd ps sp := by
  obtain ⟨oc, od, kV, doc, pm, an, ct, osl, rfl, lk, hcd⟩ := F.ex
  refine ⟨len, fun A outer s H args us vs Q E hg hr e0 hb r hsp => LamX.run_ofS lk hcd S hr e0 hb r (len _ _ _ _ hsp) fun hr' => ?_⟩
  obtain ⟨t, h, q⟩ := hbody A outer s H vs Q E hg hr' hsp
  exact ⟨t, h.nox, q⟩
theorem ty_ext {H H' : Hp} {v : V} {t : String} (h : Ty0 H v t) (k : LamX.ExtN H H') : Ty0 H' v t := by
  cases h with
  | non => exact .non
  | bl b => exact .bl b
  | int i => exact .int i
  | str x => exact .str x
  | lst e => exact .lst (k _ _ e (by intro ps z; cases z))
  | tup e => exact .tup (k _ _ e (by intro ps z; cases z))
  | dK e => exact .dK (k _ _ e (by intro ps z; cases z))
theorem ext_same {H H' : Hp} (s : Same H H') : LamX.ExtN H H' := fun b o h _ => s b o h
theorem ext_put {Ha Hx : Hp} {lh : Addr} {o : HO} (n : Ha lh = none) (x : LamX.ExtN Ha Hx) : LamX.ExtN Ha (upd Hx lh o) := fun b u e m => by
  rw [upd_ne (ne_of_none e n)]
  exact x b u e m
theorem tabs_put {TS : List (Addr × Str)} {H : Hp} {lh : Addr} {xs : List V} {o : HO} (t : LamX.Tabs TS H) (h : H lh = some (.lst xs)) : LamX.Tabs TS (upd H lh o) := fun p hp => by
  obtain ⟨ps, h1, h2, h3⟩ := t p hp
  refine ⟨ps, by rw [upd_ne (ne_of h1 h (by intro z; cases z))]; exact h1, h2, fun pos cv hc => ?_⟩
  obtain ⟨c, e1, e2⟩ := h3 pos cv hc
  exact ⟨c, e1, by rw [upd_ne (ne_of e2 h (by intro z; unfold LamX.CodeO at z; cases z))]; exact e2⟩
theorem TyL.ext {C : Addr} {H H' : Hp} {v : V} (h : TyL C H v) (k : LamX.ExtN H H') : TyL C H' v := by
  rcases h with ⟨t, h⟩ | ⟨a, dx, fs, e, h⟩
  · exact .inl ⟨t, ty_ext h k⟩
  · exact .inr ⟨a, dx, fs, e, k _ _ h (by intro ps z; cases z)⟩
end My
/-! An own error class E(Base(ValueError)) whose __init__ says super().__init__(f, g), self.f = f and self.g = g. -/
namespace Sup
open PySem PySem.W PySem.Calls PyProof.Rows PySem.HandSPX
def a2 (f g : Str) (p1 p2 p3 : Pos) : Arguments :=
  { posonlyargs := [], args := [{ arg := "self", annotation := none, pos := p1 }, { arg := f, annotation := none, pos := p2 }, { arg := g, annotation := none, pos := p3 }], vararg := none, kwonlyargs := [], kw_defaults := [], kwarg := none, defaults := [] }
def b2 (f g : Str) (q1 q2 q3 q4 q7 q5 q6 r1 r2 r3 r4 t1 t2 t3 t4 : Pos) : List Stmt :=
  [.Expr (.Call (.Attribute (.Call (.Name "super" q1) [] [] q2) "__init__" q3) [.Name f q4, .Name g q7] [] q5) q6, .Assign [.Attribute (.Name "self" r1) f r2] (.Name f r3) r4, .Assign [.Attribute (.Name "self" t1) g t2] (.Name g t3) t4]
def s2 (f g : Str) : Scope :=
  { kind := .function, names := [(PySem.Str.ofString "self", .local), (f, .local), (g, .local), (PySem.Str.ofString "__class__", .free), (PySem.Str.ofString "super", .globalImplicit)], isGenerator := false, isCoroutine := false, more := [] }
structure Nm2 (f g : Str) : Prop where
  f1 : (f == ("self" : Str)) = false
  f2 : (("__class__" : Str) == f) = false
  f3 : (("super" : Str) == f) = false
  f4 : (f == ("__debug__" : Str)) = false
  g1 : (g == ("self" : Str)) = false
  g2 : (("__class__" : Str) == g) = false
  g3 : (("super" : Str) == g) = false
  g4 : (g == ("__debug__" : Str)) = false
  fg : (f == g) = false
  gf : (g == f) = false
  bd : ∀ (qual : Str) (body : List Stmt) (doc pm : Value) (an : Option Addr) (cdv ct : Value) (cc : Addr) (p1 p2 p3 : Pos) (a b c : Value),
    bindArgs (ksFn "__init__" qual (a2 f g p1 p2 p3) body (s2 f g) .none .none doc pm an cdv ct cc) ⟨[a, b, c], []⟩ = pure [(("self" : Str), a), (f, b), (g, c)]
/-- what the top has written of the class x, at C, and of its __init__, at fI -/
structure Err2 (prog : Program) (K : Frag) (mg : Str → Option Value) (x f g : Str) (C fI : Addr) : Prop where
  gC : mg x = some (.ref C)
  ox : L2.OexC K C
  rd : L2.XfC K C
  nf : findIn K (.ref C) f = some none
  ng : findIn K (.ref C) g = some none
  nm : Nm2 f g
  iC : findIn K (.ref C) "__init__" = some (some (.ref fI))
  tI : typeIn K (.ref fI) = some (.type "function")
  fn : ∃ (qual : Str) (oc : Value) (od : Option Addr) (doc pm : Value) (an : Option Addr) (cda : Addr) (ct : Value) (cc : Addr) (osl : Array (Option Value)) (p1 p2 p3 q1 q2 q3 q4 q7 q5 q6 r1 r2 r3 r4 t1 t2 t3 t4 : Pos),
    K.lookup fI = some ⟨oc, od, .func (ksFn "__init__" qual (a2 f g p1 p2 p3) (b2 f g q1 q2 q3 q4 q7 q5 q6 r1 r2 r3 r4 t1 t2 t3 t4) (s2 f g) .none .none doc pm an (.ref cda) ct cc), osl⟩ ∧ codeIn K (.ref cda) qual = true ∧
    (∃ cl cld csl, K.lookup cc = some ⟨cl, cld, .cell (some (.ref C)), csl⟩) ∧ ∃ ccl cdd vs ccs file tf, K.lookup cda = some ⟨ccl, cdd, .fields vs, ccs⟩ ∧ vs[2]? = some (.str file tf) ∧ ((prog.main.file : Str) == file) = true ∧ (q3.endLine == q5.line) = true
  su : ks_superIn K C C "__init__" = some (some (.builtin "ValueError.__init__"))
  sV : subIn K (.ref C) (.type "ValueError") = some true
  sC : mroIn K C (.ref C) = some true
  gS : mg "super" = none
  oq : nsIn K cStatics "thirdparty.any" = some none
  top : (prog.main.scope.names.lookup ("super" : Str)).isSome = false
/-- what __init__ leaves of a fresh exception at x -/
structure End2 (h h' : Heap) (f g : Str) (x C dx t1 : Addr) (v u : Value) : Prop where
  keep : ∀ b o, b ≠ x → h.get? b = some o → h'.get? b = some o
  obj : h'.get? x = some { cls := .ref C, dict := some dx, data := .fields #[.ref t1, .none, .none, .none, .bool false, .none] }
  dbig : h.objs.size ≤ dx
  dne : dx ≠ x
  ns : h'.Ns1 dx (fun y => if y = g then some u else if y = f then some v else none)
theorem flip {a b : Str} (h : (a == b) = false) : (b == a) = false := by
  rw [Bool.eq_false_iff] at h ⊢
  intro y
  exact h (by rw [beq_iff_eq] at y ⊢; exact y.symm)
theorem lk2f {f g : Str} (N : Nm2 f g) : (s2 f g).names.lookup f = some .local := by
  simp only [s2, List.lookup, N.f1, beq_self_eq_true]
theorem lk2g {f g : Str} (N : Nm2 f g) : (s2 f g).names.lookup g = some .local := by
  simp only [s2, List.lookup, N.g1, N.gf, beq_self_eq_true]
theorem lk2c {f g : Str} (N : Nm2 f g) : (s2 f g).names.lookup ("__class__" : Str) = some .free := by
  have e : (("__class__" : Str) == ("self" : Str)) = false := by decide +kernel
  have e2 : (("__class__" : Str) == ("__class__" : Str)) = true := by decide +kernel
  simp only [s2, List.lookup, N.f2, N.g2, e, e2]
theorem lk2s {f g : Str} (N : Nm2 f g) : (s2 f g).names.lookup ("super" : Str) = some .globalImplicit := by
  have e : (("super" : Str) == ("self" : Str)) = false := by decide +kernel
  have e2 : (("super" : Str) == ("__class__" : Str)) = false := by decide +kernel
  have e3 : (("super" : Str) == ("super" : Str)) = true := by decide +kernel
  simp only [s2, List.lookup, N.f3, N.g3, e, e2, e3]
theorem meth_eq2 {o : Expr} {name f g : Str} {q3 q4 q7 q5 : Pos} {env : Env} (hp : (q3.endLine == q5.line) = true) :
    eval (.Call (.Attribute o name q3) [.Name f q4, .Name g q7] [] q5) env = (do
      let ov ← attributeBase o name env (eval o env)
      standAt q3.atName
      let (k, first) ← holding [ov] (getMethod ov name (do return (← importBound o env).getD true))
      callWith q5 k first (backTo q5 (starEach [.Name f q4, .Name g q7] env)) []) := by
  rw [arm_eval_Call]
  have hf : methodCallForm ([Expr.Name f q4, Expr.Name g q7].length + ([] : List Keyword).length) (backTo q5 (starEach [.Name f q4, .Name g q7] env)) (backToKw q5 (keywordEach [] env)) = true := rfl
  have e : ∀ ov, methodCall o name q3 q5 env ov ([Expr.Name f q4, Expr.Name g q7].length + ([] : List Keyword).length) (backTo q5 (starEach [.Name f q4, .Name g q7] env)) (backToKw q5 (keywordEach [] env)) = (do
      let (k, first) ← holding [ov] (getMethod ov name (do return (← importBound o env).getD true))
      callWith q5 k first (backTo q5 (starEach [.Name f q4, .Name g q7] env)) []) := fun ov => by
    unfold methodCall
    rw [hf]
    unfold calleeOf methodCallPos
    simp only [hp, Bool.not_true, Bool.false_or, if_true]
    rfl
  simp only [e]
section
variable {prog : Program} {w : World} {A : Around} {E : Value → Shared → Prop} {R : Result → Shared → Prop} {s : Shared} {K : Frag} {mg : Str → Option Value} {x f g : Str} {C fI : Addr}
theorem init2 (T : Err2 prog K mg x f g C fI) {e t0 : Addr} {v u : Value} (X : K.In s.heap) (hlim : s.heap.NoLimit) (hg : s.heap.Ns mainGlobals mg) (hb : ∃ mb, s.heap.Ns builtinsNs mb ∧ ∀ x : Str, x ≠ "__name__" → mb x = bootBuiltins x)
    (he : s.heap.get? e = some (excO C t0)) (hnx : K.lookup e = none) (hroom : A.depth < recursionLimit)
    (hq : ∀ h' tk dx t1, End2 s.heap h' f g e C dx t1 v u → R (.ok (.ret .none)) { s with heap := h', toks := tk }) :
    codeAny (model prog w) A (.call (.ref fI) ⟨[.ref e, v, u], []⟩) R s := by
  obtain ⟨qual, oc, od, doc, pm, an, cda, ct, cc, osl, p1, p2, p3, q1, q2, q3, q4, q7, q5, q6, r1, r2, r3, r4, j1, j2, j3, j4, ho, hcd, ⟨cl, cld, csl, hcell⟩, ccl, cdd, vs, ccs, file, tf, hcode, hvs, hfile, hqq⟩ := T.fn
  obtain ⟨nm, q, N, bs, bm, sn, sub, ab, col, dd, k0, k1, k2, k3, k5, hC, hbm⟩ := T.ox.cls
  obtain ⟨mb, hb1, hb2⟩ := hb
  have hcl : clsIn K C = some { name := nm, bases := bs, mro := .ref C :: bm, ns := N, qualname := q, hasDict := true, slotNames := sn, subclasses := sub, abstract := ab, collection := col, hasDel := false } := by unfold clsIn; rw [hC] <;> rfl
  have hloc : ∀ y ∈ [(("self" : Str), Value.ref e), (f, v), (g, u)], (s2 f g).names.lookup y.1 = some .local := fun y hy => by
    rcases List.mem_cons.mp hy with z | z
    · rw [z]; rfl
    · rcases List.mem_cons.mp z with z | z
      · rw [z]; exact lk2f T.nm
      · rw [List.mem_singleton.mp z]; exact lk2g T.nm
  have hsu : alongIn K "__init__" ((((Value.ref C :: bm) : List Value).dropWhile (· != .ref C)).drop 1) = some (some (.builtin "ValueError.__init__")) := by
    have z := T.su
    unfold ks_superIn at z
    rw [hcl] at z
    exact z
  refine ks_codeAny_call_defAt (fd := ksFn "__init__" qual (a2 f g p1 p2 p3) (b2 f g q1 q2 q3 q4 q7 q5 q6 r1 r2 r3 r4 j1 j2 j3 j4) (s2 f g) .none .none doc pm an (.ref cda) ct cc) (binds := [("self", .ref e), (f, v), (g, u)]) hroom (X _ _ ho) rfl hlim (codeRec_of X hcd) rfl (BindsTo.of_eq (T.nm.bd _ _ _ _ _ _ _ _ _ _ _ _ _ _))
    (by intro y hy; simp only [s2, List.mem_cons, List.mem_nil_iff, or_false] at hy; rcases hy with z | z | z | z | z <;> rw [z] <;> exact (fun w => nomatch w)) hloc (fun h1 hns kp => ?_)
  have X1 : K.In h1 := X.keeps kp
  have he1 := kp _ _ he
  have hC1 := X1 _ _ hC
  have hx0 : e ≠ C := fun z => by
    have y := X _ _ hC
    rw [← z, he] at y
    cases y
  have mself : ([(("self" : Str), Value.ref e), (f, v), (g, u)].reverse.lookup ("self" : Str)) = some (.ref e) := by
    simp only [List.reverse_cons, List.reverse_nil, List.nil_append, List.cons_append, List.lookup, flip T.nm.f1, flip T.nm.g1, beq_self_eq_true]
  have mf : ([(("self" : Str), Value.ref e), (f, v), (g, u)].reverse.lookup f) = some v := by
    simp only [List.reverse_cons, List.reverse_nil, List.nil_append, List.cons_append, List.lookup, T.nm.fg, beq_self_eq_true]
  have mg' : ([(("self" : Str), Value.ref e), (f, v), (g, u)].reverse.lookup g) = some u := by
    simp only [List.reverse_cons, List.reverse_nil, List.nil_append, List.cons_append, List.lookup, beq_self_eq_true]
  show _root_.PySem.wpAt _ _ _ (execs (b2 f g q1 q2 q3 q4 q7 q5 q6 r1 r2 r3 r4 j1 j2 j3 j4) _) _ _ _
  unfold b2
  refine ks_wpAt_execs_cons (ks_wpAt_Expr_any (ks_wpAt_MethodCall (ks_wpAt_super_base (lk2s T.nm) (lk2c T.nm) (by decide +kernel) rfl (X1 _ _ ho) rfl rfl rfl (X1 _ _ hcode) rfl hvs hfile T.top ?_) (meth_eq2 hqq)))
  refine ks_loadName_global rfl (lk2s T.nm) (loadGlobal_builtin (hg.keeps kp) T.gS (hb1.keeps kp) ((hb2 _ (by decide +kernel)).trans (by decide +kernel : bootBuiltins "super" = some (.type "super"))) ⟨rfl, ?_⟩)
  refine wpAny_loadName_free rfl (lk2c T.nm) rfl ⟨_, X1 _ _ hcell, rfl⟩ ?_
  refine wpAny_loadName_local rfl rfl hns mself ?_
  refine ks_wpAny_isType_cls hC1 rfl ⟨rfl, ?_⟩
  refine ks_wpAny_call_super hC1 rfl he1 rfl (fun c z => nomatch z) (looks_mroIn X1 T.sC) (fun h2 hso k2 => ?_)
  have X2 : K.In h2 := X1.keeps k2
  have he2 := k2 _ _ he1
  have I2 : InstAt h2 e (excO C t0) C none := ⟨he2, rfl, rfl, trivial⟩
  refine kxs_getMethod kxs_ValueError hso (looks_opaque X2 T.oq) (l₀ := .ref C :: bm) (fun A Q E s k q => wpAny_bind ((looks_clsIn X2 hcl) A _ E s k (wpAny_pure q))) rfl X2 hsu (I2.type.andThen (looks_subIn X2 T.sV)) hx0 (by decide +kernel) ?_
  refine kxs_callWith (i := "ValueError.__init__") (x := e) rfl ?_
  have hns2 := hns.keeps k2
  have k3 : ∀ b o, h2.get? b = some o → (h2.push (kxs_mw "ValueError.__init__" e)).get? b = some o := fun b o z => Heap.get?_push_of_some _ z
  refine evalArgs_plain (Calls.spliced_cons (ldc rfl (lk2f T.nm) (hns2.keeps k3) mf (Calls.spliced_cons (ldc rfl (lk2g T.nm) (hns2.keeps k3) mg' (Calls.spliced_nil ⟨Heap.get?_push_size _ rfl, ?_⟩) T.nm.g4)) T.nm.f4))
  show wpAny _ _ (call (.ref h2.objs.size) [v, u]) _ _ _
  refine call_mw (X2.keeps k3 _ _ hC) (k3 _ _ he2) (Heap.get?_push_size _ rfl) (by rw [sizeLine_eq]; exact (by decide : 2 ≤ 16777216)) fun h4 t1 k4 he4 => ?_
  have kall : ∀ b o, b ≠ e → s.heap.get? b = some o → h4.get? b = some o := fun b o hb z => k4 b o hb (k3 b o (k2 b o (kp b o z)))
  have X4 : K.In h4 := fun a o z => kall a o (fun y => by rw [y, hnx] at z; cases z) (X a o z)
  have hL : s.heap.objs.size ≠ e := Nat.ne_of_gt (Heap.lt_size he)
  have hns4 : h4.Ns s.heap.objs.size (fun y => [(("self" : Str), Value.ref e), (f, v), (g, u)].reverse.lookup y) := by
    obtain ⟨oL, es, ep, hoL, r⟩ := hns2
    exact ⟨oL, es, ep, k4 _ _ hL (k3 _ _ hoL), r⟩
  show _root_.PySem.wpAt _ _ _ (execs [.Assign [.Attribute (.Name "self" r1) f r2] (.Name f r3) r4, .Assign [.Attribute (.Name "self" j1) g j2] (.Name g j3) j4] _) _ _ _
  refine wpAt_of_wpAny (wpAny_execs_cons (plainObj_wpAny_Assign_Attribute (ldc rfl (lk2f T.nm) hns4 mf (ldc rfl rfl hns4 mself ?_) T.nm.f4)))
  refine set_plain X4 (ox := excO C t1) (od := none) ⟨he4, rfl, rfl, trivial⟩ T.ox.sa ?_
  refine exc_osa X4 he4 hcl (show refsVE (.ref C :: bm) = true from hbm) rfl T.nf (fun h5 tk5 dx k5 dn dne hx5 hn5 => ?_)
  have z1 : s.heap.objs.size ≤ h1.objs.size := Nat.le_of_lt hns.lt
  have z2 := hns4.lt
  have dbig : s.heap.objs.size ≤ dx := Nat.le_trans (Nat.le_of_lt z2) dn
  have X5 : K.In h5 := fun a o z => k5 a o (fun y => by rw [y, hnx] at z; cases z) (X4 a o z)
  have hns5 : h5.Ns s.heap.objs.size (fun y => [(("self" : Str), Value.ref e), (f, v), (g, u)].reverse.lookup y) := by
    obtain ⟨oL, es, ep, hoL, r⟩ := hns4
    exact ⟨oL, es, ep, k5 _ _ hL hoL, r⟩
  have hw5 : Within (fun y => if y = f then some v else none) [f] := fun y hy => by
    by_cases c : y = f
    · rw [c]
      exact List.mem_singleton.mpr rfl
    · exact absurd (show (if y = f then some v else none) = none from if_neg c) hy
  obtain ⟨oD, esD, epD, hoD, hdD, hcD⟩ := hn5.count hw5
  refine wpAny_execs_cons (plainObj_wpAny_Assign_Attribute (ldc rfl (lk2g T.nm) hns5 mg' (ldc rfl rfl hns5 mself ?_) T.nm.g4))
  refine set_plain X5 (od := some oD) ⟨hx5, rfl, rfl, hoD⟩ T.ox.sa ?_
  refine PySem.OEX.osa_old X5 hx5 hn5 hw5 (by show 1 ≤ 1000; decide) hcl (show refsVE (.ref C :: bm) = true from hbm) rfl T.ng (fun h6 tk6 k6 hn6 => ?_)
  refine wpAny_execs_nil (hq h6 tk6 dx t1 ⟨fun b o hb z => k6 b o (Nat.ne_of_lt (Nat.lt_of_lt_of_le (Heap.lt_size z) dbig)) (k5 b o hb (kall b o hb z)), k6 _ _ (Ne.symm dne) hx5, dbig, dne, hn6⟩)
/-- a made error -/
structure Made2 (h h' : Heap) (f g : Str) (e C d : Addr) (v u : Value) : Prop where
  keep : ∀ b o, h.get? b = some o → h'.get? b = some o
  new : h.objs.size ≤ e
  obj : ∃ oe vs, h'.get? e = some oe ∧ oe.cls = .ref C ∧ oe.dict = some d ∧ oe.data = .fields vs ∧ vs[1]? = some .none
  dbig : h.objs.size ≤ d
  dne : d ≠ e
  ns : h'.Ns1 d (fun y => if y = g then some u else if y = f then some v else none)
theorem made2 (T : Err2 prog K mg x f g C fI) {v u : Value} (X : K.In s.heap) (hlim : s.heap.NoLimit) (hg : s.heap.Ns mainGlobals mg) (hb : ∃ mb, s.heap.Ns builtinsNs mb ∧ ∀ x : Str, x ≠ "__name__" → mb x = bootBuiltins x) (hroom : A.depth + 1 < recursionLimit)
    (hq : ∀ h' tk e d, Made2 s.heap h' f g e C d v u → R (.ok (.ret (.ref e))) { s with heap := h', toks := tk }) :
    codeAny (model prog w) A (.call (.ref C) ⟨[v, u], []⟩) R s := by
  obtain ⟨nm, q, N, bs, bm, sn, sub, ab, col, dd, k0, k1, k2, k3, k5, hC, hbm⟩ := T.ox.cls
  obtain ⟨hp, gg, dr, tk, os⟩ := s
  have kp : ∀ b o, hp.get? b = some o → ((hp.push (kdv_tup [v, u])).push (excO C hp.objs.size)).get? b = some o := fun b o z => Heap.get?_push_of_some _ (Heap.get?_push_of_some _ z)
  have hget : ((hp.push (kdv_tup [v, u])).push (excO C hp.objs.size)).get? (hp.objs.size + 1) = some (excO C hp.objs.size) := by heap_get
  have hnx : K.lookup (hp.objs.size + 1) = none := by
    cases z : K.lookup (hp.objs.size + 1) with
    | none => rfl
    | some o => exact absurd (Nat.lt_of_succ_lt (Heap.lt_size (X _ _ z))) (Nat.lt_irrefl _)
  refine call_own F.excBase_ValueError (fun Y => refsVE_contains Y bm hbm) (X _ _ hC) (looks_findIn X T.iC) (fun self => bind_fn X self T.tI) (by rw [sizeLine_eq]; exact (by decide : 2 ≤ 16777216)) ?_
  obtain ⟨mb, hb1, hb2⟩ := hb
  refine init2 (s := ⟨(hp.push (kdv_tup [v, u])).push (excO C hp.objs.size), gg, dr, tk, os⟩) T (X.keeps kp) (hlim.keeps kp) (hg.keeps kp) ⟨mb, hb1.keeps kp, hb2⟩ hget hnx ?_ fun h' tk' dx t1 ⟨k', hx, dn, dne, hns⟩ => ?_
  · show A.depth + 1 < recursionLimit
    exact hroom
  · have old : ∀ b o, hp.get? b = some o → h'.get? b = some o := fun b o z => k' b o (Nat.ne_of_lt (Nat.lt_succ_of_lt (Heap.lt_size z))) (kp b o z)
    have z : hp.objs.size + 1 + 1 ≤ dx := by
      have y := dn
      first
        | (rw [Heap.size_push, Heap.size_push] at y; exact y)
        | exact y
    exact ⟨rfl, hq h' tk' (hp.objs.size + 1) dx ⟨old, Nat.le_succ _, ⟨_, _, hx, rfl, rfl, rfl, rfl⟩, Nat.le_trans (Nat.le_trans (Nat.le_succ _) (Nat.le_succ _)) z, dne, hns⟩⟩
end
end Sup
namespace L2
open PySem PySem.Spec PyProof.Rows
theorem relO_two {v u : V} {v' u' : Value} {f g : Str} (gf : (g == f) = false) (rv : RelV v v') (ru : RelV u u') (y : Str) : RelO (List.lookup y [(f, v), (g, u)]) (if y = g then some u' else if y = f then some v' else none) := by
  by_cases hw : y = g
  · rw [if_pos hw, hw]
    have z : List.lookup g [(f, v), (g, u)] = some u := by simp [List.lookup, gf]
    rw [z]
    exact ru
  · rw [if_neg hw]
    by_cases hf : y = f
    · rw [if_pos hf, hf]
      have z : List.lookup f [(f, v), (g, u)] = some v := by simp [List.lookup]
      rw [z]
      exact rv
    · rw [if_neg hf]
      have y1 : (y == f) = false := by simpa using hf
      have y2 : (y == g) = false := by simpa using hw
      have z : List.lookup y [(f, v), (g, u)] = none := by simp [List.lookup, y1, y2]
      rw [z]
      trivial
section
variable {X : Cx} {C fI : Addr} {x f g : Str}
/-- E(e, e2) -/
def tMk2 (C : Addr) (f g : Str) (ta : TA) : St → Hp → XK → Prop := fun σ H Q => ta σ H fun vs H1 => ∃ v u, vs = [v, u] ∧ ∀ d, H1 d = none → Q (.ref C) (some d) (upd H1 d (.xd [(f, v), (g, u)]))
theorem pmk_2 {a b : Expr} {ta : TA} {p pos : Pos} {k : Nat} (T : Sup.Err2 X.prog X.K X.mg x f g C fI) (hr : Room k X.A) (ha : PA X [a, b] ta) (hg : Gl X x := by rfl) (hdb : (x == ("__debug__" : Str)) = false := by decide)
    (hs : starEach (a :: [b]) X.env = (false, eval a X.env) :: starEach [b] X.env := by rfl) (hpl : (backTo pos (starEach [b] X.env)).any (·.1) = false := by rfl) :
    PMk X (.Call (.Name x p) [a, b] [] pos) (tMk2 C f g ta) := by
  intro pins s σ H Q I h
  refine wpAny_Call_Name_kw (ld_glob I hg T.gC ?_ hdb)
  refine PySem.W.callWith_K (h₀ := X.base) I.ok.mod.kin T.ox.kC (thn (ha.run pos pins s σ H _ I h) fun us s1 hh => ?_) hs hpl
  obtain ⟨vs, H1, I1, r1, v, u, ev, q1⟩ := hh
  subst ev
  refine ⟨I1.kIn, ?_⟩
  cases r1 with
  | cons rv rn =>
    rename_i v' us'
    cases rn with
    | cons ru rn =>
      rename_i u' us'
      cases rn
      show wpAny _ _ (call (.ref C) [v', u']) _ _ _
      have hlim := I1.nolimit
      obtain ⟨mb, hb1, hb2⟩ := I1.mod.blt
      have bk1 := I1.bk
      have gl1 := I1.mod.glob
      obtain ⟨hp, g0, dr, tk, os⟩ := s1
      refine wpAny_call (Sup.made2 T I1.kIn hlim (gl1.keeps bk1) ⟨mb, hb1.keeps bk1, hb2⟩ (by have := hr.dp; omega) fun h' tk' e d M => ?_)
      show MkP X pins σ Q (.ref e) ⟨h', g0, dr, tk', os⟩
      obtain ⟨oe, fv, hoe, hc, hd, hdat, h1⟩ := M.obj
      have hns := M.ns
      obtain ⟨G', g1, g2⟩ := restrict h' fun b => decide (b ≠ e)
      have gk : ∀ b, b ≠ e → G'.get? b = h'.get? b := fun b hb => g1 b (decide_eq_true hb)
      have ge : G'.get? e = none := g2 e (by simp)
      have old : ∀ b o, hp.get? b = some o → G'.get? b = some o := fun b o z => (gk b (Nat.ne_of_lt (Nat.lt_of_lt_of_le (Heap.lt_size z) M.new))).trans (M.keep b o z)
      have ob : ObjOk X.prog X.w (upd H1 d (.xd [(f, v), (g, u)])) G' d (.xd [(f, v), (g, u)]) :=
        ⟨_, hns.at (fun o z => (gk d M.dne).trans z), fun y => relO_two T.nm.gf rv ru y⟩
      have J : Inv X pins σ (upd H1 d (.xd [(f, v), (g, u)])) ⟨G', g0, dr, tk', os⟩ := I1.laid (t' := tk') old M.dbig ob
      refine ⟨e, oe, fv, ⟨G', g0, dr, tk', os⟩, _, .ref C, some d, rfl, J, fun b o z => ?_, ge, hoe, ⟨hc, hd⟩, hdat, h1, ?_, rfl, I1.bare, raises_own T.ox.exC T.ox.tyC, q1 d (I1.hok.fresh M.dbig)⟩
      · by_cases hb : b = e
        · have z' : G'.get? b = some o := z
          rw [hb, ge] at z'; cases z'
        · exact (gk b hb).symm.trans z
      · rw [upd_ne (Ne.symm M.dne)]
        exact I1.hok.fresh M.new
/-- raise E(e, e2) -/
def tRaise2 (C : Addr) (f g : Str) (W : WX) (ta : TA) : TS := fun _ σ H => tMk2 C f g ta σ H fun cls d H' => W cls d σ H'
theorem ps_raise2 {a b : Expr} {ta : TA} {W : WX} {p pos pos2 : Pos} {k : Nat} (hc : X.calm = true) (T : Sup.Err2 X.prog X.K X.mg x f g C fI) (hr : Room k X.A) (tk : Takes X W) (ha : PA X [a, b] ta) (hg : Gl X x := by rfl) (hdb : (x == ("__debug__" : Str)) = false := by decide)
    (hs : starEach (a :: [b]) X.env = (false, eval a X.env) :: starEach [b] X.env := by rfl) (hpl : (backTo pos (starEach [b] X.env)).any (·.1) = false := by rfl) :
    PS X (.Raise (some (.Call (.Name x p) [a, b] [] pos)) none pos2) (tRaise2 C f g W ta) := ps_raise hc tk (pmk_2 T hr ha hg hdb hs hpl)
end
end L2
/-! A class made through a local name; classmethods called by keywords. -/
namespace My
open PySem PySem.Spec PySem.Calls PyProof.Rows L2 ClX
section
variable {X : Cx} {CX : CXT} {k : Nat} {C : Addr} {ps ks : List Str} {sp : Sp} {E : XK} {x m : Str} {e o fe : Expr} {es : List Expr} {kws : List Keyword} {t tk : TA} {ta tf : TE} {p pos apos : Pos} {dvs : List V} {gV : List V → List V → List V}
/-- f(e, ..), f a local name that holds the class at C -/
def tMkL (C : Addr) (sp : Sp) (dvs : List V) (E : XK) (tf : TE) (t : TA) : TE := fun σ H Q => tf σ H fun y H1 => y = .ref C ∧ tMake C sp dvs E t σ H1 Q
theorem pe_mkL (M : MakeAt X.prog X.w X.K X.mg X.base CX k x C ps sp dvs) (hr : Room (k + 1) X.A) (hx : Passes CX X E) (hf : PE X fe tf) (ha : PA X (e :: es) t)
    (ht : eval (.Call fe (e :: es) [] pos) X.env = (do callWith pos (← eval fe X.env) [] (backTo pos (starEach (e :: es) X.env)) (backToKw pos (keywordEach [] X.env))) := by rfl)
    (hs : starEach (e :: es) X.env = (false, eval e X.env) :: starEach es X.env := by rfl) (hpl : (backTo pos (starEach es X.env)).any (·.1) = false := by rfl) : PE X (.Call fe (e :: es) [] pos) (tMkL C sp dvs E tf t) := by
  obtain ⟨f, fd, ds, mk, F, hm, b, d⟩ := M.ex
  refine ⟨fun pins s σ H Q I h => ?_⟩
  refine Call_ (thn (hf.run pins s σ H _ I h) fun u s1 ⟨y, H1, I1, ry, ey, q⟩ => ?_) ht
  subst ey
  obtain rfl : u = Value.ref C := ry
  refine PySem.W.callWith_K (first := []) (h₀ := X.base) I1.ok.mod.kin mk.kp (thn (ha.run pos pins s1 σ H1 _ I1 q) fun us s2 ⟨vs, H2, I2, r, q2⟩ => ⟨I2.kIn, ?_⟩) hs hpl
  exact run_make mk F hr b d hx I2 r q2
/-- a classmethod by keywords alone -/
structure ClsK (P : Program) (w : World) (K : PySem.W.Frag) (mg : Str → Option Value) (base : Heap) (CX : CXT) (k : Nat) (C : Addr) (m : Str) (ps ks : List Str) (sp : Sp) (gV : List V → List V → List V) : Prop where
  ex : ∃ mc p g fd gg, ClX.CRead K C mc ∧ ClX.CMet K C mc m p g ∧ FnOk P w K mg base CX k g fd ps sp ∧ KBn K fd ps 1 ks gg gV
def tClsK (C : Addr) (j : Nat) (sp : Sp) (gV : List V → List V → List V) (E : XK) (ta : TE) (tk : TA) : TE := fun σ H Q => ta σ H fun x H1 => x = .ref C ∧ tk σ H1 fun zs H2 => zs.length = j ∧ sp (gV [.ref C] zs) H2 Q E
theorem pe_cmK {pl : Sem Bool} (M : ClsK X.prog X.w X.K X.mg X.base CX k C m ps ks sp gV) (hr : Room k X.A) (hx : Passes CX X E) (he : PE X o ta) (hkw : PK X kws tk)
    (hall : (backToKw pos (keywordEach kws X.env)).all (·.1.isSome) = true := by rfl) (hks : (backToKw pos (keywordEach kws X.env)).filterMap (·.1) = ks := by rfl)
    (hpl : ((backTo pos (starEach [] X.env)).any (·.1) || (backToKw pos (keywordEach kws X.env)).any (·.1.isNone)) = false := by rfl)
    (ht : eval (.Call (.Attribute o m apos) [] kws pos) X.env = (do
      let ov ← eval o X.env
      standAt apos.atName
      let (f, first) ← holding [ov] (getMethod ov m pl)
      callWith pos f first (backTo pos (starEach [] X.env)) (backToKw pos (keywordEach kws X.env))) := by rfl) :
    PE X (.Call (.Attribute o m apos) [] kws pos) (tClsK C ks.length sp gV E ta tk) := by
  obtain ⟨mc, p, g, fd, gg, r, c, F, b⟩ := M.ex
  refine ⟨fun pins s σ H Q I h => ?_⟩
  refine PySem.W.methodCall_KW (pl := pl) (thn (he.run pins s σ H _ I h) fun u s1 ⟨x, H1, I1, rx, ex, q⟩ => ?_) ht
  subst ex
  obtain rfl : u = Value.ref C := rx
  refine getmethcm_ok I1 r c fun s2 I2 => ?_
  refine PySem.W.callWith_of (P := PySem.W.MethP X.K s1.heap.objs.size g (.ref C)) hpl (PySem.W.keeps_M c.fi) (evalArgs_kw2_nil hall (thn (hkw.run pos _ s2 σ H1 _ I2 q) fun ws s3 ⟨zs, H2, I3, rz, l2, q2⟩ => ⟨⟨pin_at I3, I3.kIn⟩, ?_⟩))
  rw [hks]
  have r2 := b.rel (vs := [V.ref C]) (us := [Value.ref C]) (.cons rfl .nil) rz
  have z : wpAny (model X.prog X.w) X.A (call (.ref s1.heap.objs.size) [] (ks.zip ws)) (EP X ((s1.heap.objs.size, PySem.W.methodObj (.ref g) (.ref C)) :: pins) σ Q) X.xe s3 :=
    wpAny_call (PySem.W.method_call (pin_at I3) (codeAny_mono (F.run X.A X.stack s3 H2 ⟨[.ref C], ks.zip ws⟩ (gg [.ref C] ws) (gV [.ref C] zs) Q E hr I3.env0 (b.to s3 [.ref C] ws I3.kIn rfl (rz.length.symm.trans l2)) r2 q2) fun r s' hq => by
      match r, hq with
      | .error e, hq => exact hx _ σ H2 s3 e s' I3 hq
      | .ok (.ret z), hq => exact I3.after hq
      | .ok .next, hq => exact False.elim hq
      | .ok .brk, hq => exact False.elim hq
      | .ok .cont, hq => exact False.elim hq))
  exact thn z fun _ _ y => unpinE y
end
theorem nm2_line_word : Sup.Nm2 "line" "word" := ⟨by decide, by decide, by decide, by decide, by decide, by decide, by decide, by decide, by decide, by decide, fun _ _ _ _ _ _ _ _ _ _ _ _ _ _ => rfl⟩
theorem clsK_at {P : Program} {w : World} {K : PySem.W.Frag} {mg : Str → Option Value} {base : Heap} {CX : CXT} {k : Nat} {m qual : Str} {st : Stmt} {ps ks : List Str} {sp : Sp} {C : Addr} {gV : List V → List V → List V} {g : List Value → List Value → List Value} (A : HasCM K C m qual st) (ok : ∀ f fd, Fun K m qual st f fd → FnOk P w K mg base CX k f fd ps sp)
    (b : ∀ (kV doc pm : Value) (an : Option Addr) (cdv ct : Value) (us ws : List Value), us.length = 1 → ws.length = ks.length → bindArgs (PySem.W.fnOf m qual (defArgs st) (defBody st) (defScope st) .none kV doc pm an cdv ct) ⟨us, ks.zip ws⟩ = pure (ps.zip (g us ws)))
    (r : ∀ {vs : List V} {us : List Value} {zs : List V} {ws : List Value}, Vals vs us → Vals zs ws → Vals (gV vs zs) (g us ws)) : ClsK P w K mg base CX k C m ps ks sp gV := by
  obtain ⟨mc, p, f, fd, h1, h2, F⟩ := A.ex
  obtain ⟨oc, od, kV, doc, pm, an, cdv, ct, osl, rfl, lk, _⟩ := id F.ex
  exact ⟨mc, p, f, _, g, h1, h2, ok f _ F, ⟨fun s us ws _ l1 l2 => .of_eq (b kV doc pm an cdv ct us ws l1 l2), r⟩⟩
end My
/-! Texts whose signs are code points; lists of texts and of truths as data. -/
namespace My
open PySem PySem.Spec PyProof.Rows L2
theorem strOk_app (x y : Str) : PyData.strOk (x ++ y) = (PyData.strOk x && PyData.strOk y) := by
  unfold PyData.strOk
  rw [PySem.Str.cps_append, Array.all_append]
theorem strOk_of (s : String) : PyData.strOk (Str.ofString s) = true := by
  unfold PyData.strOk
  rw [PySem.Str.ofString_eq_toList]
  rw [Array.all_eq_true]
  intro i hi
  simp only [List.getElem_toArray, List.getElem_map, decide_eq_true_eq]
  have := (s.toList[i]'(by simpa using hi)).valid
  rcases this with h | ⟨_, h⟩
  · exact Nat.lt_trans h (by decide)
  · exact h
/-- a list of texts as data -/
theorem dp_strs {K : PySem.W.Frag} {H : Hp} : ∀ zs : List Str, DpAll K H (zs.map V.str) (zs.map PyData.str)
  | [] => .nil
  | z :: zs => .cons (.str z) (dp_strs zs)
theorem lay_strs : ∀ zs : List Str, (∀ z ∈ zs, PyData.strOk z = true) → PyData.canLayAll0 (zs.map PyData.str) = true
  | [], _ => rfl
  | z :: zs, h => by
    show (PyData.strOk z && PyData.canLayAll0 (zs.map PyData.str)) = true
    rw [lay_strs zs fun x hx => h x (List.mem_cons_of_mem _ hx), h z List.mem_cons_self]
    rfl
theorem dep_strs : ∀ zs : List Str, PyData.depthAll (zs.map PyData.str) = 0
  | [] => rfl
  | z :: zs => by
    show max 0 (PyData.depthAll (zs.map PyData.str)) = 0
    rw [dep_strs zs]
    rfl
theorem shaped_strs (zs : List Str) (h : ∀ z ∈ zs, PyData.strOk z = true) : SeqAt.shaped (.list (zs.map PyData.str)) = true := by
  show (PyData.canLayAll0 (zs.map PyData.str) && decide (PyData.depthAll (zs.map PyData.str) + 1 ≤ 64)) = true
  rw [lay_strs zs h, dep_strs]
  rfl
/-- a list of truths as data, shown -/
theorem dp_bls {K : PySem.W.Frag} {H : Hp} : ∀ zs : List Bool, DpAll K H (zs.map V.bl) (zs.map PyData.bool)
  | [] => .nil
  | z :: zs => .cons (.bl z) (dp_bls zs)
theorem dep_bls : ∀ zs : List Bool, PyData.depthAll (zs.map PyData.bool) = 0
  | [] => rfl
  | z :: zs => by
    show max 0 (PyData.depthAll (zs.map PyData.bool)) = 0
    rw [dep_bls zs]
    rfl
theorem showable_bls : ∀ zs : List Bool, PyData.showableAll (zs.map PyData.bool) = true
  | [] => rfl
  | z :: zs => by
    show (true && PyData.showableAll (zs.map PyData.bool)) = true
    rw [showable_bls zs]
    rfl
theorem bls_sum : ∀ zs : List Bool, ((PyData.shownAll (zs.map PyData.bool)).map (·.length)).sum ≤ 5 * zs.length ∧ (PyData.shownAll (zs.map PyData.bool)).length = zs.length
  | [] => ⟨Nat.le_refl _, rfl⟩
  | z :: zs => by
    obtain ⟨h1, h2⟩ := bls_sum zs
    refine ⟨?_, ?_⟩
    · show (PyData.bool z).shown.length + ((PyData.shownAll (zs.map PyData.bool)).map (·.length)).sum ≤ 5 * (zs.length + 1)
      have e : (PyData.bool z).shown.length ≤ 5 := by cases z <;> decide +kernel
      omega
    · show (PyData.shownAll (zs.map PyData.bool)).length + 1 = zs.length + 1
      omega
theorem bls_show {K : PySem.W.Frag} {H : Hp} {l : Addr} (zs : List Bool) (hl : zs.length ≤ 1000) (h : H l = some (.lst (zs.map V.bl))) : Dr K H (.ref l) (.list (zs.map PyData.bool)) ∧ (PyData.list (zs.map PyData.bool)).showable = true ∧ (PyData.list (zs.map PyData.bool)).depth ≤ 60 ∧ (PyData.list (zs.map PyData.bool)).shown.length ≤ sizeLine := by
  refine ⟨.inl (.lst (SqL.of h) (dp_bls zs)), showable_bls zs, ?_, ?_⟩
  · show PyData.depthAll (zs.map PyData.bool) + 1 ≤ 60
    rw [dep_bls]
    decide
  · have h1 := listText_len_le (PyData.shownAll (zs.map PyData.bool))
    obtain ⟨h2, h3⟩ := bls_sum zs
    show (listText (PyData.shownAll (zs.map PyData.bool))).length ≤ sizeLine
    rw [sizeLine_eq]
    omega
theorem bl_show {K : PySem.W.Frag} {H : Hp} (b : Bool) : Dr K H (.bl b) (.bool b) ∧ (PyData.bool b).showable = true ∧ (PyData.bool b).depth ≤ 60 ∧ (PyData.bool b).shown.length ≤ sizeLine := by
  refine ⟨.inl (.bl b), rfl, Nat.zero_le _, ?_⟩
  cases b <;> decide +kernel
end My
namespace My
open PySem PySem.Spec PyProof.Rows L2
def topS (i : Nat) : Stmt := PySem.Challenge.pw_clipfades_k18_lines_written_and_read.main.body.getD i (.Pass ⟨0, 0, 0, 0⟩)
abbrev s_pen : Stmt := topS 17
abbrev s_draw : Stmt := topS 18
abbrev s_pick : Stmt := topS 19
theorem sc_pen : FnScope ["_law_script"] ["_law_script"] (defScope s_pen) := ⟨rfl, rfl, rfl, by decide +kernel, rfl, by decide +kernel, by decide +kernel⟩
theorem sc_draw : FnScope ["_law_pen_here", "_law_many", "_law_digit", "_law_at", "_law_cell", "_law_great", "_law_mixed"] ["_law_pen_here", "_law_many"] (defScope s_draw) := ⟨rfl, rfl, rfl, by decide +kernel, rfl, by decide +kernel, by decide +kernel⟩
theorem sc_pick : FnScope ["_law_pen_here", "_law_some"] ["_law_pen_here", "_law_some"] (defScope s_pick) := ⟨rfl, rfl, rfl, by decide +kernel, rfl, by decide +kernel, by decide +kernel⟩
/-- the pen, its cells at cl -/
def PenC (H : Hp) (pn cl : Addr) (n : Nat) : Prop := ∃ (ns : List Int) (at_ rest : Int), H pn = some (.lst [.ref cl, .int at_, .int rest]) ∧ H cl = some (.lst (ns.map V.int)) ∧ ns.length ≤ 63 ∧ 0 ≤ at_ ∧ at_ ≤ n
theorem PenC.pen {H : Hp} {pn cl : Addr} {n : Nat} (h : PenC H pn cl n) : PenAt H pn n := by
  obtain ⟨ns, a, r, h⟩ := h
  exact ⟨cl, ns, a, r, h⟩
theorem PenAt.cells {H : Hp} {pn : Addr} {n : Nat} (h : PenAt H pn n) : ∃ cl, PenC H pn cl n := by
  obtain ⟨cl, ns, a, r, h⟩ := h
  exact ⟨cl, ns, a, r, h⟩
theorem PenC.put {H : Hp} {pn cl p : Addr} {n : Nat} {o : HO} (h : PenC H pn cl n) (h1 : pn ≠ p) (h2 : cl ≠ p) : PenC (upd H p o) pn cl n := by
  obtain ⟨ns, a, r, e1, e2, h3⟩ := h
  exact ⟨ns, a, r, by rw [upd_ne h1]; exact e1, by rw [upd_ne h2]; exact e2, h3⟩
theorem PenC.same {H H' : Hp} {pn cl : Addr} {n : Nat} (h : PenC H pn cl n) (s : Same H H') : PenC H' pn cl n := by
  obtain ⟨ns, a, r, e1, e2, h3⟩ := h
  exact ⟨ns, a, r, s _ _ e1, s _ _ e2, h3⟩
def spDrawC : Sp := fun vs H Q _ => ∃ (pn cl : Addr) (m : Int) (n : Nat), vs = [.ref pn, .int m] ∧ 0 < m ∧ m.natAbs.log2 < 9000 ∧ PenC H pn cl n ∧ n < 100000 ∧
  ∀ (d : Int) (H' : Hp), 0 ≤ d → d < m → PenC H' pn cl (n + 1) → But pn H H' → Q (.int d) H'
section
variable {P : Program} {w : World} {K : PySem.W.Frag} {mg : Str → Option Value} {base : Heap}
theorem ok_pen {f : Addr} {fd : FuncData} (F : Fun K "_law_pen" "_law_pen" s_pen f fd) (T : BI mg) : FnOk P w K mg base CX0 1 f fd ["_law_script"] (spPen K) := by
  refine F.ok sc_pen (fun vs H Q E h => ?_) (fun cdv A outer s H vs Q E hr h => ?_)
  · obtain ⟨a, ns, rfl, _⟩ := h
    rfl
  · obtain ⟨a, ns, rfl, hS, k⟩ := h
    refine ⟨_, (pss_one (ps_ret (pe_lst (pa_cons (pe_callTy call_list_of (by rfl) T.z_list boot_list (pa_cons (pe_slice sl_list (pv 0) po_none (po_some pe_int)) pa_nil)) (pa_cons pe_int (pa_cons pe_int pa_nil)))))), ?_⟩
    refine ⟨_, rfl, 63, rfl, a, _, rfl, hS, fun p hp => ?_⟩
    refine ⟨p, _, rfl, .inl (SqL.of upd_same), fun l hl => ?_⟩
    refine ⟨(by show 3 ≤ sizeLine; decide), fun pn hpn => ?_⟩
    have npl : p ≠ l := ne_of_none upd_same hl
    have hlp : l ≠ pn := ne_of_none upd_same hpn
    have e1 : cutV (ns.map V.int) none (some 63) = (ns.take 63).map V.int := cut_ints ns 63
    have s0 : Same H (upd (upd (upd H p (.lst (cutV (ns.map V.int) none (some 63)))) l (.lst (cutV (ns.map V.int) none (some 63)))) pn (.lst [.ref l, .int 0, .int 0])) := fun b o z => by
      have z1 : (upd H p (.lst (cutV (ns.map V.int) none (some 63)))) b = some o := by rw [upd_ne (ne_of_none z hp)]; exact z
      have z2 : (upd (upd H p (.lst (cutV (ns.map V.int) none (some 63)))) l (.lst (cutV (ns.map V.int) none (some 63)))) b = some o := by rw [upd_ne (ne_of_none z1 hl)]; exact z1
      rw [upd_ne (ne_of_none z2 hpn)]
      exact z2
    have n1 : H pn = none := by
      cases z : H pn with
      | none => rfl
      | some o =>
        rw [upd_ne (Ne.symm hlp)] at hpn
        by_cases y : pn = p
        · rw [y, hp] at z
          cases z
        · rw [upd_ne y, z] at hpn
          cases hpn
    refine k pn _ n1 ⟨l, ns.take 63, 0, 0, upd_same, ?_, ?_, Int.le_refl _, Int.le_refl _⟩ s0
    · rw [upd_ne hlp, upd_same, e1]
    · rw [List.length_take]
      omega
theorem ok_drawC {f : Addr} {fd : FuncData} (F : Fun K "_law_draw" "_law_draw" s_draw f fd) (T : BI mg) : FnOk P w K mg base CX0 1 f fd ["_law_pen_here", "_law_many"] spDrawC := by
  refine F.ok sc_draw (fun vs H Q E h => ?_) (fun cdv A outer s H vs Q E hr h => ?_)
  · obtain ⟨pn, cl, m, n, rfl, _⟩ := h
    rfl
  · obtain ⟨pn, cl, m, n, rfl, hm, hml, ⟨ns, at_, rest, h1, h2, h3, h4, h5⟩, hn, k⟩ := h
    refine ⟨_, (pss_cons (ps_if (pt_cmpR op_gt (pe_ix ix_list (pv 0) pe_int (fun _ _ => rfl)) pe_int (nomark _)) (pss_cons (ps_set (i := 2) sc_draw.nd rfl (Or.inl rfl) (pe_op op_mod (pe_callTy call_int1 (by rfl) T.z_int boot_int (pa_cons (pe_ix ix_list (pv 0) pe_int (fun _ _ => rfl)) pa_nil)) (pv 1)))
      (pss_cons (ps_asg (pe_op op_fdivW (pe_callTy call_int1 (by rfl) T.z_int boot_int (pa_cons (pe_ix ix_list (pv 0) pe_int (fun _ _ => rfl)) pa_nil)) (pv 1)) (pg_sub (pv 0) pe_int set_list))
      (pss_one (ps_ret (pv 2))))) pss_nil)
      (pss_cons (ps_set (i := 3) sc_draw.nd rfl (Or.inl rfl) (pe_ix ix_list (pv 0) pe_int (fun _ _ => rfl)))
      (pss_cons (ps_asg (pe_op op_add (pv 3) pe_int) (pg_sub (pv 0) pe_int set_list))
      (pss_cons (ps_set (i := 4) sc_draw.nd rfl (Or.inl rfl) (pe_op op_add (pe_op op_mul pe_int (pv 3)) pe_int))
      (C8.pss_cut (ps_if (pt_cmpR (op_neD hr.units) (pe_ix ix_list (pv 0) pe_int (fun _ _ => rfl)) (pe_lst pa_nil) (nomark _)) (pss_one (ps_set (i := 4) sc_draw.nd rfl (Or.inl rfl) (pe_ix ix_list (pe_ix ix_list (pv 0) pe_int (fun _ _ => rfl)) (pe_op op_mod (pe_callTy call_int1 (by rfl) T.z_int boot_int (pa_cons (pv 3) pa_nil)) (pe_callB call_len (by rfl) T.z_len PySem.boot_len (pa_cons (pe_ix ix_list (pv 0) pe_int (fun _ _ => rfl)) pa_nil))) (fun _ _ => rfl)))) pss_nil)
      (C8.pss_cut (ps_if (PW.pt (pw_and (pt_cmpR op_lt (pv 3) (pe_callB call_len (by rfl) T.z_len PySem.boot_len (pa_cons (pe_ix ix_list (pv 0) pe_int (fun _ _ => rfl)) pa_nil)) (nomark _)) (pw_and1 (pt_cmpR op_ge (pe_callB call_abs (by rfl) T.z_abs boot_abs (pa_cons (pv 4) pa_nil)) (pe_op op_pow pe_int pe_int) (nomark _))))) (pss_cons (ps_set (i := 5) sc_draw.nd rfl (Or.inl rfl) (pe_op op_add (pe_op op_mul pe_int (pe_op op_sub (pe_callB call_abs (by rfl) T.z_abs boot_abs (pa_cons (pv 4) pa_nil)) (pe_op op_pow pe_int pe_int))) (pe_callTy call_int1 (by rfl) T.z_int boot_int (pa_cons (pe_cmpR op_lt (pv 4) pe_int (nomark _)) pa_nil))))
      (pss_cons (ps_asg (pe_op op_fdivW (pe_callTy call_int1 (by rfl) T.z_int boot_int (pa_cons (pv 5) pa_nil)) (pv 1)) (pg_sub (pv 0) pe_int set_list))
      (pss_one (ps_ret (pe_op op_mod (pe_callTy call_int1 (by rfl) T.z_int boot_int (pa_cons (pv 5) pa_nil)) (pv 1)))))) pss_nil)
      (pss_cons (ps_set (i := 6) sc_draw.nd rfl (Or.inl rfl) (pe_op op_mod (pe_callTy call_int1 (by rfl) T.z_int boot_int (pa_cons (pe_op op_pow (pe_op op_add (pe_op op_add (pe_op op_mod (pe_callTy call_int1 (by rfl) T.z_int boot_int (pa_cons (pv 4) pa_nil)) pe_int) (pe_op op_mul pe_int (pv 3))) pe_int) pe_int) pa_nil)) pe_int))
      (pss_cons (ps_set (i := 6) sc_draw.nd rfl (Or.inl rfl) (pe_op op_mod (pe_callTy call_int1 (by rfl) T.z_int boot_int (pa_cons (pe_op op_pow (pe_op op_add (pe_op op_add (pe_op op_mul (pv 6) (pe_op op_add (pe_op op_mul pe_int (pv 3)) pe_int)) (pe_op op_mul (pe_op op_mul pe_int (pv 3)) (pv 3))) pe_int) pe_int) pa_nil)) pe_int))
      (pss_one (ps_ret (pe_op op_mod (pe_callTy call_int1 (by rfl) T.z_int boot_int (pa_cons (pe_op op_fdivW (pv 6) pe_int) pa_nil)) (pv 1)))))))))))), ?_⟩
    have i2 : atI [V.ref cl, V.int at_, V.int rest] 2 = some (V.int rest) := rfl
    have i1 : atI [V.ref cl, V.int at_, V.int rest] 1 = some (V.int at_) := rfl
    have i0 : atI [V.ref cl, V.int at_, V.int rest] 0 = some (V.ref cl) := rfl
    refine ⟨_, rfl, pn, _, _, _, rfl, rfl, SqL.of h1, i2, _, _, rfl, rfl, _, rfl, ?_⟩
    have npc : cl ≠ pn := ne_of h2 h1 (by
      intro z
      injection z with z
      cases ns with
      | nil => cases z
      | cons a l => cases z)
    refine ite2 (fun c => ?_) (fun c => ?_)
    · refine ⟨_, rfl, pn, _, _, _, rfl, rfl, SqL.of h1, i2, .inl ⟨rest, rfl, _, rfl, _, _, rfl, rfl, hm, ?_⟩⟩
      refine ⟨_, rfl, pn, _, _, _, rfl, rfl, SqL.of h1, i2, .inl ⟨rest, rfl, _, rfl, _, _, rfl, rfl, ⟨hm, hml⟩, _, rfl, pn, _, _, 2, rfl, rfl, h1, rfl, ?_⟩⟩
      refine ⟨_, rfl, k _ _ (Int.emod_nonneg _ (by omega)) (Int.emod_lt_of_pos _ hm) ?_ But.put⟩
      exact ⟨ns, at_, rest / m, upd_same, by rw [upd_ne npc]; exact h2, h3, h4, by omega⟩
    · refine ⟨_, rfl, pn, _, _, _, rfl, rfl, SqL.of h1, i1, ?_⟩
      refine ⟨_, rfl, _, _, rfl, rfl, _, rfl, pn, _, _, 1, rfl, rfl, h1, rfl, ?_⟩
      refine ⟨_, rfl, _, _, rfl, rfl, .inl ⟨by decide, by decide⟩, _, _, rfl, rfl, ?_⟩
      have i0' : atI [V.ref cl, V.int (at_ + 1), V.int rest] 0 = some (V.ref cl) := rfl
      refine ⟨fun σ H2 => ∃ (cell : Int) (v5 v6 : Option V), σ = [some (.ref pn), some (.int m), none, some (.int at_), some (.int cell), v5, v6] ∧ H2 pn = some (.lst [.ref cl, .int (at_ + 1), .int rest]) ∧ H2 cl = some (.lst (ns.map V.int)) ∧ But pn H H2, ?_, ?_⟩
      · refine ⟨_, rfl, pn, _, _, _, rfl, rfl, SqL.of upd_same, i0', (by show 0 ≤ sizeLine; decide), fun l hl => ?_⟩
        have nlp : pn ≠ l := ne_of_none (upd_same (H := H) (a := pn)) hl
        have nlc : cl ≠ l := ne_of_none (by rw [upd_ne npc]; exact h2) hl
        have w1 : (upd (upd H pn (.lst [.ref cl, .int (at_ + 1), .int rest])) l (.lst [])) pn = some (.lst [.ref cl, .int (at_ + 1), .int rest]) := by rw [upd_ne nlp, upd_same]
        have w2 : (upd (upd H pn (.lst [.ref cl, .int (at_ + 1), .int rest])) l (.lst [])) cl = some (.lst (ns.map V.int)) := by rw [upd_ne nlc, upd_ne npc]; exact h2
        have wb : But pn H (upd (upd H pn (.lst [.ref cl, .int (at_ + 1), .int rest])) l (.lst [])) := But.put.trans (But.new hl)
        refine ⟨.list (ns.map PyData.int), .list [], .lst (SqL.of w2) (dp_ints ns), .lst (SqL.of upd_same) .nil, shaped_ints ns, rfl, _, rfl, ?_⟩
        cases ns with
        | nil =>
          refine iteF ?_
          exact ⟨_, _, _, rfl, w1, w2, wb⟩
        | cons z zs =>
          refine iteT ?_
          have hl0 : (0 : Int) < (((z :: zs).map V.int).length : Int) := by
            rw [List.length_map, List.length_cons]
            omega
          obtain ⟨v, hv⟩ : ∃ v, ((z :: zs))[(at_ % (((z :: zs).map V.int).length : Int)).toNat]? = some v := by
            have g := Int.emod_lt_of_pos at_ hl0
            have g0 := Int.emod_nonneg at_ (show (((z :: zs).map V.int).length : Int) ≠ 0 by omega)
            refine ⟨_, List.getElem?_eq_getElem ?_⟩
            rw [List.length_map] at g g0 ⊢
            omega
          refine ⟨_, rfl, pn, _, _, _, rfl, rfl, SqL.of w1, i0', _, rfl, .inl ⟨at_, rfl, _, rfl, pn, _, _, _, rfl, rfl, SqL.of w1, i0', _, _, rfl, .inl ⟨_, SqL.of w2, rfl⟩, _, _, rfl, rfl, hl0, cl, _, _, .int v, rfl, rfl, SqL.of w2, ?_, ?_⟩⟩
          · have g0 := Int.emod_nonneg at_ (show (((z :: zs).map V.int).length : Int) ≠ 0 by omega)
            refine at_of (j := (at_ % (((z :: zs).map V.int).length : Int)).toNat) (by omega) ?_
            rw [List.getElem?_map, hv]
            rfl
          · exact ⟨_, _, _, rfl, w1, w2, wb⟩
      · rintro σ H2 ⟨cell, v5, v6, rfl, g1, g2, hb⟩
        have pen2 : ∀ r : Int, PenC (upd H2 pn (.lst [.ref cl, .int (at_ + 1), .int r])) pn cl (n + 1) := fun r =>
          ⟨ns, at_ + 1, r, upd_same, by rw [upd_ne npc]; exact g2, h3, by omega, by omega⟩
        refine ⟨fun σ H3 => ∃ (v5 v6 : Option V), σ = [some (.ref pn), some (.int m), none, some (.int at_), some (.int cell), v5, v6] ∧ H3 = H2, ?_, ?_⟩
        · refine ⟨_, rfl, _, rfl, pn, _, _, _, rfl, rfl, SqL.of g1, i0', _, _, rfl, .inl ⟨_, SqL.of g2, rfl⟩, _, _, rfl, rfl, _, rfl, ?_⟩
          refine ite2 (fun c1 => ?_) (fun c1 => iteF ⟨_, _, rfl, rfl⟩)
          refine ⟨_, rfl, _, rfl, _, _, rfl, rfl, ⟨by decide, by decide, by decide⟩, _, _, rfl, rfl, _, rfl, ?_⟩
          refine ite2 (fun c2 => ?_) (fun c2 => ⟨_, _, rfl, rfl⟩)
          refine ⟨_, rfl, _, rfl, _, _, rfl, rfl, ⟨by decide, by decide, by decide⟩, _, _, rfl, rfl, _, _, rfl, rfl, .inl ⟨by decide, by decide⟩, _, rfl, _, _, rfl, rfl, .inr ⟨_, rfl, _, _, rfl, rfl, ?_⟩⟩
          refine ⟨_, rfl, .inl ⟨_, rfl, _, rfl, _, _, rfl, rfl, ⟨hm, hml⟩, _, rfl, pn, _, _, 2, rfl, rfl, g1, rfl, ?_⟩⟩
          refine ⟨_, rfl, .inl ⟨_, rfl, _, rfl, _, _, rfl, rfl, hm, ?_⟩⟩
          exact k _ _ (Int.emod_nonneg _ (by omega)) (Int.emod_lt_of_pos _ hm) (pen2 _) (hb.trans But.put)
        · rintro σ H3 ⟨v5, v6, rfl, rfl⟩
          have ea : at_ < 100000 := by omega
          refine ⟨_, rfl, .inl ⟨_, rfl, _, _, rfl, rfl, (by show (0 : Int) < _; decide), _, rfl, _, _, rfl, rfl, .inl ⟨by decide, by decide⟩, _, _, rfl, rfl, _, _, rfl, rfl, _, _, rfl, rfl, ⟨by decide, by decide, ?_⟩, .inl ⟨_, rfl, _, _, rfl, rfl, (by show (0 : Int) < _; decide), ?_⟩⟩⟩
          · have e1 := Int.emod_nonneg cell (show (2147483563 : Int) ≠ 0 by decide)
            have e2 := Int.emod_lt_of_pos cell (show (0 : Int) < 2147483563 by decide)
            refine pow_lt (by omega) (by omega)
          have x0 := Int.emod_nonneg ((cell % 2147483563 + 61445 * at_ + 169) ^ Int.toNat 5) (show (2147483629 : Int) ≠ 0 by decide)
          have x1 := Int.emod_lt_of_pos ((cell % 2147483563 + 61445 * at_ + 169) ^ Int.toNat 5) (show (0 : Int) < 2147483629 by decide)
          refine ⟨_, rfl, _, rfl, _, _, rfl, rfl, .inl ⟨by decide, by decide⟩, _, _, rfl, rfl, _, _, rfl, rfl, .inl ⟨Int.lt_of_lt_of_le (by decide) x0, Int.lt_trans x1 (by decide)⟩, _, rfl, _, _, rfl, rfl, .inl ⟨by decide, by decide⟩, _, rfl, _, _, rfl, rfl, .inr ⟨by omega, by omega⟩, _, _, rfl, rfl, _, _, rfl, rfl, _, _, rfl, rfl, ⟨by decide, by decide, ?_⟩, .inl ⟨_, rfl, _, _, rfl, rfl, (by show (0 : Int) < _; decide), ?_⟩⟩
          · exact mix_lt x0 (Int.lt_trans x1 (by decide)) h4 ea (by decide) (by decide) (by decide) (by decide) (by decide) (by decide)
          refine ⟨_, rfl, _, _, rfl, rfl, ⟨by decide, by decide⟩, .inl ⟨_, rfl, _, rfl, _, _, rfl, rfl, hm, ?_⟩⟩
          exact k _ _ (Int.emod_nonneg _ (by omega)) (Int.emod_lt_of_pos _ hm) ⟨ns, at_ + 1, rest, g1, g2, h3, by omega, by omega⟩ hb
theorem ok_draw {f : Addr} {fd : FuncData} (F : Fun K "_law_draw" "_law_draw" s_draw f fd) (T : BI mg) : FnOk P w K mg base CX0 1 f fd ["_law_pen_here", "_law_many"] spDraw := by
  have G := ok_drawC (P := P) (w := w) (base := base) F T
  have to : ∀ vs H Q E, spDraw vs H Q E → spDrawC vs H Q E := fun vs H Q E h => by
    obtain ⟨pn, m, n, e, hm, hml, hp, hn, k⟩ := h
    obtain ⟨cl, hc⟩ := hp.cells
    exact ⟨pn, cl, m, n, e, hm, hml, hc, hn, fun d H' a b c u => k d H' a b c.pen u⟩
  exact ⟨fun vs H Q E h => G.len vs H Q E (to _ _ _ _ h), fun A outer s H args us vs Q E hr e0 hb r h => G.run A outer s H args us vs Q E hr e0 hb r (to _ _ _ _ h)⟩
theorem ok_pick {f : Addr} {fd : FuncData} (F : Fun K "_law_pick" "_law_pick" s_pick f fd) (T : BI mg) (D_draw : DefAt P w K mg base CX0 1 "_law_draw" ["_law_pen_here", "_law_many"] spDraw) : FnOk P w K mg base CX0 2 f fd ["_law_pen_here", "_law_some"] spPick := by
  refine F.ok sc_pick (fun vs H Q E h => ?_) (fun cdv A outer s H vs Q E hr h => ?_)
  · obtain ⟨pn, l, n, xs, rfl, _⟩ := h
    rfl
  · obtain ⟨pn, l, n, xs, rfl, hl, nl, h0, h1, hp, hn, k⟩ := h
    refine ⟨_, (pss_one (ps_ret (pe_ix ix_list (pv 1) (My.pe_d D_draw (hr.mono (by decide)) (by rfl) pass0 (pa_cons (pv 0) (pa_cons (pe_callB call_len (by rfl) T.z_len PySem.boot_len (pa_cons (pv 1) pa_nil)) pa_nil))) (fun _ _ => rfl)))), ?_⟩
    refine ⟨_, rfl, _, rfl, _, rfl, _, _, rfl, .inl ⟨_, SqL.of hl, rfl⟩, pn, _, n, rfl, by omega, ?_, hp, hn, fun d H' d0 d1 hp' hb => ?_⟩
    · refine Nat.lt_of_lt_of_le (PySem.Flt.log2_lt_of (k := 10) (by decide) ?_) (by decide)
      show xs.length < 1024
      omega
    · obtain ⟨v, hv⟩ : ∃ v, xs[d.toNat]? = some v := ⟨_, List.getElem?_eq_getElem (by omega)⟩
      refine ⟨l, _, _, v, rfl, rfl, SqL.of (hb l _ hl nl), at_of (j := d.toNat) (by omega) hv, ?_⟩
      exact k v H' (List.mem_of_getElem? hv) hp' hb
end
end My
namespace My
open PySem PySem.Spec PyProof.Rows L2
/-- is_integer(v) -/
def spIsint (C : Addr) : Sp := fun vs H Q _ => ∃ (v : V), vs = [v] ∧ TyL C H v ∧ Q (.bl (isI v)) H
abbrev s_isint : Stmt := topS 8
theorem sc_isint : FnScope ["thing"] ["thing"] (defScope s_isint) := ⟨rfl, rfl, rfl, by decide +kernel, rfl, by decide +kernel, by decide +kernel⟩
abbrev s_init : Stmt := inClass (topS 12) 0
theorem sc_init : FnScope ["self", "slope", "more", "part", "value"] ["self", "slope", "more"] (defScope s_init) := ⟨rfl, rfl, rfl, by decide +kernel, rfl, by decide +kernel, by decide +kernel⟩
/-! ### lines -/
def lfs (a b : Int) : List (Str × V) := putF "more" (.int b) (putF "slope" (.int a) [])
theorem sm : ¬ (("slope" : Str) = "more") := by decide +kernel
theorem lfs_slope (a b : Int) : (lfs a b).lookup ("slope" : Str) = some (.int a) := by
  unfold lfs
  rw [lookup_putF, if_neg sm, lookup_putF, if_pos rfl]
theorem lfs_more (a b : Int) : (lfs a b).lookup ("more" : Str) = some (.int b) := by
  unfold lfs
  rw [lookup_putF, if_pos rfl]
theorem lfs_no (a b : Int) {m : Str} (h1 : ¬ m = "more") (h2 : ¬ m = "slope") : (lfs a b).lookup m = none := by
  unfold lfs
  rw [lookup_putF, if_neg h1, lookup_putF, if_neg h2]
  rfl
/-- at p: a Line of the class at C with these parts -/
def LineAt (C : Addr) (H : Hp) (p : Addr) (a b : Int) : Prop := ∃ dx, H p = some (.ins C dx (lfs a b))
theorem LineAt.same {C : Addr} {H H' : Hp} {p : Addr} {a b : Int} (h : LineAt C H p a b) (k : Same H H') : LineAt C H' p a b := by
  obtain ⟨dx, e⟩ := h
  exact ⟨dx, k _ _ e⟩
/-- what the top has written of Line and its errors -/
structure LTx (P : Program) (K : PySem.W.Frag) (mg : Str → Option Value) (CLine CBadLine fBadLine : Addr) : Prop extends BI mg where
  cl : Cls K CLine
  nS : NoAttr K CLine "slope"
  nM : NoAttr K CLine "more"
  gLine : mg "Line" = some (.ref CLine)
  ha : PySem.W.findIn K (.ref CLine) "__class__" = some (some (.builtin "object.__class__"))
  hn : PySem.W.specialIn K (.builtin "object.__class__") "__get__" = some (some (.builtin "getset_descriptor.__get__"))
  ht : PySem.W.takesIn K (.builtin "object.__class__") = some true
  hm : PySem.W.mroIn K CLine (.type "object") = some true
  me : PySem.W.kitOne K (.ref CLine) (.ref CLine) = some true
  e_BadLine : Sup.Err1 P K mg "BadLine" "part" CBadLine fBadLine
  z_str : mg "str" = none
  noInt : PySem.W.kitOne K (.ref CLine) (.type "int") = some false
/-- Line.__init__(self, slope, more) -/
def spInit (C CB : Addr) : Sp := fun vs H Q E => ∃ (p dx : Addr) (sv mv : V), vs = [.ref p, sv, mv] ∧ H p = some (.ins C dx []) ∧ TyL C H sv ∧ TyL C H mv ∧
  (∀ a b H', sv = .int a → mv = .int b → H' p = some (.ins C dx (lfs a b)) → (∀ c o, H c = some o → c ≠ p → H' c = some o) → Q .non H') ∧
  (isI sv = false → ∀ d H', H d = none → H' d = some (.xd [("part", .str "slope")]) → Same H H' → E (.ref CB) (some d) H') ∧
  (isI sv = true → isI mv = false → ∀ d H', H d = none → H' d = some (.xd [("part", .str "more")]) → Same H H' → E (.ref CB) (some d) H')
section
variable {P : Program} {w : World} {K : PySem.W.Frag} {mg : Str → Option Value} {base : Heap} {CLine CBadLine fBadLine : Addr}
theorem ok_isint {f : Addr} {fd : FuncData} (F : Fun K "is_integer" "is_integer" s_isint f fd) (T : LTx P K mg CLine CBadLine fBadLine) : FnOk P w K mg base CX0 1 f fd ["thing"] (spIsint CLine) := by
  refine F.ok sc_isint (fun vs H Q E h => ?_) (fun cdv A outer s H vs Q E hr h => ?_)
  · obtain ⟨v, rfl, _⟩ := h
    rfl
  · obtain ⟨v, rfl, ty, q⟩ := h
    refine ⟨_, (pss_one (ps_ret (pe_and (pe_callB call_isi (by rfl) T.z_isinstance boot_isinstance (pa_cons (pv 0) (pa_cons (pe_bltn (v := .ty "int") (by rfl) T.z_int boot_int rfl) pa_nil))) (pe_one (pe_not (pe_callB call_isi (by rfl) T.z_isinstance boot_isinstance (pa_cons (pv 0) (pa_cons (pe_bltn (v := .ty "bool") (by rfl) T.z_bool boot_bool rfl) pa_nil)))))))), ?_⟩
    rcases ty with ⟨t, ty⟩ | ⟨a, dx, fs, rfl, ea⟩
    case inr => exact ⟨_, rfl, _, _, _, _, false, rfl, .ty _, .base (.ins ea T.cl T.ha T.hn T.ht T.hm), T.noInt, _, rfl, iteF q⟩
    obtain ⟨b, e1, e2, e3⟩ := ty.kint (K := K)
    refine ⟨_, rfl, v, _, _, _, b, rfl, .ty _, ty.tyx, e1, _, rfl, ?_⟩
    cases b with
    | false =>
      refine iteF ?_
      rw [e3 rfl] at q
      exact q
    | true =>
      refine iteT ?_
      obtain ⟨c, e4, e5⟩ := e2 rfl
      refine ⟨_, rfl, v, _, _, _, c, rfl, .ty _, ty.tyx, e4, _, rfl, ?_⟩
      rw [e5] at q
      exact q
theorem ok_init {f : Addr} {fd : FuncData} (F : FunD K "__init__" "Line.__init__" (defArgs s_init) (defBody s_init) (defScope s_init) [.int 0] [] f fd) (T : LTx P K mg CLine CBadLine fBadLine)
    (D_isint : DefAt P w K mg base CX0 1 "is_integer" ["thing"] (spIsint CLine)) : FnOk P w K mg base (L2.CX P w) 3 f fd ["self", "slope", "more"] (spInit CLine CBadLine) := by
  refine F.ok sc_init (fun vs H Q E h => ?_) (fun cdv A outer s H vs Q E hr h => ?_)
  · obtain ⟨p, dx, sv, mv, rfl, _⟩ := h
    rfl
  · obtain ⟨p, dx, sv, mv, rfl, hp, tys, tym, kQ, kS, kM⟩ := h
    refine ⟨_, (pss_cons (ps_for (passes_of rfl) rfl (pi_tup (pe_tup (pa_cons (pe_tup (pa_cons pe_str (pa_cons (pv 1) pa_nil))) (pa_cons (pe_tup (pa_cons pe_str (pa_cons (pv 2) pa_nil))) pa_nil)))) (pg_tup rfl (pgs_cons (pg_name (i := 3) sc_init.nd rfl (Or.inl rfl)) (pgs_cons (pg_name (i := 4) sc_init.nd rfl (Or.inl rfl)) pgs_nil))) (pss_one (ps_if (pt_not (pt_val (My.pe_d D_isint (hr.mono (by decide)) (by rfl) pass0 (pa_cons (pv 4) pa_nil)))) (pss_one (ps_raise1 rfl T.e_BadLine (hr.mono (by decide) : Room 0 _) (takes_of rfl rfl rfl rfl) (pa_cons (pv 3) pa_nil))) pss_nil)))
      (pss_cons (ps_fld (pv 0) (pv 1) rfl)
      (pss_one (ps_fld (pv 0) (pv 2) rfl)))), ?_⟩
    refine ⟨_, rfl, (by show 2 ≤ sizeLine; decide), fun t1 h1 => ⟨_, rfl, (by show 2 ≤ sizeLine; decide), fun t2 h2 => ⟨(by show 2 ≤ sizeLine; decide), fun t3 h3 => ?_⟩⟩⟩
    have w1 : (upd (upd (upd H t1 (.tup [.str "slope", sv])) t2 (.tup [.str "more", mv])) t3 (.tup [.ref t1, .ref t2])) t1 = some (.tup [.str "slope", sv]) := by
      have z1 : (upd H t1 (.tup [.str "slope", sv])) t1 = some (.tup [.str "slope", sv]) := upd_same
      have z2 : (upd (upd H t1 (.tup [.str "slope", sv])) t2 (.tup [.str "more", mv])) t1 = some (.tup [.str "slope", sv]) := by rw [upd_ne (ne_of_none z1 h2)]; exact z1
      rw [upd_ne (ne_of_none z2 h3)]
      exact z2
    have w2 : (upd (upd (upd H t1 (.tup [.str "slope", sv])) t2 (.tup [.str "more", mv])) t3 (.tup [.ref t1, .ref t2])) t2 = some (.tup [.str "more", mv]) := by
      have z2 : (upd (upd H t1 (.tup [.str "slope", sv])) t2 (.tup [.str "more", mv])) t2 = some (.tup [.str "more", mv]) := upd_same
      rw [upd_ne (ne_of_none z2 h3)]
      exact z2
    have s3 : Same H (upd (upd (upd H t1 (.tup [.str "slope", sv])) t2 (.tup [.str "more", mv])) t3 (.tup [.ref t1, .ref t2])) := ((same_new h1).trans (same_new h2)).trans (same_new h3)
    have w3 : (upd (upd (upd H t1 (.tup [.str "slope", sv])) t2 (.tup [.str "more", mv])) t3 (.tup [.ref t1, .ref t2])) t3 = some (.tup [.ref t1, .ref t2]) := upd_same
    generalize (upd (upd (upd H t1 (.tup [.str "slope", sv])) t2 (.tup [.str "more", mv])) t3 (.tup [.ref t1, .ref t2])) = H3 at w1 w2 w3 s3
    refine ⟨t3, rfl, ⟨_, SqT.of w3⟩, for_tup (K := K) (a := t3) (xs := [.ref t1, .ref t2]) (fun i σ H' => ∃ v3 v4, σ = [some (.ref p), some sv, some mv, v3, v4] ∧ H' = H3 ∧ (1 ≤ i → isI sv = true) ∧ (2 ≤ i → isI mv = true))
      ⟨none, none, rfl, rfl, fun z => absurd z (by decide), fun z => absurd z (by decide)⟩ (fun i σ H' _ ⟨_, _, _, e, _⟩ => by rw [e]; exact SqT.of w3) ?_ ?_⟩
    · rintro i x σ H' hi ⟨v3, v4, rfl, rfl, c1, c2⟩
      rcases i with _ | _ | i
      · obtain rfl : V.ref t1 = x := Option.some.inj hi
        refine ⟨t1, _, rfl, SqT.of w1, rfl, _, _, rfl, _, _, rfl, rfl, ?_⟩
        refine ⟨_, rfl, sv, rfl, tys.same s3, _, rfl, ?_⟩
        cases e : isI sv with
        | false =>
          refine iteT ?_
          exact ⟨_, rfl, _, rfl, fun d hd => kS e d _ (s3.free hd) upd_same (s3.trans (same_new hd))⟩
        | true =>
          refine iteF ?_
          exact ⟨_, _, rfl, rfl, fun _ => (by first | exact e | rfl), fun z => absurd z (by decide)⟩
      · obtain rfl : V.ref t2 = x := Option.some.inj hi
        refine ⟨t2, _, rfl, SqT.of w2, rfl, _, _, rfl, _, _, rfl, rfl, ?_⟩
        refine ⟨_, rfl, mv, rfl, tym.same s3, _, rfl, ?_⟩
        cases e : isI mv with
        | false =>
          refine iteT ?_
          exact ⟨_, rfl, _, rfl, fun d hd => kM (c1 (by decide)) e d _ (s3.free hd) upd_same (s3.trans (same_new hd))⟩
        | true =>
          refine iteF ?_
          exact ⟨_, _, rfl, rfl, fun _ => c1 (by decide), fun _ => (by first | exact e | rfl)⟩
      · cases hi
    · rintro σ H' ⟨v3, v4, rfl, rfl, c1, c2⟩
      obtain ⟨a, rfl⟩ := isI_int (c1 (show 1 ≤ 2 by decide))
      obtain ⟨b, rfl⟩ := isI_int (c2 (show 2 ≤ 2 by decide))
      refine ⟨_, rfl, _, rfl, p, CLine, dx, _, rfl, s3 _ _ hp, T.cl, T.nS, (by show 0 < 1000; decide), ?_⟩
      refine ⟨_, rfl, _, rfl, p, CLine, dx, _, rfl, upd_same, T.cl, T.nM, (by show 1 < 1000; decide), ?_⟩
      refine kQ a b _ rfl rfl upd_same fun c o z nc => ?_
      rw [upd_ne nc, upd_ne nc]
      exact s3 c o z
end
abbrev s_rank : Stmt := inClass (topS 12) 6
theorem sc_rank : FnScope ["self"] ["self"] (defScope s_rank) := ⟨rfl, rfl, rfl, by decide +kernel, rfl, by decide +kernel, by decide +kernel⟩
abbrev s_eq : Stmt := inClass (topS 12) 18
theorem sc_eq : FnScope ["self", "other"] ["self", "other"] (defScope s_eq) := ⟨rfl, rfl, rfl, by decide +kernel, rfl, by decide +kernel, by decide +kernel⟩
theorem init_at {C CB : Addr} {H : Hp} {x dx : Addr} {a b : Int} {R : Hp → Prop} {E : XK} (hx : H x = none) (hd : H dx = none) (ne : dx ≠ x) (k : ∀ H', LineAt C H' x a b → Same H H' → R H') :
    spInit C CB (.ref x :: ([.int a, .int b] ++ [])) (upd (upd H dx (.own x)) x (.ins C dx [])) (fun v H2 => v = .non ∧ R H2) E := by
  refine ⟨x, dx, _, _, rfl, upd_same, TyL.int _ _ a, TyL.int _ _ b, fun a' b' H' ea eb h1 h2 => ⟨rfl, ?_⟩, fun z => Bool.noConfusion z, fun _ z => Bool.noConfusion z⟩
  cases ea
  cases eb
  refine k H' ⟨dx, h1⟩ fun c o e => ?_
  refine h2 c o ?_ (ne_of_none e hx)
  rw [upd_ne (ne_of_none e hx), upd_ne (ne_of_none e hd)]
  exact e
/-- what an error of the class C with the field f = v is wished for -/
def Errs (E : XK) (C : Addr) (f : Str) (v : V) (H : Hp) : Prop := ∀ (d : Addr) (H' : Hp), H d = none → H' d = some (.xd [(f, v)]) → Same H H' → E (.ref C) (some d) H'
theorem Errs.go {E : XK} {C : Addr} {f : Str} {v : V} {H : Hp} (h : Errs E C f v H) {d : Addr} (hd : H d = none) : E (.ref C) (some d) (upd H d (.xd [(f, v)])) := h d _ hd upd_same (same_new hd)
theorem Errs.up {E : XK} {C : Addr} {f : Str} {v : V} {H H1 : Hp} (h : Errs E C f v H) (s : Same H H1) : Errs E C f v H1 := fun d H' hd hx s' => h d H' (s.free hd) hx (s.trans s')
def spRank (C : Addr) : Sp := fun vs H Q _ => ∃ (p : Addr) (a b : Int), vs = [.ref p] ∧ LineAt C H p a b ∧ ∀ t, H t = none → Q (.ref t) (upd H t (.tup [.int a, .int b]))
def spEq (C : Addr) : Sp := fun vs H Q _ => ∃ (p q : Addr) (a b c d : Int), vs = [.ref p, .ref q] ∧ LineAt C H p a b ∧ LineAt C H q c d ∧ ∀ H', Same H H' → Q (.bl (decide (a = c ∧ b = d))) H'
section
variable {P : Program} {w : World} {K : PySem.W.Frag} {mg : Str → Option Value} {base : Heap} {CLine CBadLine fBadLine : Addr}
theorem ok_rank {f : Addr} {fd : FuncData} (F : Fun K "rank" "Line.rank" s_rank f fd) (T : LTx P K mg CLine CBadLine fBadLine) : FnOk P w K mg base CX0 1 f fd ["self"] (spRank CLine) := by
  refine F.ok sc_rank (fun vs H Q E h => ?_) (fun cdv A outer s H vs Q E hr h => ?_)
  · obtain ⟨p, a, b, rfl, _⟩ := h
    rfl
  · obtain ⟨p, a, b, rfl, ⟨dx, hp⟩, k⟩ := h
    refine ⟨_, (pss_one (ps_ret (pe_tup (pa_cons (pe_fld (pv 0) rfl) (pa_cons (pe_fld (pv 0) rfl) pa_nil))))), ?_⟩
    exact ⟨_, rfl, p, CLine, dx, _, _, rfl, hp, T.cl, T.nS, lfs_slope _ _, _, rfl, p, CLine, dx, _, _, rfl, hp, T.cl, T.nM, lfs_more _ _, (by show 2 ≤ sizeLine; decide), k⟩
theorem ok_eq {f : Addr} {fd : FuncData} (F : Fun K "__eq__" "Line.__eq__" s_eq f fd) (T : LTx P K mg CLine CBadLine fBadLine)
    (X_rank : MethAt P w K mg base CX0 1 CLine "rank" ["self"] (spRank CLine)) : FnOk P w K mg base CX0 2 f fd ["self", "other"] (spEq CLine) := by
  refine F.ok sc_eq (fun vs H Q E h => ?_) (fun cdv A outer s H vs Q E hr h => ?_)
  · obtain ⟨p, q, a, b, c, d, rfl, _⟩ := h
    rfl
  · obtain ⟨p, q, a, b, c, d, rfl, ⟨dx, hp⟩, ⟨dy, hq⟩, k⟩ := h
    refine ⟨_, (pss_one (ps_ret (pe_and (pe_callB call_isi (by rfl) T.z_isinstance boot_isinstance (pa_cons (pv 1) (pa_cons (pe_glob (v := .ref CLine) (by rfl) T.gLine rfl) pa_nil))) (pe_one (pe_cmpR (op_eqD hr.units) (My.pe_mt0 T.cl X_rank (hr.mono (by decide)) pass0 (pv 0)) (My.pe_mt0 T.cl X_rank (hr.mono (by decide)) pass0 (pv 1)) (nomark _)))))), ?_⟩
    refine ⟨_, rfl, _, _, _, _, true, rfl, .own _, .base (.ins hq T.cl T.ha T.hn T.ht T.hm), T.me, _, rfl, iteT ?_⟩
    refine ⟨_, rfl, p, dx, _, rfl, hp, lfs_no _ _ (by decide +kernel) (by decide +kernel), p, a, b, rfl, ⟨dx, hp⟩, fun t1 h1 => ?_⟩
    have hq1 := same_new (o := .tup [.int a, .int b]) h1 _ _ hq
    refine ⟨_, rfl, q, dy, _, rfl, hq1, lfs_no _ _ (by decide +kernel) (by decide +kernel), q, c, d, rfl, ⟨dy, hq1⟩, fun t2 h2 => ?_⟩
    have w1 := same_new (o := .tup [.int c, .int d]) h2 _ _ (upd_same (H := H) (a := t1) (o := .tup [.int a, .int b]))
    refine ⟨.tuple [.int a, .int b], .tuple [.int c, .int d], .tup (SqT.of w1) (.cons (.int a) (.cons (.int b) .nil)), .tup (SqT.of upd_same) (.cons (.int c) (.cons (.int d) .nil)), rfl, rfl, ?_⟩
    have e : PyData.eqv (.tuple [.int a, .int b]) (.tuple [.int c, .int d]) = decide (a = c ∧ b = d) := by
      show (a == c && (b == d && true)) = decide (a = c ∧ b = d)
      rw [Bool.and_true, Bool.decide_and]
      rfl
    rw [e]
    exact k _ ((same_new h1).trans (same_new h2))
end
abbrev s_textof : Stmt := topS 13
theorem sc_textof : FnScope ["slope", "more", "head", "sign"] ["slope", "more"] (defScope s_textof) := ⟨rfl, rfl, rfl, by decide +kernel, rfl, by decide +kernel, by decide +kernel⟩
abbrev s_str : Stmt := inClass (topS 12) 23
theorem sc_str : FnScope ["self"] ["self"] (defScope s_str) := ⟨rfl, rfl, rfl, by decide +kernel, rfl, by decide +kernel, by decide +kernel⟩
def headT (a : Int) : Str := if a = 1 then "m" else if a = -1 then "-m" else (Str.empty ++ ((toString a : String) : Str)) ++ "m"
def lineT (a b : Int) : Str := if a = 0 then ((toString b : String) : Str) else if b = 0 then headT a else ((((Str.empty ++ headT a) ++ " ") ++ (if 0 < b then "+" else "-")) ++ " ") ++ ((toString (if b < 0 then -b else b) : String) : Str)
def twoS : List (Key × V) := [(.inl 1, .str "m"), (.inl (-1), .str "-m")]
theorem head_eq (a : Int) (z : Str) : (valV (mergeK [] twoS) (.inl a)).getD (.str z) = .str (if a = 1 then "m" else if a = -1 then "-m" else z) := by
  have e : mergeK [] twoS = twoS := by decide +kernel
  rw [e]
  by_cases h1 : a = 1
  · subst h1
    rfl
  · by_cases h2 : a = -1
    · subst h2
      rfl
    · have n1 : ¬ ((.inl 1 : Key) = .inl a) := fun z => h1 (Sum.inl.inj z).symm
      have n2 : ¬ ((.inl (-1) : Key) = .inl a) := fun z => h2 (Sum.inl.inj z).symm
      unfold twoS
      rw [valV_neg n1, valV_neg n2, valV_nil, if_neg h1, if_neg h2]
      rfl
theorem headT_len {a : Int} (h : a.natAbs.log2 < 1920) : (headT a).length ≤ 2000 := by
  unfold headT
  split
  · decide
  · split
    · decide
    · have e := num_len h
      rw [app_len, app_len]
      have e1 : (Str.empty).length = 0 := rfl
      have e2 : (("m" : Str)).length = 1 := rfl
      omega
section
variable {P : Program} {w : World} {K : PySem.W.Frag} {mg : Str → Option Value} {base : Heap} {CLine CBadLine fBadLine : Addr}
def spText : Sp := fun vs H Q _ => ∃ (a b : Int), vs = [.int a, .int b] ∧ a.natAbs.log2 < 1920 ∧ b.natAbs.log2 < 1920 ∧ ∀ H', Same H H' → Q (.str (lineT a b)) H'
theorem ok_textof {f : Addr} {fd : FuncData} (F : Fun K "text_of" "text_of" s_textof f fd) (T : LTx P K mg CLine CBadLine fBadLine) : FnOk P w K mg base CX0 1 f fd ["slope", "more"] spText := by
  refine F.ok sc_textof (fun vs H Q E h => ?_) (fun cdv A outer s H vs Q E hr h => ?_)
  · obtain ⟨a, b, rfl, _⟩ := h
    rfl
  · obtain ⟨a, b, rfl, ha, hb, k⟩ := h
    refine ⟨_, (pss_cons (ps_if (pt_cmpR op_eq (pv 0) pe_int (nomark _)) (pss_one (ps_ret (pe_callTy call_str_int (by rfl) T.z_str boot_str (pa_cons (pv 1) pa_nil)))) pss_nil)
      (pss_cons (ps_set (i := 2) sc_textof.nd rfl (Or.inl rfl) (pe_dget2 (hu_of hr) (pe_disp (pps_cons pe_int pe_str (pps_cons (pe_un un_neg pe_int) pe_str pps_nil)) rfl rfl (by simp) (by decide)) (pv 0) (pe_joined (PJ.cons (pe_fmt (pv 0)) (PJ.cons pe_str PJ.nil))) ⟨rfl, rfl, rfl, rfl⟩))
      (pss_cons (ps_if (pt_cmpR op_eq (pv 1) pe_int (nomark _)) (pss_one (ps_ret (pv 2))) pss_nil)
      (pss_cons (ps_set (i := 3) sc_textof.nd rfl (Or.inl rfl) (pe_ifExp (pt_cmpR op_gt (pv 1) pe_int (nomark _)) pe_str pe_str))
      (pss_one (ps_ret (pe_joined (PJ.cons (pe_fmt (pv 2)) (PJ.cons pe_str (PJ.cons (pe_fmt (pv 3)) (PJ.cons pe_str (PJ.cons (pe_fmt (pe_callB call_abs (by rfl) T.z_abs boot_abs (pa_cons (pv 1) pa_nil))) PJ.nil)))))))))))), ?_⟩
    refine ⟨_, rfl, rfl, _, rfl, ?_⟩
    refine ite2 (fun c => ?_) (fun c => ?_)
    · have c' : a = 0 := by
        have z := of_decide_eq_true c
        injection z
      refine ⟨_, rfl, b, rfl, hb, ?_⟩
      have z := k H fun _ _ z => z
      unfold lineT at z
      rw [if_pos c'] at z
      exact z
    · have c' : ¬ a = 0 := fun z => c (decide_eq_true (by rw [z]))
      have la := num_len ha
      refine fun p hp => ⟨1, rfl, upd_same, twoS, rfl, by decide, p, rfl, .inl ⟨_, .inl upd_same⟩, _, rfl, _, rfl, .inr ⟨a, rfl, ha, _, rfl, ?_, _, rfl, ?_, _, DGet.k (k := .inl a) upd_same, ?_⟩⟩
      · rw [app_len, sizeLine_eq]
        have e1 : (Str.empty).length = 0 := rfl
        omega
      · rw [app_len, app_len, sizeLine_eq]
        have e1 : (Str.empty).length = 0 := rfl
        have e2 : (("m" : Str)).length = 1 := rfl
        omega
      · rw [head_eq]
        have ss : Same H (upd (upd H p (.dK [])) p (.dK (mergeK [] twoS))) := fun x o e => by
          rw [upd_ne (ne_of_none e hp), upd_ne (ne_of_none e hp)]
          exact e
        have z := k _ ss
        unfold lineT at z
        rw [if_neg c'] at z
        have hl := headT_len ha
        show tSeq _ _ _ _ _
        refine ⟨_, rfl, rfl, _, rfl, ?_⟩
        refine ite2 (fun d => ?_) (fun d => ?_)
        · have d' : b = 0 := by
            have z := of_decide_eq_true d
            injection z
          rw [if_pos d'] at z
          exact ⟨_, rfl, z⟩
        · have d' : ¬ b = 0 := fun z => d (decide_eq_true (by rw [z]))
          rw [if_neg d'] at z
          have lb : (if b < 0 then -b else b).natAbs.log2 < 1920 := by
            have e : (if b < 0 then -b else b).natAbs = b.natAbs := by split <;> omega
            rw [e]
            exact hb
          have nb := num_len lb
          have e1 : (Str.empty).length = 0 := rfl
          have e2 : ((" " : Str)).length = 1 := rfl
          have e3 : (("+" : Str)).length = 1 := rfl
          have e4 : (("-" : Str)).length = 1 := rfl
          have hh : headT a = (if a = 1 then ("m" : Str) else if a = -1 then "-m" else (Str.empty ++ ((toString a : String) : Str)) ++ "m") := rfl
          rw [← hh]
          refine ⟨_, rfl, _, _, rfl, rfl, _, rfl, ?_⟩
          refine ite2 (fun g => ?_) (fun g => ?_)
          · rw [if_pos (of_decide_eq_true g)] at z
            refine ⟨_, rfl, .inl ⟨headT a, rfl, by rw [sizeLine_eq]; omega, _, rfl, by rw [app_len, sizeLine_eq]; omega, _, rfl, by rw [app_len, app_len, sizeLine_eq]; omega, _, rfl, .inl ⟨_, rfl, by rw [sizeLine_eq]; omega, _, rfl, by rw [app_len, app_len, app_len, sizeLine_eq]; omega, _, rfl, by rw [app_len, app_len, app_len, app_len, sizeLine_eq]; omega, _, rfl, b, rfl, .inr ⟨_, rfl, lb, _, rfl, by rw [app_len, app_len, app_len, app_len, app_len, sizeLine_eq]; omega, z⟩⟩⟩⟩
          · rw [if_neg (fun q => g (decide_eq_true q))] at z
            refine ⟨_, rfl, .inl ⟨headT a, rfl, by rw [sizeLine_eq]; omega, _, rfl, by rw [app_len, sizeLine_eq]; omega, _, rfl, by rw [app_len, app_len, sizeLine_eq]; omega, _, rfl, .inl ⟨_, rfl, by rw [sizeLine_eq]; omega, _, rfl, by rw [app_len, app_len, app_len, sizeLine_eq]; omega, _, rfl, by rw [app_len, app_len, app_len, app_len, sizeLine_eq]; omega, _, rfl, b, rfl, .inr ⟨_, rfl, lb, _, rfl, by rw [app_len, app_len, app_len, app_len, app_len, sizeLine_eq]; omega, z⟩⟩⟩⟩
def spStr (C : Addr) : Sp := fun vs H Q _ => ∃ (p : Addr) (a b : Int), vs = [.ref p] ∧ LineAt C H p a b ∧ a.natAbs.log2 < 1920 ∧ b.natAbs.log2 < 1920 ∧ ∀ H', Same H H' → Q (.str (lineT a b)) H'
theorem ok_str {f : Addr} {fd : FuncData} (F : Fun K "__str__" "Line.__str__" s_str f fd) (T : LTx P K mg CLine CBadLine fBadLine) (D_textof : DefAt P w K mg base CX0 1 "text_of" ["slope", "more"] spText) : FnOk P w K mg base CX0 2 f fd ["self"] (spStr CLine) := by
  refine F.ok sc_str (fun vs H Q E h => ?_) (fun cdv A outer s H vs Q E hr h => ?_)
  · obtain ⟨p, a, b, rfl, _⟩ := h
    rfl
  · obtain ⟨p, a, b, rfl, ⟨dx, hp⟩, ha, hb, k⟩ := h
    refine ⟨_, (pss_one (ps_ret (pe_callTy SkE.call_str_str (by rfl) T.z_str boot_str (pa_cons (My.pe_d D_textof (hr.mono (by decide)) (by rfl) pass0 (pa_cons (pe_fld (pv 0) rfl) (pa_cons (pe_fld (pv 0) rfl) pa_nil))) pa_nil)))), ?_⟩
    exact ⟨_, rfl, p, CLine, dx, _, _, rfl, hp, T.cl, T.nS, lfs_slope _ _, _, rfl, p, CLine, dx, _, _, rfl, hp, T.cl, T.nM, lfs_more _ _, a, b, rfl, ha, hb, fun H' s => ⟨_, rfl, k H' s⟩⟩
end
end My
set_option pp.maxSteps 1500
set_option pp.deepTerms.threshold 8
/-! ### lines read -/
namespace My
open PySem PySem.Spec PyProof.Rows L2 TL TX
abbrev s_digin : Stmt := topS 9
theorem sc_digin : FnScope ["word", "sign"] ["word"] (defScope s_digin) := ⟨rfl, rfl, rfl, by decide +kernel, rfl, by decide +kernel, by decide +kernel⟩
abbrev s_intin : Stmt := topS 10
theorem sc_intin : FnScope ["word", "found"] ["word"] (defScope s_intin) := ⟨rfl, rfl, rfl, by decide +kernel, rfl, by decide +kernel, by decide +kernel⟩
abbrev s_slopein : Stmt := topS 11
theorem sc_slopein : FnScope ["word", "found"] ["word"] (defScope s_slopein) := ⟨rfl, rfl, rfl, by decide +kernel, rfl, by decide +kernel, by decide +kernel⟩
abbrev s_morein : Stmt := topS 14
theorem sc_morein : FnScope ["words", "found"] ["words"] (defScope s_morein) := ⟨rfl, rfl, rfl, by decide +kernel, rfl, by decide +kernel, by decide +kernel⟩
abbrev s_read : Stmt := inClass (topS 12) 4
theorem sc_read : FnScope ["cls", "text", "words", "slope", "more"] ["cls", "text"] (defScope s_read) := ⟨rfl, rfl, rfl, by decide +kernel, rfl, by decide +kernel, by decide +kernel⟩
structure STx (P : Program) (K : PySem.W.Frag) (mg : Str → Option Value) (CLine CBadLine fBadLine CT fT : Addr) (tM tD : Tok) : Prop extends LTx P K mg CLine CBadLine fBadLine where
  e_BadText : Sup.Err2 P K mg "BadText" "line" "word" CT fT
  gMost : mg "MOST_DIGITS" = some (.int 60 tM)
  gDigits : mg "DIGITS" = some (.str "0123456789" tD)
  z_all : mg "all" = none
  noStr : PySem.W.kitOne K (.ref CLine) (.type "str") = some false
/-- an int or None -/
def optV : Option Int → V
  | none => .non
  | some k => .int k
def spWord (f : List Nat → Option Int) : Sp := fun vs H Q _ => ∃ x : Str, vs = [.str x] ∧ x.length ≤ 5000 ∧ ∀ H', Same H H' → Q (optV (f (tl x))) H'
theorem atI_0 {xs : List Nat} {c : Nat} (h : xs[0]? = some c) : atI xs (0 : Int) = some c := by
  have hl : 0 < xs.length := (List.getElem?_eq_some_iff.mp h).1
  unfold atI ixN
  rw [if_pos (by decide), if_pos (by omega)]
  exact h
theorem sl5 {x : Str} (h : x.length ≤ 5000) : x.length ≤ sizeLine := by rw [sizeLine_eq]; omega
section
variable {P : Program} {w : World} {K : PySem.W.Frag} {mg : Str → Option Value} {base : Heap} {CLine CBadLine fBadLine CT fT : Addr} {tM tD : Tok}
theorem ok_digin {f : Addr} {fd : FuncData} (F : Fun K "digits_in" "digits_in" s_digin f fd) (T : STx P K mg CLine CBadLine fBadLine CT fT tM tD) : FnOk P w K mg base CX0 1 f fd ["word"] (spWord dg) := by
  refine F.ok sc_digin (fun vs H Q E h => ?_) (fun cdv A outer s H vs Q E hr h => ?_)
  · obtain ⟨x, rfl, _⟩ := h
    rfl
  · obtain ⟨x, rfl, hx, k⟩ := h
    refine ⟨_, (pss_cons (ps_if (PW.pt (pw_or (pt_not (pt_chain op_le op_le pe_int (pe_callB call_len (by rfl) T.z_len PySem.boot_len (pa_cons (pv 0) pa_nil)) (pe_glob (v := .int 60) rfl T.gMost ⟨_, rfl⟩))) (pw_or1 (pt_not (pt_val (pe_callB (cr_all rfl) (by rfl) T.z_all boot_all (pa_cons (pe_lc (own := [("sign", 1)]) rfl sc_digin.nd (pi_str (pv 0)) (blkOk_by (by show blkC ["word", "sign"] (defScope s_digin) _ _ = true; decide +kernel)) (fun _ _ _ _ _ => (pg_name (i := 1) sc_digin.nd rfl (Or.inl rfl))) (fun _ _ _ _ _ => pts_nil) (fun _ _ _ _ _ => (pe_cmpR op_in_sign (pv 1) (pe_glob (v := .str "0123456789") rfl T.gDigits ⟨_, rfl⟩) (by rfl)))) pa_nil))))))) (pss_one (ps_ret pe_non)) pss_nil)
      (pss_one (ps_ret (pe_ifExp (PW.pt (pw_and (pt_cmpR op_gt (pe_callB call_len (by rfl) T.z_len PySem.boot_len (pa_cons (pv 0) pa_nil)) pe_int (nomark _)) (pw_and1 (pt_cmpR op_eq (pe_ix ix_str (pv 0) pe_int (fun _ _ => rfl)) pe_str (nomark _))))) pe_non (pe_callTy call_int_str (by rfl) T.z_int boot_int (pa_cons (pv 0) pa_nil)))))), ?_⟩
    have lx := len_tl x
    refine ⟨_, rfl, _, _, rfl, ⟨sl5 hx, rfl⟩, _, _, rfl, rfl, ?_⟩
    have none_of : okD (tl x) = false → ∀ H', Same H H' → Q .non H' := fun e H' s => by
      have z := k H' s
      unfold dg at z
      rw [if_neg (by rw [e]; decide)] at z
      exact z
    have bad1 : ¬ (1 ≤ x.length ∧ x.length ≤ 60) → okD (tl x) = false := fun z => by
      rw [Bool.eq_false_iff]
      intro y
      obtain ⟨y1, y2, _⟩ := okD_all y
      omega
    refine ⟨_, rfl, ite2 (fun c1 => ?_) (fun c1 => ?_)⟩
    · refine ⟨_, _, rfl, rfl, _, rfl, ite2 (fun c2 => ?_) (fun c2 => ?_)⟩
      · refine iteT (none_of (bad1 fun z => ?_) H fun _ _ e => e)
        rw [decide_eq_true (show (x.length : Int) ≤ 60 by omega)] at c2
        exact absurd c2 (by decide)
      have l1 : 1 ≤ x.length := by
        have := of_decide_eq_true c1
        omega
      have l2 : x.length ≤ 60 := by
        by_cases z : (x.length : Int) ≤ 60
        · omega
        · rw [decide_eq_false z] at c2
          exact absurd rfl c2
      refine ⟨_, rfl, x, rfl, fun D hD => ?_⟩
      refine lc_it walk_str (fun i Hh => Hh D = some (.lst (((tl x).take i).map fun c => V.bl (isDig c))) ∧ Same H Hh) ⟨upd_same, same_new hD⟩ (fun _ _ _ _ => trivial) ?_ ?_
      · rintro i v Hh H' hi ⟨g1, g2⟩ ⟨rfl, c, hc, rfl⟩
        have hc' : (tl x)[i]? = some c := by
          rw [← hc]
          exact Array.getElem?_toList
        refine ⟨rfl, yes_go ⟨_, rfl, c, _, rfl, rfl, _, g1, ?_, ?_, ?_⟩⟩
        · rw [List.length_map, List.length_take, sizeLine_eq]
          omega
        · rw [take1 hc', List.map_append, dig_mem]
          exact upd_same
        · intro b o e
          rw [upd_ne (ne_of_none e hD)]
          exact g2 _ _ e
      rintro Hh ⟨g1, g2⟩
      have el : (tl x).take x.cps.size = tl x := List.take_of_length_le (by rw [← lx]; exact Nat.le_refl _)
      rw [el] at g1
      refine ⟨D, (tl x).map isDig, rfl, SqL.of (by rw [List.map_map]; exact g1), _, rfl, ?_⟩
      have ea : ((tl x).map isDig).all id = (tl x).all isDig := by rw [List.all_map]; rfl
      rw [ea]
      have eo : okD (tl x) = (tl x).all isDig := by
        unfold okD
        rw [decide_eq_true (show 1 ≤ (tl x).length by omega), decide_eq_true (show (tl x).length ≤ 60 by omega), Bool.true_and, Bool.true_and]
      cases e : (tl x).all isDig with
      | false => exact iteT (none_of (by rw [eo, e]) Hh g2)
      | true =>
        rw [e] at eo
        refine iteF ?_
        obtain ⟨n1, n2⟩ := int_of eo
        have kk := k Hh g2
        unfold dg at kk
        rw [if_pos eo] at kk
        refine ⟨_, rfl, _, _, rfl, ⟨sl5 hx, rfl⟩, _, _, rfl, rfl, _, rfl, ite2 (fun c3 => ?_) (fun c3 => ?_)⟩
        · have c3' : 1 < (tl x).length := by
            have := of_decide_eq_true c3
            omega
          obtain ⟨c, hc⟩ : ∃ c, (tl x)[0]? = some c := ⟨_, List.getElem?_eq_getElem (by omega)⟩
          have hh : (tl x).head? = some c := by rw [← hc]; cases tl x <;> rfl
          have ha : atI x.cps.toList (0 : Int) = some c := atI_0 hc
          refine ⟨_, rfl, x, 0, c, rfl, rfl, sl5 hx, ha, rfl, _, rfl, ?_⟩
          rw [hh] at kk
          have e0 : tl ("0" : Str) = [48] := by decide +kernel
          rw [str_eq, e0]
          refine ite2 (fun c4 => ?_) (fun c4 => ?_)
          · have c4' : c = 48 := (List.cons.inj (of_decide_eq_true c4)).1
            rw [if_pos ⟨c3', by rw [c4']⟩] at kk
            exact kk
          · rw [if_neg (fun z => c4 (decide_eq_true (by
              have : c = 48 := Option.some.inj z.2
              rw [this])))] at kk
            exact ⟨_, rfl, x, _, rfl, n1, n2, kk⟩
        · rw [if_neg (fun z => c3 (decide_eq_true (by
            have := z.1
            omega)))] at kk
          exact ⟨_, rfl, x, _, rfl, n1, n2, kk⟩
    · exact ⟨_, rfl, iteT (none_of (bad1 fun z => c1 (decide_eq_true (by omega))) H fun _ _ e => e)⟩
theorem str_ne {x y : Str} : (!decide (V.str x = V.str y)) = !decide (tl x = tl y) := by rw [str_eq]
theorem in_opt {o : Option Int} {ns : List Int} : inV (optV o) (V.non :: ns.map V.int) = (match o with | none => true | some k => ns.any fun y => y == k) := by
  cases o with
  | none => rfl
  | some k =>
    show (false || (ns.map V.int).any fun y => eqV y (.int k)) = _
    rw [Bool.false_or, List.any_map]
    rfl
theorem flat_opt (o : Option Int) : flatV (optV o) = true := by cases o <;> rfl
theorem ok_intin {f : Addr} {fd : FuncData} (F : Fun K "integer_in" "integer_in" s_intin f fd) (T : STx P K mg CLine CBadLine fBadLine CT fT tM tD) (D_digin : DefAt P w K mg base CX0 1 "digits_in" ["word"] (spWord dg)) : FnOk P w K mg base CX0 2 f fd ["word"] (spWord sg) := by
  refine F.ok sc_intin (fun vs H Q E h => ?_) (fun cdv A outer s H vs Q E hr h => ?_)
  · obtain ⟨x, rfl, _⟩ := h
    rfl
  · obtain ⟨x, rfl, hx, k⟩ := h
    refine ⟨_, (pss_cons (ps_if (pt_cmpR op_ne (pe_slice sl_str (pv 0) po_none (po_some pe_int)) pe_str (nomark _)) (pss_one (ps_ret (My.pe_d D_digin (hr.mono (by decide)) (by rfl) pass0 (pa_cons (pv 0) pa_nil)))) pss_nil)
      (pss_cons (ps_set (i := 1) sc_intin.nd rfl (Or.inl rfl) (My.pe_d D_digin (hr.mono (by decide)) (by rfl) pass0 (pa_cons (pe_slice sl_str (pv 0) (po_some pe_int) po_none) pa_nil)))
      (pss_one (ps_ret (pe_ifExp (pt_cmpR op_in_seq (pv 1) (pe_tup (pa_cons pe_non (pa_cons pe_int pa_nil))) (by rfl)) pe_non (pe_op op_sub pe_int (pv 1))))))), ?_⟩
    have e45 : tl ("-" : Str) = [45] := by decide +kernel
    refine ⟨_, rfl, 1, rfl, x, rfl, sl5 hx, rfl, _, rfl, ?_⟩
    rw [str_ne, cut_to1, e45]
    unfold sg at k
    by_cases c : (tl x).take 1 = [45]
    · rw [decide_eq_true c]
      refine iteF ?_
      refine ⟨_, rfl, 1, rfl, x, rfl, sl5 hx, _, rfl, Nat.le_trans (cutS_length ..) hx, fun H1 s1 => ?_⟩
      rw [cut_from1]
      have kk := fun H' s => k H' s
      simp only [c, if_true] at kk
      refine ⟨_, rfl, (by show 2 ≤ sizeLine; decide), fun t1 h1 => ?_⟩
      refine ⟨t1, _, rfl, .inr (SqT.of upd_same), flat_opt _, rfl, _, rfl, ?_⟩
      have s2 := s1.trans (same_new (o := .tup [.non, .int 0]) h1)
      have ei : inV (optV (dg ((tl x).drop 1))) [.non, .int 0] = _ := in_opt (ns := [0])
      show (if (inV (optV (dg ((tl x).drop 1))) [.non, .int 0]) = true then _ else _)
      rw [ei]
      have k2 := kk _ s2
      cases e : dg ((tl x).drop 1) with
      | none =>
        rw [e] at k2
        exact iteT k2
      | some n =>
        rw [e] at k2
        by_cases z : n = 0
        · subst z
          exact iteT k2
        · have k2 : Q (optV (if n = 0 then none else some (0 - n))) _ := k2
          rw [if_neg z] at k2
          have ez : ([0].any fun y : Int => y == n) = false := by
            show ((0 : Int) == n || false) = false
            rw [Bool.or_false, beq_eq_false_iff_ne]
            exact fun y => z y.symm
          show (if ([0].any fun y : Int => y == n) = true then _ else _)
          rw [ez]
          exact iteF ⟨_, rfl, _, _, rfl, rfl, k2⟩
    · rw [decide_eq_false c]
      refine iteT ?_
      refine ⟨_, rfl, x, rfl, hx, fun H' s => ?_⟩
      have kk := k H' s
      rw [if_neg c] at kk
      exact kk
theorem ok_slopein {f : Addr} {fd : FuncData} (F : Fun K "slope_in" "slope_in" s_slopein f fd) (T : STx P K mg CLine CBadLine fBadLine CT fT tM tD) (D_intin : DefAt P w K mg base CX0 2 "integer_in" ["word"] (spWord sg)) : FnOk P w K mg base CX0 3 f fd ["word"] (spWord rs) := by
  refine F.ok sc_slopein (fun vs H Q E h => ?_) (fun cdv A outer s H vs Q E hr h => ?_)
  · obtain ⟨x, rfl, _⟩ := h
    rfl
  · obtain ⟨x, rfl, hx, k⟩ := h
    refine ⟨_, (pss_cons (ps_if (pt_cmpR op_ne (pe_slice sl_str (pv 0) (po_some (pe_un un_neg pe_int)) po_none) pe_str (nomark _)) (pss_one (ps_ret pe_non)) pss_nil)
      (pss_cons (ps_if (pt_cmpR op_in_seq (pv 0) (pe_tup (pa_cons pe_str (pa_cons pe_str pa_nil))) (by rfl)) (pss_one (ps_ret (pe_ifExp (pt_cmpR op_eq (pv 0) pe_str (nomark _)) pe_int (pe_un un_neg pe_int)))) pss_nil)
      (pss_cons (ps_set (i := 1) sc_slopein.nd rfl (Or.inl rfl) (My.pe_d D_intin (hr.mono (by decide)) (by rfl) pass0 (pa_cons (pe_slice sl_str (pv 0) po_none (po_some (pe_un un_neg pe_int))) pa_nil)))
      (pss_one (ps_ret (pe_ifExp (pt_cmpR op_in_seq (pv 1) (pe_tup (pa_cons pe_non (pa_cons pe_int (pa_cons pe_int (pa_cons (pe_un un_neg pe_int) pa_nil))))) (by rfl)) pe_non (pv 1))))))), ?_⟩
    have em : tl ("m" : Str) = [109] := by decide +kernel
    have em2 : tl ("-m" : Str) = [45, 109] := by decide +kernel
    refine ⟨_, rfl, _, rfl, -1, rfl, x, rfl, sl5 hx, rfl, _, rfl, ?_⟩
    rw [str_ne, cut_last, em]
    by_cases c : (tl x).drop ((tl x).length - 1) = [109]
    · rw [decide_eq_true c]
      refine iteF ?_
      have kk : ∀ H', Same H H' → Q (optV (if tl x = [109] then some 1 else if tl x = [45, 109] then some (-1) else match sg (tl x).dropLast with | none => none | some k => if k = 0 ∨ k = 1 ∨ k = -1 then none else some k)) H' := fun H' s => by
        have z := k H' s
        unfold rs at z
        rw [if_pos c] at z
        exact z
      refine ⟨_, rfl, (by show 2 ≤ sizeLine; decide), fun t1 h1 => ⟨t1, _, rfl, .inr (SqT.of upd_same), rfl, rfl, _, rfl, ?_⟩⟩
      have s1 := same_new (o := .tup [.str "m", .str "-m"]) h1
      have ei : inV (.str x) [.str "m", .str "-m"] = (decide (tl x = [109]) || decide (tl x = [45, 109])) := by
        show (eqV (.str "m") (.str x) || (eqV (.str "-m") (.str x) || false)) = _
        rw [Bool.or_false]
        show (("m" : Str) == x || ("-m" : Str) == x) = _
        rw [beq_str, beq_str, em, em2]
        congr 1
        · exact decide_eq_decide.mpr ⟨fun z => z.symm, fun z => z.symm⟩
        · exact decide_eq_decide.mpr ⟨fun z => z.symm, fun z => z.symm⟩
      show (if (inV (.str x) [.str "m", .str "-m"]) = true then _ else _)
      rw [ei]
      have k1 := kk _ s1
      by_cases d1 : tl x = [109]
      · rw [if_pos d1] at k1
        rw [decide_eq_true d1, Bool.true_or]
        refine iteT ⟨_, rfl, rfl, _, rfl, ?_⟩
        rw [str_eq, em, decide_eq_true d1]
        exact iteT k1
      · rw [if_neg d1] at k1
        by_cases d2 : tl x = [45, 109]
        · rw [if_pos d2] at k1
          rw [decide_eq_false d1, decide_eq_true d2, Bool.false_or]
          refine iteT ⟨_, rfl, rfl, _, rfl, ?_⟩
          rw [str_eq, em, decide_eq_false d1]
          exact iteF ⟨_, rfl, k1⟩
        · rw [decide_eq_false d1, decide_eq_false d2, Bool.false_or]
          refine iteF ⟨_, rfl, _, rfl, -1, rfl, x, rfl, sl5 hx, _, rfl, Nat.le_trans (cutS_length ..) hx, fun H2 s2 => ?_⟩
          rw [cut_but]
          refine ⟨_, rfl, _, rfl, (by show 4 ≤ sizeLine; decide), fun t3 h3 => ⟨t3, _, rfl, .inr (SqT.of upd_same), flat_opt _, rfl, _, rfl, ?_⟩⟩
          have k3 := kk _ (s1.trans (s2.trans (same_new (o := .tup [.non, .int 0, .int 1, .int (-1)]) h3)))
          rw [if_neg d1, if_neg d2] at k3
          have ei : inV (optV (sg (tl x).dropLast)) [.non, .int 0, .int 1, .int (-1)] = _ := in_opt (ns := [0, 1, -1])
          show (if (inV (optV (sg (tl x).dropLast)) [.non, .int 0, .int 1, .int (-1)]) = true then _ else _)
          rw [ei]
          cases e : sg (tl x).dropLast with
          | none =>
            rw [e] at k3
            exact iteT k3
          | some n =>
            rw [e] at k3
            have k3 : Q (optV (if n = 0 ∨ n = 1 ∨ n = -1 then none else some n)) _ := k3
            have ez : ([0, 1, -1].any fun y : Int => y == n) = decide (n = 0 ∨ n = 1 ∨ n = -1) := by
              show ((0 : Int) == n || ((1 : Int) == n || ((-1 : Int) == n || false))) = _
              by_cases z : n = 0 ∨ n = 1 ∨ n = -1
              · rw [decide_eq_true z]
                rcases z with rfl | rfl | rfl <;> rfl
              · rw [decide_eq_false z, Bool.or_false, Bool.or_eq_false_iff, Bool.or_eq_false_iff, beq_eq_false_iff_ne, beq_eq_false_iff_ne, beq_eq_false_iff_ne]
                exact ⟨by omega, by omega, by omega⟩
            show (if ([0, 1, -1].any fun y : Int => y == n) = true then _ else _)
            rw [ez]
            by_cases z : n = 0 ∨ n = 1 ∨ n = -1
            · rw [if_pos z] at k3
              rw [decide_eq_true z]
              exact iteT k3
            · rw [if_neg z] at k3
              rw [decide_eq_false z]
              exact iteF ⟨_, rfl, k3⟩
    · rw [decide_eq_false c]
      have z := k H fun _ _ e => e
      unfold rs at z
      rw [if_neg c] at z
      exact iteT z
/-- the wish of BadText(0, n) -/
def ErrT (E : XK) (CT : Addr) (n : Int) (H : Hp) : Prop := ∀ (d : Addr) (H' : Hp), H d = none → H' d = some (.xd [("line", .int 0), ("word", .int n)]) → Same H H' → E (.ref CT) (some d) H'
theorem ErrT.go {E : XK} {CT : Addr} {n : Int} {H : Hp} (h : ErrT E CT n H) {d : Addr} (hd : H d = none) : E (.ref CT) (some d) (upd H d (.xd [("line", .int 0), ("word", .int n)])) := h d _ hd upd_same (same_new hd)
theorem ErrT.up {E : XK} {CT : Addr} {n : Int} {H H1 : Hp} (h : ErrT E CT n H) (s : Same H H1) : ErrT E CT n H1 := fun d H' hd hx s' => h d H' (s.free hd) hx (s.trans s')
def spMore (CT : Addr) : Sp := fun vs H Q E => ∃ (l : Addr) (w0 : Str) (ws : List Str), vs = [.ref l] ∧ H l = some (.lst ((w0 :: ws).map V.str)) ∧ (∀ y ∈ ws, y.length ≤ 5000) ∧ ws.length ≤ 10000 ∧
  (∀ a b, readM 0 (ws.map tl) = .line a b → ∀ H', Same H H' → Q (.int b) H') ∧ (∀ n, readM 0 (ws.map tl) = .word n → ErrT E CT (n : Int) H)
theorem sgn_in {x : Str} : (!inV (.str x) [.str "+", .str "-"]) = !decide (tl x = [43] ∨ tl x = [45]) := by
  have e1 : tl ("+" : Str) = [43] := by decide +kernel
  have e2 : tl ("-" : Str) = [45] := by decide +kernel
  show (!(eqV (.str "+") (.str x) || (eqV (.str "-") (.str x) || false))) = _
  rw [Bool.or_false]
  show (!(("+" : Str) == x || ("-" : Str) == x)) = _
  rw [beq_str, beq_str, e1, e2]
  congr 1
  by_cases c1 : tl x = [43]
  · rw [c1]; rfl
  · by_cases c2 : tl x = [45]
    · rw [c2]; rfl
    · rw [decide_eq_false (fun z => c1 z.symm), decide_eq_false (fun z => c2 z.symm), decide_eq_false (by simp [c1, c2])]
      rfl
theorem at1 {a b : V} {r : List V} : atI (a :: b :: r) (1 : Int) = some b := by
  unfold atI ixN
  rw [if_pos (by decide), if_pos (by show (1 : Int) < ((r.length + 1 + 1 : Nat) : Int); omega)]
  rfl
theorem at2 {a b c : V} {r : List V} : atI (a :: b :: c :: r) (2 : Int) = some c := by
  unfold atI ixN
  rw [if_pos (by decide), if_pos (by show (2 : Int) < ((r.length + 1 + 1 + 1 : Nat) : Int); omega)]
  rfl
theorem at0 {a : V} {r : List V} : atI (a :: r) (0 : Int) = some a := by
  unfold atI ixN
  rw [if_pos (by decide), if_pos (by show (0 : Int) < ((r.length + 1 : Nat) : Int); omega)]
  rfl
theorem ok_morein {f : Addr} {fd : FuncData} (F : Fun K "more_in" "more_in" s_morein f fd) (T : STx P K mg CLine CBadLine fBadLine CT fT tM tD) (D_digin : DefAt P w K mg base CX0 1 "digits_in" ["word"] (spWord dg)) : FnOk P w K mg base (L2.CX P w) 2 f fd ["words"] (spMore CT) := by
  refine F.okX sc_morein (fun vs H Q E h => ?_) (fun cdv A outer s H vs Q E hr h => ?_)
  · obtain ⟨l, w0, ws, rfl, _⟩ := h
    rfl
  · obtain ⟨l, w0, ws, rfl, hl, hy, hz, k1, k2⟩ := h
    refine ⟨_, (pss_cons (ps_if (pt_cmpR op_eq (pe_callB call_len (by rfl) T.z_len PySem.boot_len (pa_cons (pv 0) pa_nil)) pe_int (nomark _)) (pss_one (ps_ret pe_int)) pss_nil)
      (pss_cons (ps_if (pt_cmpR op_notIn_seq (pe_ix ix_list (pv 0) pe_int (fun _ _ => rfl)) (pe_tup (pa_cons pe_str (pa_cons pe_str pa_nil))) (by rfl)) (pss_one (ps_raise2 rfl T.e_BadText (hr.mono (by decide) : Room 0 _) (takes_of rfl rfl rfl rfl) (pa_cons pe_int (pa_cons pe_int pa_nil)))) pss_nil)
      (pss_cons (ps_set (i := 1) sc_morein.nd rfl (Or.inl rfl) (pe_ifExp (pt_cmpR op_gt (pe_callB call_len (by rfl) T.z_len PySem.boot_len (pa_cons (pv 0) pa_nil)) pe_int (nomark _)) (My.pe_d D_digin (hr.mono (by decide)) (by rfl) pass0 (pa_cons (pe_ix ix_list (pv 0) pe_int (fun _ _ => rfl)) pa_nil)) pe_non))
      (pss_cons (ps_if (pt_cmpR op_in_seq (pv 1) (pe_tup (pa_cons pe_non (pa_cons pe_int pa_nil))) (by rfl)) (pss_one (ps_raise2 rfl T.e_BadText (hr.mono (by decide) : Room 0 _) (takes_of rfl rfl rfl rfl) (pa_cons pe_int (pa_cons pe_int pa_nil)))) pss_nil)
      (pss_cons (ps_if (pt_cmpR op_gt (pe_callB call_len (by rfl) T.z_len PySem.boot_len (pa_cons (pv 0) pa_nil)) pe_int (nomark _)) (pss_one (ps_raise2 rfl T.e_BadText (hr.mono (by decide) : Room 0 _) (takes_of rfl rfl rfl rfl) (pa_cons pe_int (pa_cons pe_int pa_nil)))) pss_nil)
      (pss_one (ps_ret (pe_ifExp (pt_cmpR op_eq (pe_ix ix_list (pv 0) pe_int (fun _ _ => rfl)) pe_str (nomark _)) (pv 1) (pe_op op_sub pe_int (pv 1)))))))))), ?_⟩
    refine ⟨_, rfl, _, _, rfl, .inl ⟨_, SqL.of hl, rfl⟩, rfl, _, rfl, ?_⟩
    rcases ws with _ | ⟨w1, ws⟩
    · exact iteT (k1 0 0 rfl H fun _ _ e => e)
    have ne1 : (decide (V.int ((List.map V.str (w0 :: w1 :: ws)).length : Nat) = V.int 1)) = false := decide_eq_false fun z => by
      have z := V.int.inj z
      rw [List.length_map, List.length_cons, List.length_cons] at z
      omega
    show (if (decide (V.int ((List.map V.str (w0 :: w1 :: ws)).length : Nat) = V.int 1)) = true then _ else _)
    rw [ne1]
    refine iteF ⟨_, rfl, l, _, _, _, rfl, rfl, SqL.of hl, at1, (by show 2 ≤ sizeLine; decide), fun t1 h1 => ⟨t1, _, rfl, .inr (SqT.of upd_same), rfl, rfl, _, rfl, ?_⟩⟩
    have s1 := same_new (o := .tup [.str "+", .str "-"]) h1
    show (if (!inV (.str w1) [.str "+", .str "-"]) = true then _ else _)
    rw [sgn_in]
    by_cases c1 : tl w1 = [43] ∨ tl w1 = [45]
    case neg =>
      rw [decide_eq_false c1]
      exact iteT ⟨_, _, rfl, fun d hd => ((k2 1 (by
        show (if tl w1 = [43] ∨ tl w1 = [45] then _ else RL.word 1) = _
        rw [if_neg c1])).up s1).go hd⟩
    rw [decide_eq_true c1]
    refine iteF ?_
    have l1 := s1 _ _ hl
    generalize upd H t1 (.tup [.str "+", .str "-"]) = H1 at s1 l1
    have kw : ∀ n : Nat, (match (ws.map tl) with | [] => RL.word 2 | w2 :: rest => match dg w2 with | none => RL.word 2 | some k => if k = 0 then RL.word 2 else if rest = [] then RL.line 0 (if tl w1 = [43] then k else 0 - k) else RL.word 3) = .word n → ErrT E CT (n : Int) H := fun n e => k2 n (by
      show (if tl w1 = [43] ∨ tl w1 = [45] then _ else RL.word 1) = _
      rw [if_pos c1]
      exact e)
    have kl : ∀ a b, (match (ws.map tl) with | [] => RL.word 2 | w2 :: rest => match dg w2 with | none => RL.word 2 | some k => if k = 0 then RL.word 2 else if rest = [] then RL.line 0 (if tl w1 = [43] then k else 0 - k) else RL.word 3) = .line a b → ∀ H', Same H H' → Q (.int b) H' := fun a b e => k1 a b (by
      show (if tl w1 = [43] ∨ tl w1 = [45] then _ else RL.word 1) = _
      rw [if_pos c1]
      exact e)
    refine ⟨_, rfl, _, _, rfl, .inl ⟨_, SqL.of l1, rfl⟩, _, _, rfl, rfl, _, rfl, ?_⟩
    rcases ws with _ | ⟨w2, ws⟩
    · refine iteF ⟨_, rfl, (by show 2 ≤ sizeLine; decide), fun t2 h2 => ⟨t2, _, rfl, .inr (SqT.of upd_same), rfl, rfl, _, rfl, ?_⟩⟩
      exact iteT ⟨_, _, rfl, fun d hd => (((kw 2 rfl).up s1).up (same_new h2)).go hd⟩
    have g2 : decide (((List.map V.str (w0 :: w1 :: w2 :: ws)).length : Int) > 2) = true := decide_eq_true (by
      rw [List.length_map, List.length_cons, List.length_cons, List.length_cons]
      omega)
    show (if decide (((List.map V.str (w0 :: w1 :: w2 :: ws)).length : Int) > 2) = true then _ else _)
    rw [g2]
    refine iteT ⟨_, rfl, l, _, _, _, rfl, rfl, SqL.of l1, at2, w2, rfl, hy _ (by simp), fun H2 s2 => ?_⟩
    refine ⟨_, rfl, (by show 2 ≤ sizeLine; decide), fun t3 h3 => ⟨t3, _, rfl, .inr (SqT.of upd_same), flat_opt _, rfl, _, rfl, ?_⟩⟩
    have s3 := s1.trans (s2.trans (same_new (o := .tup [.non, .int 0]) h3))
    have l3 := (s2.trans (same_new (o := .tup [.non, .int 0]) h3)) _ _ l1
    generalize upd H2 t3 (.tup [.non, .int 0]) = H3 at s3 l3
    have ei : inV (optV (dg (tl w2))) [.non, .int 0] = _ := in_opt (ns := [0])
    show (if (inV (optV (dg (tl w2))) [.non, .int 0]) = true then _ else _)
    rw [ei]
    cases e : dg (tl w2) with
    | none => exact iteT ⟨_, _, rfl, fun d hd => ((kw 2 (by
        show (match dg (tl w2) with | none => RL.word 2 | some k => _) = _
        rw [e])).up s3).go hd⟩
    | some n =>
      by_cases z : n = 0
      · subst z
        exact iteT ⟨_, _, rfl, fun d hd => ((kw 2 (by
          show (match dg (tl w2) with | none => RL.word 2 | some k => _) = _
          rw [e]
          rfl)).up s3).go hd⟩
      have ez : ([0].any fun y : Int => y == n) = false := by
        show ((0 : Int) == n || false) = false
        rw [Bool.or_false, beq_eq_false_iff_ne]
        exact fun y => z y.symm
      show (if ([0].any fun y : Int => y == n) = true then _ else _)
      rw [ez]
      refine iteF ⟨_, rfl, _, _, rfl, .inl ⟨_, SqL.of l3, rfl⟩, _, _, rfl, rfl, _, rfl, ?_⟩
      rcases ws with _ | ⟨w3, ws⟩
      · refine iteF ⟨_, rfl, l, _, _, _, rfl, rfl, SqL.of l3, at1, rfl, _, rfl, ?_⟩
        have e1 : tl ("+" : Str) = [43] := by decide +kernel
        rw [str_eq, e1]
        have kk := kl 0 (if tl w1 = [43] then n else 0 - n) (by
          show (match dg (tl w2) with | none => RL.word 2 | some k => if k = 0 then RL.word 2 else if ([] : List (List Nat)) = [] then RL.line 0 (if tl w1 = [43] then k else 0 - k) else RL.word 3) = _
          rw [e]
          show (if n = 0 then RL.word 2 else if ([] : List (List Nat)) = [] then RL.line 0 (if tl w1 = [43] then n else 0 - n) else RL.word 3) = _
          rw [if_neg z, if_pos rfl]) H3 s3
        by_cases c : tl w1 = [43]
        · rw [if_pos c] at kk
          rw [decide_eq_true c]
          exact iteT ⟨_, rfl, kk⟩
        · rw [if_neg c] at kk
          rw [decide_eq_false c]
          exact iteF ⟨_, rfl, _, _, rfl, rfl, kk⟩
      · have g3 : decide (((List.map V.str (w0 :: w1 :: w2 :: w3 :: ws)).length : Int) > 3) = true := decide_eq_true (by
          rw [List.length_map, List.length_cons, List.length_cons, List.length_cons, List.length_cons]
          omega)
        show (if decide (((List.map V.str (w0 :: w1 :: w2 :: w3 :: ws)).length : Int) > 3) = true then _ else _)
        rw [g3]
        exact iteT ⟨_, _, rfl, fun d hd => ((kw 3 (by
          show (match dg (tl w2) with | none => RL.word 2 | some k => if k = 0 then RL.word 2 else if (tl w3 :: ws.map tl) = [] then RL.line 0 (if tl w1 = [43] then k else 0 - k) else RL.word 3) = _
          rw [e]
          show (if n = 0 then RL.word 2 else if (tl w3 :: ws.map tl) = [] then RL.line 0 (if tl w1 = [43] then n else 0 - n) else RL.word 3) = _
          rw [if_neg z, if_neg (fun y => nomatch y)])).up s3).go hd⟩
/-- the words of a value: those of a text, or an empty one -/
def wordsOf : V → List Str
  | .str x => Txt.split x " "
  | _ => [""]
def readV (v : V) : RL := readL ((wordsOf v).map tl)
def shortV : V → Prop
  | .str x => x.length ≤ 5000
  | _ => True
def spRead (C CT : Addr) : Sp := fun vs H Q E => ∃ v : V, vs = [.ref C, v] ∧ TyL C H v ∧ shortV v ∧ (∀ a b, readV v = .line a b → ∀ q H', LineAt C H' q a b → Same H H' → Q (.ref q) H') ∧ (∀ n, readV v = .word n → ErrT E CT (n : Int) H)
theorem readM_up (s : Int) (rest : List (List Nat)) : readM s rest = match readM 0 rest with | .word k => .word k | .line _ b => .line s b := by
  unfold readM
  split
  · rfl
  · split
    · split
      · rfl
      · split
        · rfl
        · split
          · rfl
          · split <;> rfl
    · rfl
theorem kstr {H : Hp} {v : V} {t : String} (h : Ty0 H v t) : ∃ b, PySem.W.kitOne K (.type t) (.type "str") = some b ∧ (b = true → ∃ x, v = .str x) ∧ (b = false → ∀ x, v ≠ .str x) := by
  cases h with
  | non => exact ⟨false, kit_ty (by decide +kernel), (fun z => Bool.noConfusion z), fun _ _ z => nomatch z⟩
  | bl b => exact ⟨false, kit_ty (by decide +kernel), (fun z => Bool.noConfusion z), fun _ _ z => nomatch z⟩
  | int i => exact ⟨false, kit_ty (by decide +kernel), (fun z => Bool.noConfusion z), fun _ _ z => nomatch z⟩
  | str x => exact ⟨true, kit_ty (by decide +kernel), (fun _ => ⟨x, rfl⟩), fun z => Bool.noConfusion z⟩
  | lst e => exact ⟨false, kit_ty (by decide +kernel), (fun z => Bool.noConfusion z), fun _ _ z => nomatch z⟩
  | tup e => exact ⟨false, kit_ty (by decide +kernel), (fun z => Bool.noConfusion z), fun _ _ z => nomatch z⟩
  | dK e => exact ⟨false, kit_ty (by decide +kernel), (fun z => Bool.noConfusion z), fun _ _ z => nomatch z⟩
theorem words_no {v : V} (h : ∀ x, v ≠ .str x) : wordsOf v = [("" : Str)] := by
  cases v with
  | str x => exact absurd rfl (h x)
  | _ => rfl
theorem ok_read {f : Addr} {fd : FuncData} (F : Fun K "read" "Line.read" s_read f fd) (T : STx P K mg CLine CBadLine fBadLine CT fT tM tD) (D_slopein : DefAt P w K mg base CX0 3 "slope_in" ["word"] (spWord rs)) (D_intin : DefAt P w K mg base CX0 2 "integer_in" ["word"] (spWord sg))
    (D_morein : DefAt P w K mg base (L2.CX P w) 2 "more_in" ["words"] (spMore CT)) (M_Line : MakeAt P w K mg base (L2.CX P w) 3 "Line" CLine ["self", "slope", "more"] (spInit CLine CBadLine) []) : FnOk P w K mg base (L2.CX P w) 5 f fd ["cls", "text"] (spRead CLine CT) := by
  refine F.okX sc_read (fun vs H Q E h => ?_) (fun cdv A outer s H vs Q E hr h => ?_)
  · obtain ⟨v, rfl, _⟩ := h
    rfl
  · obtain ⟨v, rfl, ty, sh, k1, k2⟩ := h
    have main : ∀ (l : Addr) (H1 : Hp), H1 l = some (.lst ((wordsOf v).map V.str)) → Same H H1 → (∃ w0 ws, wordsOf v = w0 :: ws) ∧ (∀ y ∈ wordsOf v, y.length ≤ 5000) ∧ (wordsOf v).length ≤ 6000 := fun l H1 _ _ => by
      cases v with
      | str x =>
        obtain ⟨n1, n2, n3⟩ := words_len x
        have sh : x.length ≤ 5000 := sh
        refine ⟨?_, fun y hy => Nat.le_trans (n3 y hy) sh, Nat.le_trans n1 (by omega)⟩
        obtain ⟨a, b, e⟩ := split_ne x
        cases g : Txt.split x " " with
        | nil => rw [g] at e; cases e
        | cons w0 ws => exact ⟨w0, ws, g⟩
      | _ => exact ⟨⟨_, _, rfl⟩, fun y hy => by rw [List.mem_singleton.mp hy]; decide, (by show 1 ≤ 6000; decide)⟩
    refine ⟨_, (pss_cons (ps_set (i := 2) sc_read.nd rfl (Or.inl rfl) (pe_ifExp (pt_val (pe_callB call_isi (by rfl) T.z_isinstance boot_isinstance (pa_cons (pv 1) (pa_cons (pe_bltn (v := .ty "str") (by rfl) T.z_str boot_str rfl) pa_nil)))) (pe_split (pv 1) pe_str) (pe_lst (pa_cons pe_str pa_nil))))
      (pss_cons (ps_set (i := 3) sc_read.nd rfl (Or.inl rfl) (My.pe_d D_slopein (hr.mono (by decide)) (by rfl) pass0 (pa_cons (pe_ix ix_list (pv 2) pe_int (fun _ _ => rfl)) pa_nil)))
      (pss_cons (ps_if (pt_cmpR op_isN (pv 3) pe_non (nomark _)) (pss_cons (ps_set (i := 4) sc_read.nd rfl (Or.inl rfl) (My.pe_d D_intin (hr.mono (by decide)) (by rfl) pass0 (pa_cons (pe_ix ix_list (pv 2) pe_int (fun _ _ => rfl)) pa_nil)))
      (pss_cons (ps_if (pt_cmpR op_isN (pv 4) pe_non (nomark _)) (pss_one (ps_raise2 rfl T.e_BadText (hr.mono (by decide) : Room 0 _) (takes_of rfl rfl rfl rfl) (pa_cons pe_int (pa_cons pe_int pa_nil)))) pss_nil)
      (pss_cons (ps_if (pt_cmpR op_gt (pe_callB call_len (by rfl) T.z_len PySem.boot_len (pa_cons (pv 2) pa_nil)) pe_int (nomark _)) (pss_one (ps_raise2 rfl T.e_BadText (hr.mono (by decide) : Room 0 _) (takes_of rfl rfl rfl rfl) (pa_cons pe_int (pa_cons pe_int pa_nil)))) pss_nil)
      (pss_one (ps_ret (My.pe_mkL M_Line (hr.mono (by decide)) (passes_call (takes_of rfl rfl rfl rfl) (fun _ _ _ _ h => h)) (pv 0) (pa_cons pe_int (pa_cons (pv 4) pa_nil)))))))) pss_nil)
      (pss_one (ps_ret (My.pe_mkL M_Line (hr.mono (by decide)) (passes_call (takes_of rfl rfl rfl rfl) (fun _ _ _ _ h => h)) (pv 0) (pa_cons (pv 3) (pa_cons (My.pe_d D_morein (hr.mono (by decide)) (by rfl) (passes_call (takes_of rfl rfl rfl rfl) (fun _ _ _ _ h => h)) (pa_cons (pv 2) pa_nil)) pa_nil)))))))), ?_⟩
    obtain ⟨t, b, ht, hk, hb⟩ : ∃ t b, TyX K H v t ∧ PySem.W.kitOne K t (.type "str") = some b ∧ (b = true → ∃ x, v = .str x) ∧ (b = false → ∀ x, v ≠ .str x) := by
      rcases ty with ⟨t, ty⟩ | ⟨a, dx, fs, rfl, ea⟩
      · obtain ⟨b, h1, h2⟩ := kstr (K := K) ty
        exact ⟨_, b, ty.tyx, h1, h2⟩
      · exact ⟨_, false, .base (.ins ea T.cl T.ha T.hn T.ht T.hm), T.noStr, (fun z => Bool.noConfusion z), fun _ _ z => nomatch z⟩
    refine ⟨_, rfl, v, _, t, _, b, rfl, .ty _, ht, hk, _, rfl, ?_⟩
    cases b
    case' false =>
      refine iteF ⟨(by show 1 ≤ sizeLine; decide), fun l hl => ?_⟩
      have L : (upd H l (.lst [.str ""])) l = some (.lst ((wordsOf v).map V.str)) := by rw [words_no (hb.2 rfl)]; exact upd_same
      have s1 := same_new (o := .lst [.str ""]) hl
      generalize upd H l (.lst [.str ""]) = H1 at L s1
    case' true =>
      obtain ⟨x, rfl⟩ := hb.1 rfl
      have sh : x.length ≤ 5000 := sh
      refine iteT ⟨_, rfl, ⟨x, rfl⟩, x, " ", rfl, rfl, by decide +kernel, (by rw [sizeLine_eq]; omega), fun l hl => ?_⟩
      have L : (upd H l (.lst ((Txt.split x " ").map V.str))) l = some (.lst ((wordsOf (V.str x)).map V.str)) := upd_same
      have s1 := same_new (o := .lst ((Txt.split x " ").map V.str)) hl
      generalize upd H l (.lst ((Txt.split x " ").map V.str)) = H1 at L s1
    all_goals
      obtain ⟨⟨w0, ws, ew⟩, m2, m3⟩ := main l H1 L s1
      unfold readV at k1 k2
      rw [ew] at L k1 k2 m2 m3
      have m3 : ws.length + 1 ≤ 6000 := m3
      have w0l := m2 w0 List.mem_cons_self
      refine ⟨_, rfl, l, _, _, _, rfl, rfl, SqL.of L, at0, w0, rfl, w0l, fun H2 s2 => ?_⟩
      have L2 := s2 _ _ L
      have t2 := s1.trans s2
      refine ⟨_, rfl, rfl, _, rfl, ?_⟩
      have k1 : ∀ a b, (match rs (tl w0) with | none => (match sg (tl w0) with | none => RL.word 0 | some b => if ws.map tl = [] then RL.line 0 b else RL.word 1) | some s => readM s (ws.map tl)) = .line a b → ∀ q H', LineAt CLine H' q a b → Same H H' → Q (.ref q) H' := k1
      have k2 : ∀ n : Nat, (match rs (tl w0) with | none => (match sg (tl w0) with | none => RL.word 0 | some b => if ws.map tl = [] then RL.line 0 b else RL.word 1) | some s => readM s (ws.map tl)) = .word n → ErrT E CT (n : Int) H := k2
      cases e : rs (tl w0) with
      | none =>
        rw [e] at k1 k2
        refine iteT ⟨_, rfl, l, _, _, _, rfl, rfl, SqL.of L2, at0, w0, rfl, w0l, fun H3 s3 => ?_⟩
        have L3 := s3 _ _ L2
        have t3 := t2.trans s3
        refine ⟨_, rfl, rfl, _, rfl, ?_⟩
        cases g : sg (tl w0) with
        | none =>
          rw [g] at k2
          exact iteT ⟨_, _, rfl, fun d hd => ((k2 0 rfl).up t3).go hd⟩
        | some b =>
          rw [g] at k1 k2
          refine iteF ⟨_, rfl, _, _, rfl, .inl ⟨_, SqL.of L3, rfl⟩, _, _, rfl, rfl, _, rfl, ?_⟩
          rcases ws with _ | ⟨w1, ws⟩
          · refine iteF ⟨_, rfl, rfl, _, rfl, fun x dx hx hd ne => init_at hx hd ne fun H' l s => k1 0 b rfl x H' l (t3.trans s)⟩
          · have g2 : decide (((List.map V.str (w0 :: w1 :: ws)).length : Int) > 1) = true := decide_eq_true (by
              rw [List.length_map, List.length_cons, List.length_cons]
              omega)
            show (if decide (((List.map V.str (w0 :: w1 :: ws)).length : Int) > 1) = true then _ else _)
            rw [g2]
            exact iteT ⟨_, _, rfl, fun d hd => ((k2 1 rfl).up t3).go hd⟩
      | some sl =>
        rw [e] at k1 k2
        have k1 : ∀ a b, readM sl (ws.map tl) = .line a b → ∀ q H', LineAt CLine H' q a b → Same H H' → Q (.ref q) H' := k1
        have k2 : ∀ n : Nat, readM sl (ws.map tl) = .word n → ErrT E CT (n : Int) H := k2
        refine iteF ⟨_, rfl, rfl, _, rfl, _, rfl, l, w0, ws, rfl, L2, fun y hy => m2 y (List.mem_cons_of_mem _ hy), by omega, fun a b er H3 s3 => ?_, fun n er => ?_⟩
        · exact fun x dx hx hd ne => init_at hx hd ne fun H' l s => k1 sl b (by rw [readM_up, er]) x H' l (t2.trans (s3.trans s))
        · exact (k2 n (by rw [readM_up, er])).up t2
end
end My
set_option pp.maxSteps 1500
set_option pp.deepTerms.threshold 8
/-! ### the law's own reading -/
namespace My
open PySem PySem.Spec PyProof.Rows L2 TL TX
abbrev s_lnum : Stmt := topS 22
theorem sc_lnum : FnScope ["_law_word", "_law_sign"] ["_law_word"] (defScope s_lnum) := ⟨rfl, rfl, rfl, by decide +kernel, rfl, by decide +kernel, by decide +kernel⟩
abbrev s_lsigned : Stmt := topS 23
theorem sc_lsigned : FnScope ["_law_word", "_law_found"] ["_law_word"] (defScope s_lsigned) := ⟨rfl, rfl, rfl, by decide +kernel, rfl, by decide +kernel, by decide +kernel⟩
abbrev s_lrise : Stmt := topS 24
theorem sc_lrise : FnScope ["_law_word", "_law_found"] ["_law_word"] (defScope s_lrise) := ⟨rfl, rfl, rfl, by decide +kernel, rfl, by decide +kernel, by decide +kernel⟩
abbrev s_due : Stmt := topS 25
theorem sc_due : FnScope ["_law_page", "_law_words", "_law_rise_here", "_law_base"] ["_law_page"] (defScope s_due) := ⟨rfl, rfl, rfl, by decide +kernel, rfl, by decide +kernel, by decide +kernel⟩
section
variable {P : Program} {w : World} {K : PySem.W.Frag} {mg : Str → Option Value} {base : Heap} {CLine CBadLine fBadLine CT fT : Addr} {tM tD : Tok}
theorem fil_t {c : Nat} (e : isDig c = true) : [c].filter (fun c => !isDig c) = [] := by
  rw [List.filter_cons, e]
  rfl
theorem fil_f {c : Nat} (e : isDig c = false) : [c].filter (fun c => !isDig c) = [c] := by
  rw [List.filter_cons, e]
  rfl
theorem ok_lnum {f : Addr} {fd : FuncData} (F : Fun K "_law_number" "_law_number" s_lnum f fd) (T : STx P K mg CLine CBadLine fBadLine CT fT tM tD) : FnOk P w K mg base CX0 1 f fd ["_law_word"] (spWord dg) := by
  refine F.ok sc_lnum (fun vs H Q E h => ?_) (fun cdv A outer s H vs Q E hr h => ?_)
  · obtain ⟨x, rfl, _⟩ := h
    rfl
  · obtain ⟨x, rfl, hx, k⟩ := h
    refine ⟨_, (pss_cons (ps_if (PW.pt (pw_or (pt_not (pt_chain op_le op_le pe_int (pe_callB call_len (by rfl) T.z_len PySem.boot_len (pa_cons (pv 0) pa_nil)) pe_int)) (pw_or1 (pt_cmpR (My.op_neP hr.units) (pe_lc (own := [("_law_sign", 1)]) rfl sc_lnum.nd (pi_str (pv 0)) (blkOk_by (by show blkC ["_law_word", "_law_sign"] (defScope s_lnum) _ _ = true; decide +kernel)) (fun _ _ _ _ _ => (pg_name (i := 1) sc_lnum.nd rfl (Or.inl rfl))) (fun _ _ _ _ _ => (pts_one (pt_cmpR op_notIn_sign (pv 1) pe_str (by rfl)))) (fun _ _ _ _ _ => (pv 1))) (pe_lst pa_nil) (nomark _))))) (pss_one (ps_ret pe_non)) pss_nil)
      (pss_one (ps_ret (pe_ifExp (PW.pt (pw_and (pt_cmpR op_gt (pe_callB call_len (by rfl) T.z_len PySem.boot_len (pa_cons (pv 0) pa_nil)) pe_int (nomark _)) (pw_and1 (pt_cmpR op_eq (pe_ix ix_str (pv 0) pe_int (fun _ _ => rfl)) pe_str (nomark _))))) pe_non (pe_callTy call_int_str (by rfl) T.z_int boot_int (pa_cons (pv 0) pa_nil)))))), ?_⟩
    have lx := len_tl x
    refine ⟨_, rfl, _, _, rfl, ⟨sl5 hx, rfl⟩, _, _, rfl, rfl, ?_⟩
    have none_of : okD (tl x) = false → ∀ H', Same H H' → Q .non H' := fun e H' s => by
      have z := k H' s
      unfold dg at z
      rw [if_neg (by rw [e]; decide)] at z
      exact z
    have bad1 : ¬ (1 ≤ x.length ∧ x.length ≤ 60) → okD (tl x) = false := fun z => by
      rw [Bool.eq_false_iff]
      intro y
      obtain ⟨y1, y2, _⟩ := okD_all y
      omega
    refine ⟨_, rfl, ite2 (fun c1 => ?_) (fun c1 => ?_)⟩
    · refine ⟨_, _, rfl, rfl, _, rfl, ite2 (fun c2 => ?_) (fun c2 => ?_)⟩
      · refine iteT (none_of (bad1 fun z => ?_) H fun _ _ e => e)
        rw [decide_eq_true (show (x.length : Int) ≤ 60 by omega)] at c2
        exact absurd c2 (by decide)
      have l1 : 1 ≤ x.length := by
        have := of_decide_eq_true c1
        omega
      have l2 : x.length ≤ 60 := by
        by_cases z : (x.length : Int) ≤ 60
        · omega
        · rw [decide_eq_false z] at c2
          exact absurd rfl c2
      refine ⟨_, rfl, x, rfl, fun D hD => ?_⟩
      have fl : ∀ i, ((((tl x).take i).filter fun c => !isDig c).length ≤ i) := fun i => Nat.le_trans (List.length_filter_le _ _) (by rw [List.length_take]; exact Nat.min_le_left _ _)
      refine lc_it walk_str (fun i Hh => Hh D = some (.lst ((((tl x).take i).filter fun c => !isDig c).map fun c => V.str ⟨#[c]⟩)) ∧ Same H Hh) ⟨upd_same, same_new hD⟩ (fun _ _ _ _ => trivial) ?_ ?_
      · rintro i v Hh H' hi ⟨g1, g2⟩ ⟨rfl, c, hc, rfl⟩
        have hc' : (tl x)[i]? = some c := by
          rw [← hc]
          exact Array.getElem?_toList
        refine ⟨rfl, _, rfl, c, _, rfl, rfl, _, rfl, ?_⟩
        rw [dig_mem]
        cases e : isDig c with
        | true =>
          refine iteF ⟨?_, g2⟩
          rw [take1 hc', List.filter_append, fil_t e, List.append_nil]
          exact g1
        | false =>
          refine iteT ⟨_, rfl, _, g1, ?_, ?_, ?_⟩
          · have := fl i
            have : i < x.length := hi
            rw [List.length_map, sizeLine_eq]
            omega
          · rw [take1 hc', List.filter_append, fil_f e, List.map_append]
            exact upd_same
          · intro b o e
            rw [upd_ne (ne_of_none e hD)]
            exact g2 _ _ e
      rintro Hh ⟨g1, g2⟩
      have el : (tl x).take x.cps.size = tl x := List.take_of_length_le (by rw [← lx]; exact Nat.le_refl _)
      rw [el] at g1
      refine ⟨(by show 0 ≤ sizeLine; decide), fun l2 h2 => ?_⟩
      have s2 := g2.trans (same_new (o := .lst []) h2)
      have g1 := same_new (o := .lst []) h2 _ _ g1
      have em : ((tl x).filter fun c => !isDig c).map (fun c => V.str ⟨#[c]⟩) = (((tl x).filter fun c => !isDig c).map fun c => (⟨#[c]⟩ : Str)).map V.str := by rw [List.map_map]; rfl
      rw [em] at g1
      refine ⟨.list ((((tl x).filter fun c => !isDig c).map fun c => (⟨#[c]⟩ : Str)).map PyData.str), .list [], .lst (SqL.of g1) (dp_strs _), .lst (SqL.of upd_same) .nil, plain_strs _, rfl, Nat.le_trans (Nat.min_le_right _ _) (by decide), _, rfl, ?_⟩
      have eo : okD (tl x) = (tl x).all isDig := by
        unfold okD
        rw [decide_eq_true (show 1 ≤ (tl x).length by omega), decide_eq_true (show (tl x).length ≤ 60 by omega), Bool.true_and, Bool.true_and]
      have ev : (!PyData.eqv (.list ((((tl x).filter fun c => !isDig c).map fun c => (⟨#[c]⟩ : Str)).map PyData.str)) (.list [])) = !(tl x).all isDig := by
        congr 1
        cases e : (tl x).all isDig with
        | true =>
          have : (tl x).filter (fun c => !isDig c) = [] := List.filter_eq_nil_iff.mpr fun c hc z => by
            rw [List.all_eq_true] at e
            rw [e c hc] at z
            exact absurd z (by decide)
          rw [this]
          rfl
        | false =>
          cases g : (tl x).filter (fun c => !isDig c) with
          | nil =>
            exfalso
            rw [Bool.eq_false_iff] at e
            refine e (List.all_eq_true.mpr fun c hc => ?_)
            have := List.filter_eq_nil_iff.mp g c hc
            cases z : isDig c with
            | true => rfl
            | false => exact absurd (by rw [z]; rfl) this
          | cons a r => rfl
      rw [ev]
      cases e : (tl x).all isDig with
      | false => exact iteT (none_of (by rw [eo, e]) _ s2)
      | true =>
        rw [e] at eo
        refine iteF ?_
        obtain ⟨n1, n2⟩ := int_of eo
        have kk := k _ s2
        unfold dg at kk
        rw [if_pos eo] at kk
        refine ⟨_, rfl, _, _, rfl, ⟨sl5 hx, rfl⟩, _, _, rfl, rfl, _, rfl, ite2 (fun c3 => ?_) (fun c3 => ?_)⟩
        · have c3' : 1 < (tl x).length := by
            have := of_decide_eq_true c3
            omega
          obtain ⟨c, hc⟩ : ∃ c, (tl x)[0]? = some c := ⟨_, List.getElem?_eq_getElem (by omega)⟩
          have hh : (tl x).head? = some c := by rw [← hc]; cases tl x <;> rfl
          have ha : atI x.cps.toList (0 : Int) = some c := atI_0 hc
          refine ⟨_, rfl, x, 0, c, rfl, rfl, sl5 hx, ha, rfl, _, rfl, ?_⟩
          rw [hh] at kk
          have e0 : tl ("0" : Str) = [48] := by decide +kernel
          rw [str_eq, e0]
          refine ite2 (fun c4 => ?_) (fun c4 => ?_)
          · have c4' : c = 48 := (List.cons.inj (of_decide_eq_true c4)).1
            rw [if_pos ⟨c3', by rw [c4']⟩] at kk
            exact kk
          · rw [if_neg (fun z => c4 (decide_eq_true (by
              have : c = 48 := Option.some.inj z.2
              rw [this])))] at kk
            exact ⟨_, rfl, x, _, rfl, n1, n2, kk⟩
        · rw [if_neg (fun z => c3 (decide_eq_true (by
            have := z.1
            omega)))] at kk
          exact ⟨_, rfl, x, _, rfl, n1, n2, kk⟩
    · exact ⟨_, rfl, iteT (none_of (bad1 fun z => c1 (decide_eq_true (by omega))) H fun _ _ e => e)⟩
theorem ok_lsigned {f : Addr} {fd : FuncData} (F : Fun K "_law_signed" "_law_signed" s_lsigned f fd) (T : STx P K mg CLine CBadLine fBadLine CT fT tM tD) (D_lnum : DefAt P w K mg base CX0 1 "_law_number" ["_law_word"] (spWord dg)) : FnOk P w K mg base CX0 2 f fd ["_law_word"] (spWord sg) := by
  refine F.ok sc_lsigned (fun vs H Q E h => ?_) (fun cdv A outer s H vs Q E hr h => ?_)
  · obtain ⟨x, rfl, _⟩ := h
    rfl
  · obtain ⟨x, rfl, hx, k⟩ := h
    refine ⟨_, (pss_cons (ps_set (i := 1) sc_lsigned.nd rfl (Or.inl rfl) (My.pe_d D_lnum (hr.mono (by decide)) (by rfl) pass0 (pa_cons (pe_ifExp (pt_cmpR op_eq (pe_slice sl_str (pv 0) po_none (po_some pe_int)) pe_str (nomark _)) (pe_slice sl_str (pv 0) (po_some pe_int) po_none) (pv 0)) pa_nil)))
      (pss_cons (ps_if (PW.pt (pw_or (pt_cmpR op_ne (pe_slice sl_str (pv 0) po_none (po_some pe_int)) pe_str (nomark _)) (pw_or1 (pt_cmpR op_isN (pv 1) pe_non (nomark _))))) (pss_one (ps_ret (pv 1))) pss_nil)
      (pss_one (ps_ret (pe_ifExp (pt_cmpR op_eq (pv 1) pe_int (nomark _)) pe_non (pe_op op_sub pe_int (pv 1))))))), ?_⟩
    have e45 : tl ("-" : Str) = [45] := by decide +kernel
    refine ⟨_, rfl, 1, rfl, x, rfl, sl5 hx, rfl, _, rfl, ?_⟩
    rw [str_eq, cut_to1, e45]
    unfold sg at k
    by_cases c : (tl x).take 1 = [45]
    · rw [decide_eq_true c]
      simp only [c, if_true] at k
      refine iteT ⟨_, rfl, 1, rfl, x, rfl, sl5 hx, _, rfl, Nat.le_trans (cutS_length ..) hx, fun H1 s1 => ?_⟩
      rw [cut_from1]
      refine ⟨_, rfl, 1, rfl, x, rfl, sl5 hx, rfl, _, rfl, ?_⟩
      rw [str_ne, cut_to1, e45, decide_eq_true c]
      refine iteF ⟨_, rfl, rfl, _, rfl, ?_⟩
      have k2 := k _ s1
      cases e : dg ((tl x).drop 1) with
      | none =>
        rw [e] at k2
        exact iteT ⟨_, rfl, k2⟩
      | some n =>
        rw [e] at k2
        have k2 : Q (optV (if n = 0 then none else some (0 - n))) _ := k2
        refine iteF ⟨_, rfl, rfl, _, rfl, ?_⟩
        by_cases z : n = 0
        · subst z
          exact iteT k2
        · rw [if_neg z] at k2
          show (if decide (V.int n = V.int 0) = true then _ else _)
          rw [decide_eq_false fun y => z (V.int.inj y)]
          exact iteF ⟨_, rfl, _, _, rfl, rfl, k2⟩
    · rw [decide_eq_false c]
      simp only [c, if_false] at k
      refine iteF ⟨_, rfl, _, rfl, hx, fun H1 s1 => ?_⟩
      refine ⟨_, rfl, 1, rfl, x, rfl, sl5 hx, rfl, _, rfl, ?_⟩
      rw [str_ne, cut_to1, e45, decide_eq_false c]
      exact iteT (iteT ⟨_, rfl, k _ s1⟩)
theorem abs2 {n : Int} : decide ((if n < 0 then -n else n) < 2) = decide (n = 0 ∨ n = 1 ∨ n = -1) := by
  by_cases z : n = 0 ∨ n = 1 ∨ n = -1
  · rw [decide_eq_true z]
    exact decide_eq_true (by split <;> omega)
  · rw [decide_eq_false z]
    exact decide_eq_false (by split <;> omega)
theorem ok_lrise {f : Addr} {fd : FuncData} (F : Fun K "_law_rise" "_law_rise" s_lrise f fd) (T : STx P K mg CLine CBadLine fBadLine CT fT tM tD) (D_lsigned : DefAt P w K mg base CX0 2 "_law_signed" ["_law_word"] (spWord sg)) : FnOk P w K mg base CX0 3 f fd ["_law_word"] (spWord rs) := by
  refine F.ok sc_lrise (fun vs H Q E h => ?_) (fun cdv A outer s H vs Q E hr h => ?_)
  · obtain ⟨x, rfl, _⟩ := h
    rfl
  · obtain ⟨x, rfl, hx, k⟩ := h
    refine ⟨_, (pss_cons (ps_if (pt_cmpR op_in_seq (pv 0) (pe_lst (pa_cons pe_str (pa_cons pe_str pa_nil))) (by rfl)) (pss_one (ps_ret (pe_ifExp (pt_cmpR op_eq (pv 0) pe_str (nomark _)) pe_int (pe_un un_neg pe_int)))) pss_nil)
      (pss_cons (ps_set (i := 1) sc_lrise.nd rfl (Or.inl rfl) (pe_ifExp (pt_cmpR op_eq (pe_slice sl_str (pv 0) (po_some (pe_un un_neg pe_int)) po_none) pe_str (nomark _)) (My.pe_d D_lsigned (hr.mono (by decide)) (by rfl) pass0 (pa_cons (pe_slice sl_str (pv 0) po_none (po_some (pe_un un_neg pe_int))) pa_nil)) pe_non))
      (pss_one (ps_ret (pe_ifExp (PW.pt (pw_and (pt_cmpR op_notN (pv 1) pe_non (nomark _)) (pw_and1 (pt_cmpR op_lt (pe_callB call_abs (by rfl) T.z_abs boot_abs (pa_cons (pv 1) pa_nil)) pe_int (nomark _))))) pe_non (pv 1)))))), ?_⟩
    have em : tl ("m" : Str) = [109] := by decide +kernel
    have em2 : tl ("-m" : Str) = [45, 109] := by decide +kernel
    refine ⟨_, rfl, (by show 2 ≤ sizeLine; decide), fun t1 h1 => ⟨t1, _, rfl, .inl (SqL.of upd_same), rfl, rfl, _, rfl, ?_⟩⟩
    have s1 := same_new (o := .lst [.str "m", .str "-m"]) h1
    have ei : inV (.str x) [.str "m", .str "-m"] = (decide (tl x = [109]) || decide (tl x = [45, 109])) := by
      show (eqV (.str "m") (.str x) || (eqV (.str "-m") (.str x) || false)) = _
      rw [Bool.or_false]
      show (("m" : Str) == x || ("-m" : Str) == x) = _
      rw [beq_str, beq_str, em, em2]
      congr 1
      · exact decide_eq_decide.mpr ⟨fun z => z.symm, fun z => z.symm⟩
      · exact decide_eq_decide.mpr ⟨fun z => z.symm, fun z => z.symm⟩
    show (if (inV (.str x) [.str "m", .str "-m"]) = true then _ else _)
    rw [ei]
    have k1 := k _ s1
    unfold rs at k1
    by_cases d1 : tl x = [109]
    · rw [decide_eq_true d1, Bool.true_or]
      refine iteT ⟨_, rfl, rfl, _, rfl, ?_⟩
      rw [str_eq, em, decide_eq_true d1]
      rw [d1] at k1
      exact iteT k1
    · by_cases d2 : tl x = [45, 109]
      · rw [decide_eq_false d1, decide_eq_true d2, Bool.false_or]
        refine iteT ⟨_, rfl, rfl, _, rfl, ?_⟩
        rw [str_eq, em, decide_eq_false d1]
        rw [d2] at k1
        exact iteF ⟨_, rfl, k1⟩
      · rw [decide_eq_false d1, decide_eq_false d2, Bool.false_or]
        refine iteF ⟨_, rfl, _, rfl, -1, rfl, x, rfl, sl5 hx, rfl, _, rfl, ?_⟩
        rw [str_eq, cut_last, em]
        by_cases c : (tl x).drop ((tl x).length - 1) = [109]
        · rw [if_pos c, if_neg d1, if_neg d2] at k1
          rw [decide_eq_true c]
          have kk : ∀ H', Same H H' → Q (optV (match sg (tl x).dropLast with | none => none | some k => if k = 0 ∨ k = 1 ∨ k = -1 then none else some k)) H' := fun H' s => by
            have z := k H' s
            unfold rs at z
            rw [if_pos c, if_neg d1, if_neg d2] at z
            exact z
          refine iteT ⟨_, rfl, _, rfl, -1, rfl, x, rfl, sl5 hx, _, rfl, Nat.le_trans (cutS_length ..) hx, fun H2 s2 => ?_⟩
          rw [cut_but]
          have k3 := kk _ (s1.trans s2)
          refine ⟨_, rfl, rfl, _, rfl, ?_⟩
          cases e : sg (tl x).dropLast with
          | none =>
            rw [e] at k3
            exact iteF ⟨_, rfl, k3⟩
          | some n =>
            rw [e] at k3
            have k3 : Q (optV (if n = 0 ∨ n = 1 ∨ n = -1 then none else some n)) _ := k3
            refine iteT ⟨_, rfl, n, rfl, _, _, rfl, rfl, _, rfl, ?_⟩
            show (if decide ((if n < 0 then -n else n) < 2) = true then _ else _)
            rw [abs2]
            by_cases z : n = 0 ∨ n = 1 ∨ n = -1
            · rw [if_pos z] at k3
              rw [decide_eq_true z]
              exact iteT k3
            · rw [if_neg z] at k3
              rw [decide_eq_false z]
              exact iteF ⟨_, rfl, k3⟩
        · rw [if_neg c] at k1
          rw [decide_eq_false c]
          exact iteF ⟨_, rfl, rfl, _, rfl, iteF ⟨_, rfl, k1⟩⟩
/-- a result as a tuple -/
def resV : RL → List V
  | .word k => [.str "word", .int (k : Nat)]
  | .line a b => [.str "line", .int a, .int b]
def spDue : Sp := fun vs H Q _ => ∃ x : Str, vs = [.str x] ∧ x.length ≤ 5000 ∧ ∀ (t : Addr) (H' : Hp), H' t = some (.tup (resV (readV (.str x)))) → Same H H' → Q (.ref t) H'
theorem ok_due {f : Addr} {fd : FuncData} (F : Fun K "_law_due" "_law_due" s_due f fd) (T : STx P K mg CLine CBadLine fBadLine CT fT tM tD) (D_lnum : DefAt P w K mg base CX0 1 "_law_number" ["_law_word"] (spWord dg)) (D_lsigned : DefAt P w K mg base CX0 2 "_law_signed" ["_law_word"] (spWord sg)) (D_lrise : DefAt P w K mg base CX0 3 "_law_rise" ["_law_word"] (spWord rs)) : FnOk P w K mg base CX0 4 f fd ["_law_page"] spDue := by
  refine F.ok sc_due (fun vs H Q E h => ?_) (fun cdv A outer s H vs Q E hr h => ?_)
  · obtain ⟨x, rfl, _⟩ := h
    rfl
  · obtain ⟨x, rfl, hx, k⟩ := h
    refine ⟨_, (pss_cons (ps_set (i := 1) sc_due.nd rfl (Or.inl rfl) (pe_split (pv 0) pe_str))
      (pss_cons (ps_set (i := 2) sc_due.nd rfl (Or.inl rfl) (My.pe_d D_lrise (hr.mono (by decide)) (by rfl) pass0 (pa_cons (pe_ix ix_list (pv 1) pe_int (fun _ _ => rfl)) pa_nil)))
      (pss_cons (ps_if (pt_cmpR op_isN (pv 2) pe_non (nomark _)) (pss_cons (ps_set (i := 3) sc_due.nd rfl (Or.inl rfl) (My.pe_d D_lsigned (hr.mono (by decide)) (by rfl) pass0 (pa_cons (pe_ix ix_list (pv 1) pe_int (fun _ _ => rfl)) pa_nil)))
      (pss_cons (ps_if (PW.pt (pw_or (pt_cmpR op_isN (pv 3) pe_non (nomark _)) (pw_or1 (pt_cmpR op_gt (pe_callB call_len (by rfl) T.z_len PySem.boot_len (pa_cons (pv 1) pa_nil)) pe_int (nomark _))))) (pss_one (ps_ret (pe_tup (pa_cons pe_str (pa_cons (pe_callTy call_int1 (by rfl) T.z_int boot_int (pa_cons (pe_cmpR op_notN (pv 3) pe_non (nomark _)) pa_nil)) pa_nil))))) pss_nil)
      (pss_one (ps_ret (pe_tup (pa_cons pe_str (pa_cons pe_int (pa_cons (pv 3) pa_nil)))))))) pss_nil)
      (pss_cons (ps_if (pt_cmpR op_eq (pe_callB call_len (by rfl) T.z_len PySem.boot_len (pa_cons (pv 1) pa_nil)) pe_int (nomark _)) (pss_one (ps_ret (pe_tup (pa_cons pe_str (pa_cons (pv 2) (pa_cons pe_int pa_nil)))))) pss_nil)
      (pss_cons (ps_if (pt_cmpR op_notIn_seq (pe_ix ix_list (pv 1) pe_int (fun _ _ => rfl)) (pe_lst (pa_cons pe_str (pa_cons pe_str pa_nil))) (by rfl)) (pss_one (ps_ret (pe_tup (pa_cons pe_str (pa_cons pe_int pa_nil))))) pss_nil)
      (pss_cons (ps_set (i := 3) sc_due.nd rfl (Or.inl rfl) (pe_ifExp (pt_cmpR op_gt (pe_callB call_len (by rfl) T.z_len PySem.boot_len (pa_cons (pv 1) pa_nil)) pe_int (nomark _)) (My.pe_d D_lnum (hr.mono (by decide)) (by rfl) pass0 (pa_cons (pe_ix ix_list (pv 1) pe_int (fun _ _ => rfl)) pa_nil)) pe_non))
      (pss_cons (ps_if (PW.pt (pw_or (pt_cmpR op_isN (pv 3) pe_non (nomark _)) (pw_or1 (pt_cmpR op_eq (pv 3) pe_int (nomark _))))) (pss_one (ps_ret (pe_tup (pa_cons pe_str (pa_cons pe_int pa_nil))))) pss_nil)
      (pss_one (ps_ret (pe_ifExp (pt_cmpR op_gt (pe_callB call_len (by rfl) T.z_len PySem.boot_len (pa_cons (pv 1) pa_nil)) pe_int (nomark _)) (pe_tup (pa_cons pe_str (pa_cons pe_int pa_nil))) (pe_tup (pa_cons pe_str (pa_cons (pv 2) (pa_cons (pe_ifExp (pt_cmpR op_eq (pe_ix ix_list (pv 1) pe_int (fun _ _ => rfl)) pe_str (nomark _)) (pv 3) (pe_op op_sub pe_int (pv 3))) pa_nil)))))))))))))), ?_⟩
    obtain ⟨n1, n2, n3⟩ := words_len x
    refine ⟨_, rfl, ⟨x, rfl⟩, x, " ", rfl, rfl, by decide +kernel, (by rw [sizeLine_eq]; omega), fun l hl => ?_⟩
    obtain ⟨w0, ws, ew⟩ : ∃ w0 ws, Txt.split x " " = w0 :: ws := by
      obtain ⟨a, b, e⟩ := split_ne x
      cases g : Txt.split x " " with
      | nil => rw [g] at e; cases e
      | cons w0 ws => exact ⟨w0, ws, rfl⟩
    have er : readV (.str x) = (match rs (tl w0) with | none => (match sg (tl w0) with | none => RL.word 0 | some b => if ws.map tl = [] then RL.line 0 b else RL.word 1) | some s => readM s (ws.map tl)) := by
      show readL ((Txt.split x " ").map tl) = _
      rw [ew]
      rfl
    rw [er] at k
    rw [ew] at n1 n3 ⊢
    have n1 : ws.length + 1 ≤ 6000 := Nat.le_trans n1 (by omega)
    have s1 := same_new (o := .lst ((w0 :: ws).map V.str)) hl
    have L : (upd H l (.lst ((w0 :: ws).map V.str))) l = some (.lst ((w0 :: ws).map V.str)) := upd_same
    generalize upd H l (.lst ((w0 :: ws).map V.str)) = H1 at s1 L
    have w0l : w0.length ≤ 5000 := Nat.le_trans (n3 w0 List.mem_cons_self) hx
    refine ⟨_, rfl, l, _, _, _, rfl, rfl, SqL.of L, at0, w0, rfl, w0l, fun H2 s2 => ?_⟩
    have L2 := s2 _ _ L
    have t2 := s1.trans s2
    refine ⟨_, rfl, rfl, _, rfl, ?_⟩
    cases e : rs (tl w0) with
    | none =>
      rw [e] at k
      refine iteT ⟨_, rfl, l, _, _, _, rfl, rfl, SqL.of L2, at0, w0, rfl, w0l, fun H3 s3 => ?_⟩
      have L3 := s3 _ _ L2
      have t3 := t2.trans s3
      refine ⟨_, rfl, rfl, _, rfl, ?_⟩
      cases g : sg (tl w0) with
      | none =>
        rw [g] at k
        exact iteT ⟨_, rfl, rfl, .inr ⟨_, rfl, (by show 2 ≤ sizeLine; decide), fun t ht => k t _ upd_same (t3.trans (same_new ht))⟩⟩
      | some b =>
        rw [g] at k
        refine iteF ⟨_, rfl, _, _, rfl, .inl ⟨_, SqL.of L3, rfl⟩, _, _, rfl, rfl, _, rfl, ?_⟩
        rcases ws with _ | ⟨w1, ws⟩
        · exact iteF ⟨_, rfl, (by show 3 ≤ sizeLine; decide), fun t ht => k t _ upd_same (t3.trans (same_new ht))⟩
        · have g2 : decide (((List.map V.str (w0 :: w1 :: ws)).length : Int) > 1) = true := decide_eq_true (by
            rw [List.length_map, List.length_cons, List.length_cons]
            omega)
          show (if decide (((List.map V.str (w0 :: w1 :: ws)).length : Int) > 1) = true then _ else _)
          rw [g2]
          exact iteT ⟨_, rfl, rfl, .inr ⟨_, rfl, (by show 2 ≤ sizeLine; decide), fun t ht => k t _ upd_same (t3.trans (same_new ht))⟩⟩
    | some sl =>
      rw [e] at k
      have k : ∀ (t : Addr) (H' : Hp), H' t = some (.tup (resV (readM sl (ws.map tl)))) → Same H H' → Q (.ref t) H' := k
      refine iteF ⟨_, rfl, _, _, rfl, .inl ⟨_, SqL.of L2, rfl⟩, rfl, _, rfl, ?_⟩
      rcases ws with _ | ⟨w1, ws⟩
      · exact iteT ⟨_, rfl, (by show 3 ≤ sizeLine; decide), fun t ht => k t _ upd_same (t2.trans (same_new ht))⟩
      have ne1 : (decide (V.int ((List.map V.str (w0 :: w1 :: ws)).length : Nat) = V.int 1)) = false := decide_eq_false fun z => by
        have z := V.int.inj z
        rw [List.length_map, List.length_cons, List.length_cons] at z
        omega
      show (if (decide (V.int ((List.map V.str (w0 :: w1 :: ws)).length : Nat) = V.int 1)) = true then _ else _)
      rw [ne1]
      refine iteF ⟨_, rfl, l, _, _, _, rfl, rfl, SqL.of L2, at1, (by show 2 ≤ sizeLine; decide), fun t1 h1 => ⟨t1, _, rfl, .inl (SqL.of upd_same), rfl, rfl, _, rfl, ?_⟩⟩
      have t3 := t2.trans (same_new (o := .lst [.str "+", .str "-"]) h1)
      have L3 := same_new (o := .lst [.str "+", .str "-"]) h1 _ _ L2
      show (if (!inV (.str w1) [.str "+", .str "-"]) = true then _ else _)
      rw [sgn_in]
      generalize upd H2 t1 (.lst [.str "+", .str "-"]) = H3 at t3 L3
      by_cases c1 : tl w1 = [43] ∨ tl w1 = [45]
      case neg =>
        rw [decide_eq_false c1]
        refine iteT ⟨(by show 2 ≤ sizeLine; decide), fun t ht => k t _ ?_ (t3.trans (same_new ht))⟩
        have er : readM sl ((w1 :: ws).map tl) = .word 1 := by
          show (if tl w1 = [43] ∨ tl w1 = [45] then _ else RL.word 1) = _
          rw [if_neg c1]
        rw [er]
        exact upd_same
      rw [decide_eq_true c1]
      have er : readM sl ((w1 :: ws).map tl) = (match (ws.map tl) with | [] => RL.word 2 | w2 :: rest => match dg w2 with | none => RL.word 2 | some k => if k = 0 then RL.word 2 else if rest = [] then RL.line sl (if tl w1 = [43] then k else 0 - k) else RL.word 3) := by
        show (if tl w1 = [43] ∨ tl w1 = [45] then _ else RL.word 1) = _
        rw [if_pos c1] <;> rfl
      rw [er] at k
      refine iteF ⟨_, rfl, _, _, rfl, .inl ⟨_, SqL.of L3, rfl⟩, _, _, rfl, rfl, _, rfl, ?_⟩
      rcases ws with _ | ⟨w2, ws⟩
      · exact iteF ⟨_, rfl, rfl, _, rfl, iteT (iteT ⟨(by show 2 ≤ sizeLine; decide), fun t ht => k t _ upd_same (t3.trans (same_new ht))⟩)⟩
      have g2 : decide (((List.map V.str (w0 :: w1 :: w2 :: ws)).length : Int) > 2) = true := decide_eq_true (by
        rw [List.length_map, List.length_cons, List.length_cons, List.length_cons]
        omega)
      show (if decide (((List.map V.str (w0 :: w1 :: w2 :: ws)).length : Int) > 2) = true then _ else _)
      rw [g2]
      refine iteT ⟨_, rfl, l, _, _, _, rfl, rfl, SqL.of L3, at2, w2, rfl, Nat.le_trans (n3 w2 (by simp)) hx, fun H4 s4 => ?_⟩
      have t4 := t3.trans s4
      have L4 := s4 _ _ L3
      refine ⟨_, rfl, rfl, _, rfl, ?_⟩
      cases e2 : dg (tl w2) with
      | none =>
        have k : ∀ (t : Addr) (H' : Hp), H' t = some (.tup (resV (match dg (tl w2) with | none => RL.word 2 | some k => if k = 0 then RL.word 2 else if (ws.map tl) = [] then RL.line sl (if tl w1 = [43] then k else 0 - k) else RL.word 3))) → Same H H' → Q (.ref t) H' := k
        rw [e2] at k
        exact iteT (iteT ⟨(by show 2 ≤ sizeLine; decide), fun t ht => k t _ upd_same (t4.trans (same_new ht))⟩)
      | some n =>
        have k : ∀ (t : Addr) (H' : Hp), H' t = some (.tup (resV (match dg (tl w2) with | none => RL.word 2 | some k => if k = 0 then RL.word 2 else if (ws.map tl) = [] then RL.line sl (if tl w1 = [43] then k else 0 - k) else RL.word 3))) → Same H H' → Q (.ref t) H' := k
        rw [e2] at k
        have k : ∀ (t : Addr) (H' : Hp), H' t = some (.tup (resV (if n = 0 then RL.word 2 else if (ws.map tl) = [] then RL.line sl (if tl w1 = [43] then n else 0 - n) else RL.word 3))) → Same H H' → Q (.ref t) H' := k
        refine iteF ⟨_, rfl, rfl, _, rfl, ?_⟩
        by_cases z : n = 0
        · subst z
          show (if decide (V.int 0 = V.int 0) = true then _ else _)
          rw [decide_eq_true (rfl : V.int 0 = V.int 0)]
          exact iteT ⟨(by show 2 ≤ sizeLine; decide), fun t ht => k t _ upd_same (t4.trans (same_new ht))⟩
        rw [if_neg z] at k
        show (if decide (V.int n = V.int 0) = true then _ else _)
        rw [decide_eq_false fun y => z (V.int.inj y)]
        refine iteF ⟨_, rfl, _, _, rfl, .inl ⟨_, SqL.of L4, rfl⟩, _, _, rfl, rfl, _, rfl, ?_⟩
        rcases ws with _ | ⟨w3, ws⟩
        · have k : ∀ (t : Addr) (H' : Hp), H' t = some (.tup (resV (RL.line sl (if tl w1 = [43] then n else 0 - n)))) → Same H H' → Q (.ref t) H' := k
          refine iteF ⟨_, rfl, _, rfl, l, _, _, _, rfl, rfl, SqL.of L4, at1, rfl, _, rfl, ?_⟩
          have e1 : tl ("+" : Str) = [43] := by decide +kernel
          rw [str_eq, e1]
          by_cases c : tl w1 = [43]
          · rw [if_pos c] at k
            rw [decide_eq_true c]
            exact iteT ⟨_, rfl, (by show 3 ≤ sizeLine; decide), fun t ht => k t _ upd_same (t4.trans (same_new ht))⟩
          · rw [if_neg c] at k
            rw [decide_eq_false c]
            exact iteF ⟨_, rfl, _, _, rfl, rfl, (by show 3 ≤ sizeLine; decide), fun t ht => k t _ upd_same (t4.trans (same_new ht))⟩
        · have g3 : decide (((List.map V.str (w0 :: w1 :: w2 :: w3 :: ws)).length : Int) > 3) = true := decide_eq_true (by
            rw [List.length_map, List.length_cons, List.length_cons, List.length_cons, List.length_cons]
            omega)
          show (if decide (((List.map V.str (w0 :: w1 :: w2 :: w3 :: ws)).length : Int) > 3) = true then _ else _)
          rw [g3]
          exact iteT ⟨(by show 2 ≤ sizeLine; decide), fun t ht => k t _ upd_same (t4.trans (same_new ht))⟩
end
end My
set_option pp.maxSteps 1500
set_option pp.deepTerms.threshold 8
/-! ### what was heard -/
namespace My
open PySem PySem.Spec PyProof.Rows L2 TL TX
abbrev s_heard : Stmt := topS 26
theorem sc_heard : FnScope ["_law_page", "_law_caught", "_law_found", "error"] ["_law_page"] (defScope s_heard) := ⟨rfl, rfl, rfl, by decide +kernel, rfl, by decide +kernel, by decide +kernel⟩
structure HTx (P : Program) (K : PySem.W.Frag) (mg : Str → Option Value) (CE CT : Addr) : Prop where
  gClip : mg "ClipError" = some (.ref CE)
  xB : PySem.W.exmOne K (.ref CT) (.ref CE) = some true
  kB : ExcK K CT
  iBB : PySem.W.kitOne K (.ref CT) (.ref CT) = some true
def spHeard (C : Addr) : Sp := fun vs H Q _ => ∃ v : V, vs = [v] ∧ TyL C H v ∧ shortV v ∧ ∀ (t : Addr) (H' : Hp), H' t = some (.tup (resV (readV v))) → Same H H' → Q (.ref t) H'
theorem four {σ : List (Option V)} (h : σ.length = 4) : ∃ x y z u, σ = [x, y, z, u] := by
  rcases σ with _ | ⟨x, _ | ⟨y, _ | ⟨z, _ | ⟨u, _ | ⟨v, r⟩⟩⟩⟩⟩
  · cases h
  · cases h
  · cases h
  · cases h
  · exact ⟨x, y, z, u, rfl⟩
  · simp at h
section
variable {P : Program} {w : World} {K : PySem.W.Frag} {mg : Str → Option Value} {base : Heap} {CLine CBadLine fBadLine CT fT CE : Addr} {tM tD : Tok}
theorem ok_heard {f : Addr} {fd : FuncData} (F : Fun K "_law_heard" "_law_heard" s_heard f fd) (T : STx P K mg CLine CBadLine fBadLine CT fT tM tD) (TH : HTx P K mg CE CT) (K_read : ClsAt P w K mg base (L2.CX P w) 5 CLine "read" (spRead CLine CT)) : FnOk P w K mg base CX0 6 f fd ["_law_page"] (spHeard CLine) := by
  refine F.ok sc_heard (fun vs H Q E h => ?_) (fun cdv A outer s H vs Q E hr h => ?_)
  · obtain ⟨v, rfl, _⟩ := h
    rfl
  · obtain ⟨v, rfl, ty, sh, k⟩ := h
    refine ⟨_, (pss_cons (ps_asg (pe_tup (pa_cons pe_non (pa_cons pe_non pa_nil))) (pg_tup rfl (pgs_cons (pg_name (i := 1) sc_heard.nd rfl (Or.inl rfl)) (pgs_cons (pg_name (i := 2) sc_heard.nd rfl (Or.inl rfl)) pgs_nil))))
      (pss_cons (My.ps_try_keep (i := 3) (j := 1) (c := .ref CE) (tb := fun W D σ H => ∃ Ech : XK, (∀ cls d σ' H', Ech cls d H' → W cls d σ' H') ∧ tAsg (ClX.tCMeth CLine (spRead CLine CT) Ech (tC (.ref CLine)) (tCons (tVar 0) tNil)) (gName 2) D σ H) (Wout := fun _ _ _ _ => False) rfl rfl sc_heard.nd rfl rfl rfl rfl rfl ⟨rfl, by decide, .inl TH.gClip⟩ LamX.takes0 (fun W pn xe tk _ => ⟨fun pins s' σ H' D I h' => by
      obtain ⟨Ech, hW, h2⟩ := h'
      exact (pss_one (ps_set (i := 2) sc_heard.nd rfl (Or.inl rfl) (My.pe_cm K_read (hr.mono (by decide)) (passes_call tk hW) (pe_glob (v := .ref CLine) (by rfl) T.gLine rfl) (pa_cons (pv 0) pa_nil)))).run pins s' σ H' D I h2⟩))
      (pss_cons (ps_if (pt_cmpR op_isN (pv 1) pe_non (nomark _)) (pss_one (ps_ret (pe_ifExp (pt_val (pe_callB call_isi (by rfl) T.z_isinstance boot_isinstance (pa_cons (pv 2) (pa_cons (pe_glob (v := .ref CLine) (by rfl) T.gLine rfl) pa_nil)))) (pe_tup (pa_cons pe_str (pa_cons (pe_fld (pv 2) rfl) (pa_cons (pe_fld (pv 2) rfl) pa_nil)))) (pe_tup (pa_cons pe_str pa_nil))))) pss_nil)
      (pss_one (ps_ret (pe_ifExp (PW.pt (pw_and (pt_val (pe_callB My.call_isA (by rfl) T.z_isinstance boot_isinstance (pa_cons (pv 1) (pa_cons (pe_glob (v := .ref CT) (by rfl) T.e_BadText.gC rfl) pa_nil)))) (pw_and1 (pt_cmpR op_eq (My.pe_xa (pv 1)) pe_int (nomark _))))) (pe_tup (pa_cons pe_str (pa_cons (My.pe_xa (pv 1)) pa_nil))) (pe_tup (pa_cons pe_str pa_nil)))))))), ?_⟩
    refine ⟨(by show 2 ≤ sizeLine; decide), fun t0 h0 => ?_⟩
    have s0 := same_new (o := .tup [.non, .non]) h0
    have ty := ty.same s0
    have k : ∀ (t : Addr) (H' : Hp), H' t = some (.tup (resV (readV v))) → Same (upd H t0 (.tup [.non, .non])) H' → Q (.ref t) H' := fun t H' e s => k t H' e (s0.trans s)
    refine ⟨t0, _, rfl, SqT.of upd_same, rfl, _, _, rfl, _, _, rfl, rfl, ?_⟩
    generalize upd H t0 (.tup [.non, .non]) = H0 at ty k
    clear s0
    refine ⟨fun cls d H' => ∃ dd n, cls = .ref CT ∧ d = some dd ∧ readV v = .word n ∧ H' dd = some (.xd [("line", .int 0), ("word", .int (n : Nat))]) ∧ Same H0 H', ?_, rfl, _, rfl, v, rfl, ty, sh, fun a b er q H1 l1 s1 => ?_, fun n er d H1 hd h1 s1 => ⟨d, n, rfl, rfl, er, h1, s1⟩⟩
    · rintro cls d σ' H' ⟨dd, n, rfl, rfl, er, hd, s1⟩
      refine ⟨true, TH.xB, fun _ a na hl => ?_, fun z => Bool.noConfusion z⟩
      obtain ⟨x0, x1, x2, x3, rfl⟩ := four hl
      have hd' := same_new (o := ExA (.ref CT) (some dd) a) na _ _ hd
      refine ⟨_, rfl, rfl, _, rfl, iteF ?_⟩
      refine ⟨_, rfl, a, CT, dd, _, _, _, true, rfl, .own _, TH.kB, upd_same, hd', TH.iBB, _, rfl, iteT ?_⟩
      refine ⟨_, rfl, a, CT, dd, _, .int 0, rfl, upd_same, hd', T.e_BadText.rd, T.e_BadText.nf, by simp [List.lookup], rfl, _, rfl, iteT ?_⟩
      refine ⟨_, rfl, a, CT, dd, _, .int (n : Nat), rfl, upd_same, hd', T.e_BadText.rd, T.e_BadText.ng, rfl, (by show 2 ≤ sizeLine; decide), fun t ht => ?_⟩
      rw [er] at k
      exact k t _ upd_same (s1.trans ((same_new na).trans (same_new ht)))
    · obtain ⟨dx, e⟩ := id l1
      refine ⟨_, rfl, rfl, _, rfl, iteT ?_⟩
      refine ⟨_, rfl, _, _, _, _, true, rfl, .own _, .base (.ins e T.cl T.ha T.hn T.ht T.hm), T.me, _, rfl, iteT ?_⟩
      refine ⟨_, rfl, q, CLine, dx, _, _, rfl, e, T.cl, T.nS, lfs_slope _ _, _, rfl, q, CLine, dx, _, _, rfl, e, T.cl, T.nM, lfs_more _ _, (by show 3 ≤ sizeLine; decide), fun t ht => ?_⟩
      rw [er] at k
      exact k t _ upd_same (s1.trans (same_new ht))
end
end My
set_option pp.maxSteps 1500
set_option pp.deepTerms.threshold 8
/-! ### the law's texts -/
namespace My
open PySem PySem.Spec PyProof.Rows L2 TL TX
abbrev s_ltext : Stmt := topS 21
theorem sc_ltext : FnScope ["_law_rise_here", "_law_base", "_law_head"] ["_law_rise_here", "_law_base"] (defScope s_ltext) := ⟨rfl, rfl, rfl, by decide +kernel, rfl, by decide +kernel, by decide +kernel⟩
abbrev s_integer : Stmt := topS 20
theorem sc_integer : FnScope ["_law_pen_here", "_law_some", "_law_found"] ["_law_pen_here"] (defScope s_integer) := ⟨rfl, rfl, rfl, by decide +kernel, rfl, by decide +kernel, by decide +kernel⟩
def Num (z : Int) : Prop := z.natAbs < 10 ^ 60
theorem Num.log {z : Int} (h : Num z) : z.natAbs.log2 < 1920 := Nat.lt_of_lt_of_le (PySem.Flt.log2_lt_of (k := 200) (by decide) (Nat.lt_of_lt_of_le h (by decide +kernel))) (by decide)
theorem intT_len {i : Int} (h : Num i) : (Str.ofString (toString i)).length ≤ 61 := by
  rw [len_tl, tl_int]
  unfold intL
  have := numL_len (k := 60) (by decide) h
  split
  · rw [List.length_cons]
    omega
  · omega
theorem tl_head {a : Int} : tl (headT a) = headL a := by
  unfold headT headL
  split
  · decide +kernel
  · split
    · decide +kernel
    · rw [tl_append, tl_append]
      show tl Str.empty ++ tl (Str.ofString (toString a)) ++ tl ("m" : Str) = _
      rw [tl_int]
      show [] ++ intL a ++ [109] = _
      rw [List.nil_append]
theorem tl_abs {b : Int} : tl ((toString (if b < 0 then -b else b) : String) : Str) = numL b.natAbs := by
  show tl (Str.ofString (toString (if b < 0 then -b else b))) = _
  have e : (if b < 0 then -b else b) = ((b.natAbs : Nat) : Int) := by split <;> omega
  rw [e, tl_num]
/-- the program's text -/
theorem tl_line {a b : Int} : tl (lineT a b) = joinL [32] (lineWs a b) := by
  unfold lineT lineWs
  split
  · exact tl_int b
  · split
    · exact tl_head
    · rw [tl_append, tl_append, tl_append, tl_append, tl_append, tl_head, tl_abs]
      have e1 : tl Str.empty = [] := rfl
      have e2 : tl (" " : Str) = [32] := by decide +kernel
      have e3 : tl (Str.ofString (if 0 < b then "+" else "-")) = if 0 < b then [43] else [45] := by split <;> decide +kernel
      rw [e1, e2, e3]
      show _ = headL a ++ ([32] ++ ((if 0 < b then [43] else [45]) ++ ([32] ++ numL b.natAbs)))
      simp only [List.nil_append, List.append_assoc]
/-- the text, read -/
theorem line_words {x : Str} {a b : Int} (h : tl x = joinL [32] (lineWs a b)) (ha : Num a) (hb : Num b) : readV (.str x) = .line a b := by
  show readL ((Txt.split x " ").map tl) = _
  rw [words_of h lineWs_ne lineWs_free]
  exact read_line ha hb
theorem headL_len {a : Int} (ha : Num a) : (headL a).length ≤ 62 := by
  have hi := intT_len ha
  rw [len_tl, tl_int] at hi
  unfold headL
  split
  · decide
  · split
    · decide
    · rw [List.length_append]
      show _ + 1 ≤ 62
      omega
theorem lineWs_len {a b : Int} (ha : Num a) (hb : Num b) : (joinL [32] (lineWs a b)).length ≤ 200 := by
  have hi : ∀ {i : Int}, Num i → (intL i).length ≤ 61 := fun {i} h => by
    have := intT_len h
    rw [len_tl, tl_int] at this
    exact this
  have hh : (headL a).length ≤ 62 := by
    unfold headL
    have := hi ha
    split
    · decide
    · split
      · decide
      · rw [List.length_append]
        show _ + 1 ≤ 62
        omega
  have hn := numL_len (k := 60) (by decide) hb
  unfold lineWs
  split
  · have := hi hb
    show (intL b).length ≤ 200
    omega
  · split
    · show (headL a).length ≤ 200
      omega
    · show (headL a ++ ([32] ++ ((if 0 < b then [43] else [45]) ++ ([32] ++ numL b.natAbs)))).length ≤ 200
      have e : (if 0 < b then [43] else [45] : List Nat).length = 1 := by split <;> rfl
      rw [List.length_append, List.length_append, List.length_append, List.length_append, e]
      show (headL a).length + (1 + (1 + (1 + (numL b.natAbs).length))) ≤ 200
      omega
def spLtext : Sp := fun vs H Q _ => ∃ (a b : Int), vs = [.int a, .int b] ∧ Num a ∧ Num b ∧ ∀ (x : Str) (H' : Hp), tl x = joinL [32] (lineWs a b) → Same H H' → Q (.str x) H'
section
variable {P : Program} {w : World} {K : PySem.W.Frag} {mg : Str → Option Value} {base : Heap} {CLine CBadLine fBadLine CT fT : Addr} {tM tD : Tok}
theorem ok_ltext {f : Addr} {fd : FuncData} (F : Fun K "_law_text" "_law_text" s_ltext f fd) (T : STx P K mg CLine CBadLine fBadLine CT fT tM tD) : FnOk P w K mg base CX0 1 f fd ["_law_rise_here", "_law_base"] spLtext := by
  refine F.ok sc_ltext (fun vs H Q E h => ?_) (fun cdv A outer s H vs Q E hr h => ?_)
  · obtain ⟨a, b, rfl, _⟩ := h
    rfl
  · obtain ⟨a, b, rfl, ha, hb, k⟩ := h
    refine ⟨_, (pss_cons (ps_if (pt_cmpR op_eq (pv 0) pe_int (nomark _)) (pss_one (ps_ret (pe_callTy call_str_int (by rfl) T.z_str boot_str (pa_cons (pv 1) pa_nil)))) pss_nil)
      (pss_cons (ps_set (i := 2) sc_ltext.nd rfl (Or.inl rfl) (pe_ifExp (pt_cmpR op_eq (pe_callB call_abs (by rfl) T.z_abs boot_abs (pa_cons (pv 0) pa_nil)) pe_int (nomark _)) (pe_ix ix_list (pe_lst (pa_cons pe_str (pa_cons pe_str (pa_cons pe_str pa_nil)))) (pe_op op_add (pv 0) pe_int) (fun _ _ => rfl)) (pe_op op_add_str (pe_callTy call_str_int (by rfl) T.z_str boot_str (pa_cons (pv 0) pa_nil)) pe_str)))
      (pss_cons (ps_if (pt_cmpR op_eq (pv 1) pe_int (nomark _)) (pss_one (ps_ret (pv 2))) pss_nil)
      (pss_one (ps_ret (pe_op op_add_str (pe_op op_add_str (pv 2) (pe_ix ix_list (pe_lst (pa_cons pe_str (pa_cons pe_str pa_nil))) (pe_callTy call_int1 (by rfl) T.z_int boot_int (pa_cons (pe_cmpR op_gt (pv 1) pe_int (nomark _)) pa_nil)) (fun _ _ => rfl))) (pe_callTy call_str_int (by rfl) T.z_str boot_str (pa_cons (pe_callB call_abs (by rfl) T.z_abs boot_abs (pa_cons (pv 1) pa_nil)) pa_nil)))))))), ?_⟩
    refine ⟨_, rfl, rfl, _, rfl, ?_⟩
    by_cases a0 : a = 0
    · subst a0
      show (if decide (V.int 0 = V.int 0) = true then _ else _)
      rw [decide_eq_true (rfl : V.int 0 = V.int 0)]
      refine iteT ⟨_, rfl, b, rfl, hb.log, k _ H ?_ fun _ _ e => e⟩
      show tl (Str.ofString (toString b)) = _
      rw [tl_int]
      rfl
    show (if decide (V.int a = V.int 0) = true then _ else _)
    rw [decide_eq_false fun z => a0 (V.int.inj z)]
    -- the head
    refine iteF ⟨_, rfl, a, rfl, rfl, _, rfl, ?_⟩
    have em : tl ("m" : Str) = [109] := by decide +kernel
    by_cases a1 : a = 1
    case' pos =>
      subst a1
      show (if decide (V.int 1 = V.int 1) = true then _ else _)
      rw [decide_eq_true (rfl : V.int 1 = V.int 1)]
      refine iteT ⟨(by show 3 ≤ sizeLine; decide), fun l hl => ⟨_, rfl, _, _, rfl, rfl, l, _, _, _, rfl, rfl, SqL.of upd_same, at2, ?_⟩⟩
      have hh : tl ("m" : Str) = headL 1 := em
      have s1 := same_new (o := .lst [.str "-m", .str "", .str "m"]) hl
      generalize upd H l (.lst [.str "-m", .str "", .str "m"]) = H1 at s1
      generalize ("m" : Str) = hd at hh
    case' neg =>
      by_cases a2 : a = -1
      case' pos =>
        subst a2
        show (if decide (V.int 1 = V.int 1) = true then _ else _)
        rw [decide_eq_true (rfl : V.int 1 = V.int 1)]
        refine iteT ⟨(by show 3 ≤ sizeLine; decide), fun l hl => ⟨_, rfl, _, _, rfl, rfl, l, _, _, _, rfl, rfl, SqL.of upd_same, at0, ?_⟩⟩
        have hh : tl ("-m" : Str) = headL (-1) := by decide +kernel
        have s1 := same_new (o := .lst [.str "-m", .str "", .str "m"]) hl
        generalize upd H l (.lst [.str "-m", .str "", .str "m"]) = H1 at s1
        generalize ("-m" : Str) = hd at hh
      case' neg =>
        show (if decide (V.int (if a < 0 then -a else a) = V.int 1) = true then _ else _)
        rw [decide_eq_false fun z => by
          have := V.int.inj z
          split at this <;> omega]
        refine iteF ⟨_, rfl, a, rfl, ha.log, _, _, rfl, rfl, ?_, ?_⟩
        · have := intT_len ha
          have e : (("m" : Str)).length = 1 := rfl
          rw [e, sizeLine_eq]
          show (Str.ofString (toString a)).length + 1 ≤ _
          omega
        have hh : tl ((toString a : String) ++ ("m" : Str)) = headL a := by
          rw [tl_append, em]
          show tl (Str.ofString (toString a)) ++ _ = _
          rw [tl_int]
          unfold headL
          rw [if_neg a1, if_neg a2]
        generalize ((toString a : String) ++ ("m" : Str)) = hd at hh
        obtain ⟨H1, hH1⟩ : ∃ H1, H1 = H := ⟨_, rfl⟩
        rw [← hH1]
        have s1 : Same H H1 := fun _ _ e => by rw [hH1]; exact e
    all_goals
      refine ⟨_, rfl, rfl, _, rfl, ?_⟩
      by_cases b0 : b = 0
      · subst b0
        show (if decide (V.int 0 = V.int 0) = true then _ else _)
        rw [decide_eq_true (rfl : V.int 0 = V.int 0)]
        refine iteT ⟨_, rfl, k _ _ ?_ s1⟩
        rw [hh]
        unfold lineWs
        rw [if_neg a0, if_pos rfl]
        rfl
      · show (if decide (V.int b = V.int 0) = true then _ else _)
        rw [decide_eq_false fun z => b0 (V.int.inj z)]
        have lh : hd.length ≤ 62 := by
          rw [len_tl, hh]
          exact headL_len ha
        have nb : Num (if b < 0 then -b else b) := by
          unfold Num at hb ⊢
          split <;> omega
        have lb := intT_len nb
        have lb' : ((toString (if b < 0 then -b else b) : String) : Str).length ≤ 61 := lb
        refine iteF ⟨_, rfl, (by show 2 ≤ sizeLine; decide), fun l2 h2 => ⟨_, rfl, _, _, rfl, rfl, .inr ⟨_, rfl, ?_⟩⟩⟩
        have s2 := s1.trans (same_new (o := .lst [.str " - ", .str " + "]) h2)
        by_cases g : 0 < b
        · have gd : decide (b > 0) = true := decide_eq_true g
          rw [gd]
          refine ⟨l2, _, _, .str " + ", rfl, rfl, SqL.of upd_same, rfl, hd, " + ", rfl, rfl, ?_, _, rfl, b, rfl, _, rfl, nb.log, _, _, rfl, rfl, ?_, ?_⟩
          · rw [sizeLine_eq]
            have e : ((" + " : Str)).length = 3 := rfl
            omega
          · rw [app_len, sizeLine_eq]
            have e : ((" + " : Str)).length = 3 := rfl
            omega
          refine k _ _ ?_ s2
          rw [tl_append, tl_append, hh, tl_abs]
          have e3 : tl (" + " : Str) = [32, 43, 32] := by decide +kernel
          rw [e3]
          unfold lineWs
          rw [if_neg a0, if_neg b0, if_pos g]
          show headL _ ++ [32, 43, 32] ++ numL b.natAbs = headL _ ++ ([32] ++ ([43] ++ ([32] ++ numL b.natAbs)))
          simp only [List.append_assoc, List.cons_append, List.nil_append]
        · have gd : decide (b > 0) = false := decide_eq_false g
          rw [gd]
          refine ⟨l2, _, _, .str " - ", rfl, rfl, SqL.of upd_same, rfl, hd, " - ", rfl, rfl, ?_, _, rfl, b, rfl, _, rfl, nb.log, _, _, rfl, rfl, ?_, ?_⟩
          · rw [sizeLine_eq]
            have e : ((" - " : Str)).length = 3 := rfl
            omega
          · rw [app_len, sizeLine_eq]
            have e : ((" - " : Str)).length = 3 := rfl
            omega
          refine k _ _ ?_ s2
          rw [tl_append, tl_append, hh, tl_abs]
          have e3 : tl (" - " : Str) = [32, 45, 32] := by decide +kernel
          rw [e3]
          unfold lineWs
          rw [if_neg a0, if_neg b0, if_neg g]
          show headL _ ++ [32, 45, 32] ++ numL b.natAbs = headL _ ++ ([32] ++ ([45] ++ ([32] ++ numL b.natAbs)))
          simp only [List.append_assoc, List.cons_append, List.nil_append]
def spInteger : Sp := fun vs H Q _ => ∃ (pn : Addr) (n : Nat), vs = [.ref pn] ∧ PenAt H pn n ∧ n < 90000 ∧ ∀ (z : Int) (H' : Hp), Num z → PenAt H' pn (n + 5) → But pn H H' → Q (.int z) H'
theorem ok_integer {f : Addr} {fd : FuncData} (F : Fun K "_law_integer" "_law_integer" s_integer f fd) (T : BI mg) (D_draw : DefAt P w K mg base CX0 1 "_law_draw" ["_law_pen_here", "_law_many"] spDraw)
    (D_pick : DefAt P w K mg base CX0 2 "_law_pick" ["_law_pen_here", "_law_some"] spPick) : FnOk P w K mg base CX0 3 f fd ["_law_pen_here"] spInteger := by
  refine F.ok sc_integer (fun vs H Q E h => ?_) (fun cdv A outer s H vs Q E hr h => ?_)
  · obtain ⟨pn, n, rfl, _⟩ := h
    rfl
  · obtain ⟨pn, n, rfl, hp, hn, k⟩ := h
    refine ⟨_, (pss_cons (ps_set (i := 1) sc_integer.nd rfl (Or.inl rfl) (pe_lst (pa_cons pe_int (pa_cons pe_int (pa_cons pe_int (pa_cons pe_int (pa_cons (My.pe_d D_draw (hr.mono (by decide)) (by rfl) pass0 (pa_cons (pv 0) (pa_cons pe_int pa_nil))) (pa_cons (My.pe_d D_draw (hr.mono (by decide)) (by rfl) pass0 (pa_cons (pv 0) (pa_cons pe_int pa_nil))) (pa_cons (My.pe_d D_draw (hr.mono (by decide)) (by rfl) pass0 (pa_cons (pv 0) (pa_cons (pe_op op_pow pe_int pe_int) pa_nil))) (pa_cons (pe_op op_sub (pe_op op_pow pe_int pe_int) pe_int) pa_nil))))))))))
      (pss_cons (ps_set (i := 2) sc_integer.nd rfl (Or.inl rfl) (My.pe_d D_pick (hr.mono (by decide)) (by rfl) pass0 (pa_cons (pv 0) (pa_cons (pv 1) pa_nil))))
      (pss_one (ps_ret (pe_ifExp (pt_cmpR op_eq (My.pe_d D_draw (hr.mono (by decide)) (by rfl) pass0 (pa_cons (pv 0) (pa_cons pe_int pa_nil))) pe_int (nomark _)) (pe_op op_sub pe_int (pv 2)) (pv 2)))))), ?_⟩
    refine ⟨_, rfl, pn, 12, n, rfl, by decide, by decide, hp, by omega, fun d1 H1 a1 b1 p1 u1 => ?_⟩
    refine ⟨_, rfl, pn, 1000, n + 1, rfl, by decide, by decide, p1, by omega, fun d2 H2 a2 b2 p2 u2 => ?_⟩
    refine ⟨_, rfl, _, _, rfl, rfl, ⟨by decide, by decide, by decide⟩, pn, _, n + 2, rfl, by decide, by decide, p2, by omega, fun d3 H3 a3 b3 p3 u3 => ?_⟩
    refine ⟨_, _, rfl, rfl, ⟨by decide, by decide, by decide⟩, _, _, rfl, rfl, (by show 8 ≤ sizeLine; decide), fun l hl => ?_⟩
    refine ⟨_, rfl, _, rfl, pn, l, n + 3, _, rfl, upd_same, pen_ne p3 hl, (by show 0 < 8; decide), (by show 8 ≤ 1000; decide), pen_new p3 hl, by omega, fun v H4 hv p4 u4 => ?_⟩
    obtain ⟨z, rfl, hz⟩ := mem_ints (zs := [0, 1, 1, 2, d1, d2, d3, 10 ^ Int.toNat 60 - 1]) hv
    have e60 : (10 : Int) ^ Int.toNat 60 = 1000000000000000000000000000000000000000000000000000000000000 := by decide
    have e60n : (10 : Nat) ^ 60 = 1000000000000000000000000000000000000000000000000000000000000 := by decide
    have e30 : (10 : Int) ^ Int.toNat 30 = 1000000000000000000000000000000 := by decide
    have z0 : 0 ≤ z ∧ z < 1000000000000000000000000000000000000000000000000000000000000 := by
      rw [e30] at b3
      rw [e60] at hz
      simp only [List.mem_cons, List.mem_nil_iff, or_false] at hz
      rcases hz with e | e | e | e | e | e | e | e <;> omega
    have uu : But pn H H4 := (((u1.trans u2).trans u3).trans (But.new hl)).trans u4
    refine ⟨_, rfl, pn, 2, n + 4, rfl, by decide, by decide, p4, by omega, fun d5 H5 a5 b5 p5 u5 => ?_⟩
    refine ⟨rfl, _, rfl, ?_⟩
    refine ite2 (fun c => ?_) (fun c => ?_)
    · exact ⟨_, rfl, _, _, rfl, rfl, k _ H5 (by unfold Num; rw [e60n]; omega) p5 (uu.trans u5)⟩
    · exact ⟨_, rfl, k _ H5 (by unfold Num; rw [e60n]; omega) p5 (uu.trans u5)⟩
end
end My
set_option pp.maxSteps 1500
set_option pp.deepTerms.threshold 8
/-! ### texts bent -/
namespace My
open PySem PySem.Spec PyProof.Rows L2 TL TX
abbrev s_bent : Stmt := topS 27
theorem sc_bent : FnScope ["_law_pen_here", "_law_page", "_law_words", "_law_way", "_law_at", "_law_some", "_law_word"] ["_law_pen_here", "_law_page"] (defScope s_bent) := ⟨rfl, rfl, rfl, by decide +kernel, rfl, by decide +kernel, by decide +kernel⟩
def tot (ws : List Str) : Nat := (ws.map (·.length)).sum
def cutW (ws : List Str) (lo hi : Option Int) : List Str := (ws.drop (HT.sIx ws.length 0 lo)).take (HT.sIx ws.length ws.length hi - HT.sIx ws.length 0 lo)
theorem cut_strs (ws : List Str) (lo hi : Option Int) : cutV (ws.map V.str) lo hi = (cutW ws lo hi).map V.str := by
  unfold cutV cutW
  rw [List.length_map, List.map_take, List.map_drop]
theorem tot_app (a b : List Str) : tot (a ++ b) = tot a + tot b := by
  unfold tot
  rw [List.map_append, List.sum_append]
theorem tot_drop (ws : List Str) : ∀ n, tot (ws.drop n) ≤ tot ws := by
  induction ws with
  | nil => intro n; rw [List.drop_nil]; exact Nat.le_refl _
  | cons w ws ih =>
    intro n
    cases n with
    | zero => exact Nat.le_refl _
    | succ n =>
      have := ih n
      show tot (ws.drop n) ≤ w.length + tot ws
      omega
theorem tot_take (ws : List Str) : ∀ n, tot (ws.take n) ≤ tot ws := by
  induction ws with
  | nil => intro n; rw [List.take_nil]; exact Nat.le_refl _
  | cons w ws ih =>
    intro n
    cases n with
    | zero => exact Nat.zero_le _
    | succ n =>
      have := ih n
      show w.length + tot (ws.take n) ≤ w.length + tot ws
      omega
theorem tot_cut (ws : List Str) (lo hi : Option Int) : tot (cutW ws lo hi) ≤ tot ws ∧ (cutW ws lo hi).length ≤ ws.length := by
  unfold cutW
  refine ⟨Nat.le_trans (tot_take _ _) (tot_drop _ _), ?_⟩
  rw [List.length_take, List.length_drop]
  omega
theorem joinL_len (S : List Nat) : ∀ ps : List (List Nat), (joinL S ps).length ≤ (ps.map List.length).sum + ps.length * S.length
  | [] => Nat.zero_le _
  | [p] => by
    show p.length ≤ (p.length + 0) + 1 * S.length
    omega
  | p :: q :: r => by
    have := joinL_len S (q :: r)
    show (p ++ (S ++ joinL S (q :: r))).length ≤ (p.length + ((q :: r).map List.length).sum) + ((q :: r).length + 1) * S.length
    rw [List.length_append, List.length_append, Nat.add_mul]
    omega
theorem join_len (y : Str) (ps : List Str) : (Txt.join y ps).length ≤ tot ps + ps.length * y.length := by
  rw [join_eq, len_tl, tl_join, len_tl]
  refine Nat.le_trans (joinL_len _ _) ?_
  rw [List.length_map, List.map_map]
  have e : ps.map (List.length ∘ tl) = ps.map (·.length) := List.map_congr_left fun z _ => (len_tl z).symm
  rw [e]
  exact Nat.le_refl _
theorem mem_strs {v : V} {zs : List Str} (h : v ∈ zs.map V.str) : ∃ z, v = .str z ∧ z ∈ zs := by
  obtain ⟨z, hz, e⟩ := List.mem_map.mp h
  exact ⟨z, e.symm, hz⟩
def spBent : Sp := fun vs H Q _ => ∃ (pn : Addr) (n : Nat) (x : Str), vs = [.ref pn, .str x] ∧ PenAt H pn n ∧ n < 80000 ∧ x.length ≤ 300 ∧ ∀ (y : Str) (H' : Hp), y.length ≤ 2000 → PenAt H' pn (n + 5) → But pn H H' → Q (.str y) H'
def some1 : List Str := ["", "0", "1", "-1", "01", "m", "-m", "1m", "-1m", "0m", "2m", "+", "-", "x", "mm", "+m", "3", "-0", "2m-"]
def some2 : List Str := [mulS "9" 61, mulS "9" 60 ++ "m", mulS "9" 61 ++ "m", "-" ++ mulS "9" 60, "0123", "m2"]
theorem some_len : ∀ y ∈ some1 ++ some2, y.length ≤ 70 := by decide +kernel
section
variable {P : Program} {w : World} {K : PySem.W.Frag} {mg : Str → Option Value} {base : Heap} {CLine CBadLine fBadLine CT fT : Addr} {tM tD : Tok}
theorem ok_bent {f : Addr} {fd : FuncData} (F : Fun K "_law_bent" "_law_bent" s_bent f fd) (T : BI mg) (D_draw : DefAt P w K mg base CX0 1 "_law_draw" ["_law_pen_here", "_law_many"] spDraw)
    (D_pick : DefAt P w K mg base CX0 2 "_law_pick" ["_law_pen_here", "_law_some"] spPick) : FnOk P w K mg base CX0 3 f fd ["_law_pen_here", "_law_page"] spBent := by
  refine F.ok sc_bent (fun vs H Q E h => ?_) (fun cdv A outer s H vs Q E hr h => ?_)
  · obtain ⟨pn, n, x, rfl, _⟩ := h
    rfl
  · obtain ⟨pn, n, x, rfl, hp, hn, hx, k⟩ := h
    refine ⟨_, (pss_cons (ps_par (i := 2) (j := 3) (by rfl) sc_bent.nd rfl rfl (by decide) rfl rfl (pa_cons (pe_split (pv 1) pe_str) (pa_cons (My.pe_d D_draw (hr.mono (by decide)) (by rfl) pass0 (pa_cons (pv 0) (pa_cons pe_int pa_nil))) pa_nil)) (by rfl))
      (pss_cons (ps_set (i := 4) sc_bent.nd rfl (Or.inl rfl) (My.pe_d D_draw (hr.mono (by decide)) (by rfl) pass0 (pa_cons (pv 0) (pa_cons (pe_callB call_len (by rfl) T.z_len PySem.boot_len (pa_cons (pv 2) pa_nil)) pa_nil))))
      (pss_cons (ps_set (i := 5) sc_bent.nd rfl (Or.inl rfl) (pe_lst (pa_cons pe_str (pa_cons pe_str (pa_cons pe_str (pa_cons pe_str (pa_cons pe_str (pa_cons pe_str (pa_cons pe_str (pa_cons pe_str (pa_cons pe_str (pa_cons pe_str (pa_cons pe_str (pa_cons pe_str (pa_cons pe_str (pa_cons pe_str (pa_cons pe_str (pa_cons pe_str (pa_cons pe_str (pa_cons pe_str (pa_cons pe_str pa_nil)))))))))))))))))))))
      (pss_cons (ps_set (i := 6) sc_bent.nd rfl (Or.inl rfl) (My.pe_d D_pick (hr.mono (by decide)) (by rfl) pass0 (pa_cons (pv 0) (pa_cons (pe_op op_cat (pv 5) (pe_lst (pa_cons (pe_op My.op_mulS pe_str pe_int) (pa_cons (pe_op op_add_str (pe_op My.op_mulS pe_str pe_int) pe_str) (pa_cons (pe_op op_add_str (pe_op My.op_mulS pe_str pe_int) pe_str) (pa_cons (pe_op op_add_str pe_str (pe_op My.op_mulS pe_str pe_int)) (pa_cons pe_str (pa_cons pe_str pa_nil)))))))) pa_nil))))
      (pss_cons (ps_if (pt_cmpR op_eq (pv 3) pe_int (nomark _)) (pss_one (ps_ret (pe_join pe_str (pe_op op_cat (pe_slice sl_list (pv 2) po_none (po_some (pv 4))) (pe_slice sl_list (pv 2) (po_some (pe_op op_add (pv 4) pe_int)) po_none))))) pss_nil)
      (pss_cons (ps_if (pt_cmpR op_eq (pv 3) pe_int (nomark _)) (pss_one (ps_ret (pe_join pe_str (pe_op op_cat (pe_op op_cat (pe_slice sl_list (pv 2) po_none (po_some (pv 4))) (pe_lst (pa_cons (pv 6) pa_nil))) (pe_slice sl_list (pv 2) (po_some (pv 4)) po_none))))) pss_nil)
      (pss_cons (ps_if (pt_cmpR op_eq (pv 3) pe_int (nomark _)) (pss_one (ps_ret (pe_op op_add_str (pv 1) (My.pe_d D_pick (hr.mono (by decide)) (by rfl) pass0 (pa_cons (pv 0) (pa_cons (pe_lst (pa_cons pe_str (pa_cons (pe_op op_add_str pe_str (pv 6)) (pa_cons pe_str (pa_cons pe_str (pa_cons pe_str pa_nil)))))) pa_nil)))))) pss_nil)
      (pss_cons (ps_if (pt_cmpR op_eq (pv 3) pe_int (nomark _)) (pss_one (ps_ret (pe_op op_add_str (My.pe_d D_pick (hr.mono (by decide)) (by rfl) pass0 (pa_cons (pv 0) (pa_cons (pe_lst (pa_cons pe_str (pa_cons pe_str (pa_cons pe_str (pa_cons pe_str pa_nil))))) pa_nil))) (pv 1)))) pss_nil)
      (pss_one (ps_ret (pe_join pe_str (pe_op op_cat (pe_op op_cat (pe_slice sl_list (pv 2) po_none (po_some (pv 4))) (pe_lst (pa_cons (pv 6) pa_nil))) (pe_slice sl_list (pv 2) (po_some (pe_op op_add (pv 4) pe_int)) po_none))))))))))))), ?_⟩
    obtain ⟨n1, n2, n3⟩ := words_len x
    have lW : tot (Txt.split x " ") ≤ 300 := Nat.le_trans n2 hx
    obtain ⟨w0, ws, ew⟩ : ∃ w0 ws, Txt.split x " " = w0 :: ws := by
      obtain ⟨a, b, e⟩ := split_ne x
      cases g : Txt.split x " " with
      | nil => rw [g] at e; cases e
      | cons w0 ws => exact ⟨w0, ws, rfl⟩
    have l0 : 0 < (Txt.split x " ").length := by rw [ew]; exact Nat.succ_pos _
    generalize hW : Txt.split x " " = W at n1 n2 n3 lW l0
    refine ⟨_, rfl, ⟨x, rfl⟩, x, " ", rfl, rfl, by decide +kernel, (by rw [sizeLine_eq]; omega), fun l hl => ?_⟩
    rw [hW]
    have p0 := pen_new (o := .lst (W.map V.str)) hp hl
    have nl := pen_ne hp hl
    have L0 : (upd H l (.lst (W.map V.str))) l = some (.lst (W.map V.str)) := upd_same
    have u0 : But pn H (upd H l (.lst (W.map V.str))) := But.new hl
    generalize upd H l (.lst (W.map V.str)) = H0 at p0 L0 u0
    refine ⟨_, rfl, pn, 6, n, rfl, by decide, by decide, p0, by omega, fun d1 H1 a1 b1 p1 u1 => ⟨_, _, rfl, ?_⟩⟩
    have L1 := u1 _ _ L0 nl
    have eW : (W.map V.str).length = W.length := List.length_map ..
    refine ⟨_, rfl, _, rfl, _, W.length, rfl, .inl ⟨_, SqL.of L1, eW.symm⟩, pn, _, n + 1, rfl, by omega, ?_, p1, by omega, fun d2 H2 a2 b2 p2 u2 => ?_⟩
    · exact Nat.lt_of_lt_of_le (PySem.Flt.log2_lt_of (k := 10) (by decide) (by show _ < 1024; omega)) (by decide)
    have L2 := u2 _ _ L1 nl
    refine ⟨(by show 19 ≤ sizeLine; decide), fun l3 h3 => ?_⟩
    have p3 := pen_new (o := .lst [.str "", .str "0", .str "1", .str "-1", .str "01", .str "m", .str "-m", .str "1m", .str "-1m", .str "0m", .str "2m", .str "+", .str "-", .str "x", .str "mm", .str "+m", .str "3", .str "-0", .str "2m-"]) p2 h3
    have L3 := (But.new (pn := pn) (o := .lst [.str "", .str "0", .str "1", .str "-1", .str "01", .str "m", .str "-m", .str "1m", .str "-1m", .str "0m", .str "2m", .str "+", .str "-", .str "x", .str "mm", .str "+m", .str "3", .str "-0", .str "2m-"]) h3) _ _ L2 nl
    have M3 : (upd H2 l3 (.lst [.str "", .str "0", .str "1", .str "-1", .str "01", .str "m", .str "-m", .str "1m", .str "-1m", .str "0m", .str "2m", .str "+", .str "-", .str "x", .str "mm", .str "+m", .str "3", .str "-0", .str "2m-"])) l3 = some (.lst (some1.map V.str)) := upd_same
    have n3' := pen_ne p2 h3
    have u3 : But pn H2 (upd H2 l3 (.lst [.str "", .str "0", .str "1", .str "-1", .str "01", .str "m", .str "-m", .str "1m", .str "-1m", .str "0m", .str "2m", .str "+", .str "-", .str "x", .str "mm", .str "+m", .str "3", .str "-0", .str "2m-"])) := But.new h3
    generalize upd H2 l3 (.lst [.str "", .str "0", .str "1", .str "-1", .str "01", .str "m", .str "-m", .str "1m", .str "-1m", .str "0m", .str "2m", .str "+", .str "-", .str "x", .str "mm", .str "+m", .str "3", .str "-0", .str "2m-"]) = H3 at p3 L3 M3 u3
    have e9 : ("9" : Str).length = 1 := rfl
    have m60 : (mulS "9" (Int.toNat 60)).length ≤ 61 := by decide +kernel
    have m61 : (mulS "9" (Int.toNat 61)).length ≤ 61 := by decide +kernel
    have em : ("m" : Str).length = 1 := rfl
    have es : ("-" : Str).length = 1 := rfl
    refine ⟨_, rfl, _, rfl, "9", 61, rfl, rfl, by decide, by decide, by decide, by decide, (by rw [sizeLine_eq]; omega), ?_⟩
    refine ⟨"9", 60, rfl, rfl, by decide, by decide, by decide, by decide, (by rw [sizeLine_eq]; omega), _, "m", rfl, rfl, (by rw [sizeLine_eq]; omega), ?_⟩
    refine ⟨"9", 61, rfl, rfl, by decide, by decide, by decide, by decide, (by rw [sizeLine_eq]; omega), _, "m", rfl, rfl, (by rw [sizeLine_eq]; omega), ?_⟩
    refine ⟨"9", 60, rfl, rfl, by decide, by decide, by decide, by decide, (by rw [sizeLine_eq]; omega), "-", _, rfl, rfl, (by rw [sizeLine_eq]; omega), ?_⟩
    refine ⟨(by show 6 ≤ sizeLine; decide), fun l4 h4 => ⟨l3, l4, _, _, rfl, rfl, same_new h4 _ _ M3, upd_same, (by show 19 + 6 ≤ sizeLine; decide), fun l5 h5 => ?_⟩⟩
    have e5 : some1.map V.str ++ [.str (mulS "9" (Int.toNat 61)), .str (mulS "9" (Int.toNat 60) ++ "m"), .str (mulS "9" (Int.toNat 61) ++ "m"), .str ("-" ++ mulS "9" (Int.toNat 60)), .str "0123", .str "m2"] = (some1 ++ some2).map V.str := rfl
    rw [e5]
    have p4 := pen_new (o := .lst [.str (mulS "9" (Int.toNat 61)), .str (mulS "9" (Int.toNat 60) ++ "m"), .str (mulS "9" (Int.toNat 61) ++ "m"), .str ("-" ++ mulS "9" (Int.toNat 60)), .str "0123", .str "m2"]) p3 h4
    have p5 := pen_new (o := .lst ((some1 ++ some2).map V.str)) p4 h5
    have U5 : But pn H3 (upd (upd H3 l4 (.lst [.str (mulS "9" (Int.toNat 61)), .str (mulS "9" (Int.toNat 60) ++ "m"), .str (mulS "9" (Int.toNat 61) ++ "m"), .str ("-" ++ mulS "9" (Int.toNat 60)), .str "0123", .str "m2"])) l5 (.lst ((some1 ++ some2).map V.str))) := (But.new h4).trans (But.new h5)
    have n5 := pen_ne p4 h5
    have M5 : (upd (upd H3 l4 (.lst [.str (mulS "9" (Int.toNat 61)), .str (mulS "9" (Int.toNat 60) ++ "m"), .str (mulS "9" (Int.toNat 61) ++ "m"), .str ("-" ++ mulS "9" (Int.toNat 60)), .str "0123", .str "m2"])) l5 (.lst ((some1 ++ some2).map V.str))) l5 = some (.lst ((some1 ++ some2).map V.str)) := upd_same
    have L5 := U5 _ _ L3 nl
    generalize upd (upd H3 l4 (.lst [.str (mulS "9" (Int.toNat 61)), .str (mulS "9" (Int.toNat 60) ++ "m"), .str (mulS "9" (Int.toNat 61) ++ "m"), .str ("-" ++ mulS "9" (Int.toNat 60)), .str "0123", .str "m2"])) l5 (.lst ((some1 ++ some2).map V.str)) = H5 at p5 U5 M5 L5
    refine ⟨pn, l5, n + 2, _, rfl, M5, n5, (by show 0 < 25; decide), (by show 25 ≤ 1000; decide), p5, by omega, fun v H6 hv p6 u6 => ?_⟩
    obtain ⟨y, rfl, hy⟩ := mem_strs hv
    have ly := some_len y hy
    have L6 := u6 _ _ L5 nl
    have U6 := ((u0.trans u1).trans u2).trans (u3.trans (U5.trans u6))
    clear L5 M5 U5 u6 p5 p4 e5 L3 M3 p3 u3 u2 u1 L2 L1 p1 p2
    refine ⟨_, rfl, rfl, _, rfl, ?_⟩
    have e1 : (" " : Str).length = 1 := rfl
    have fin : ∀ (ps : List Str) (r : Addr) (Hz : Hp), tot ps ≤ 800 → ps.length ≤ 800 → Same H6 Hz → Hz r = some (.lst (ps.map V.str)) → ∃ a p, ∃ ys : List Str, V.str " " = .str a ∧ [V.ref r] = [.ref p] ∧ (SqL K Hz p (ys.map V.str) ∨ SqT K Hz p (ys.map V.str)) ∧ (ys.map (·.length)).sum + ys.length * a.length ≤ 16777216 ∧ Q (.str (Txt.join a ys)) Hz := fun ps r Hz t1 t2 s e =>
      ⟨" ", r, ps, rfl, rfl, .inl (SqL.of e), (by
        show tot ps + ps.length * (" " : Str).length ≤ _
        rw [e1]
        omega), k _ Hz (Nat.le_trans (join_len _ _) (by rw [e1]; omega)) ((pen_same p6 s).le (by omega)) (U6.trans (but_same s))⟩
    have ty1 : tot [y] = y.length := by
      show y.length + 0 = _
      omega
    refine ite2 (fun c0 => ?_) (fun c0 => ?_)
    · refine ⟨⟨" ", rfl⟩, _, rfl, _, rfl, d2, rfl, l, _, rfl, SqL.of L6, fun r1 g1 => ?_⟩
      rw [cut_strs]
      have s1 := same_new (o := .lst ((cutW W none (some d2)).map V.str)) g1
      refine ⟨_, rfl, _, rfl, _, _, rfl, rfl, _, rfl, l, _, rfl, SqL.of (s1 _ _ L6), fun r2 g2 => ?_⟩
      rw [cut_strs]
      have s2 := same_new (o := .lst ((cutW W (some (d2 + 1)) none).map V.str)) g2
      obtain ⟨t1, t2⟩ := tot_cut W none (some d2)
      obtain ⟨t3, t4⟩ := tot_cut W (some (d2 + 1)) none
      refine ⟨r1, r2, _, _, rfl, rfl, s2 _ _ upd_same, upd_same, (by rw [List.length_map, List.length_map, sizeLine_eq]; omega), fun r3 g3 => ?_⟩
      rw [← List.map_append]
      exact fin _ r3 _ (by rw [tot_app]; omega) (by rw [List.length_append]; omega) ((s1.trans s2).trans (same_new g3)) upd_same
    refine ⟨_, rfl, rfl, _, rfl, ite2 (fun c1 => ?_) (fun c1 => ?_)⟩
    · refine ⟨⟨" ", rfl⟩, _, rfl, _, rfl, d2, rfl, l, _, rfl, SqL.of L6, fun r1 g1 => ?_⟩
      rw [cut_strs]
      have s1 := same_new (o := .lst ((cutW W none (some d2)).map V.str)) g1
      refine ⟨_, rfl, (by show 1 ≤ sizeLine; decide), fun r2 g2 => ?_⟩
      have s2 := same_new (o := .lst [.str y]) g2
      obtain ⟨t1, t2⟩ := tot_cut W none (some d2)
      obtain ⟨t3, t4⟩ := tot_cut W (some (d2)) none
      refine ⟨r1, r2, _, _, rfl, rfl, s2 _ _ upd_same, upd_same, (by rw [List.length_map, sizeLine_eq]; show _ + 1 ≤ _; omega), fun r3 g3 => ?_⟩
      have q3 : (cutW W none (some d2)).map V.str ++ [V.str y] = (cutW W none (some d2) ++ [y]).map V.str := by rw [List.map_append]; rfl
      rw [q3]
      have s3 := same_new (o := .lst ((cutW W none (some d2) ++ [y]).map V.str)) g3
      refine ⟨_, rfl, _, rfl, d2, rfl, l, _, rfl, SqL.of (s3 _ _ (s2 _ _ (s1 _ _ L6))), fun r4 g4 => ?_⟩
      rw [cut_strs]
      have s4 := same_new (o := .lst ((cutW W (some (d2)) none).map V.str)) g4
      refine ⟨r3, r4, _, _, rfl, rfl, s4 _ _ upd_same, upd_same, (by rw [List.length_map, List.length_map, List.length_append, sizeLine_eq]; show _ + 1 + _ ≤ _; omega), fun r5 g5 => ?_⟩
      rw [← List.map_append]
      have l1 : ([y] : List Str).length = 1 := rfl
      exact fin _ r5 _ (by rw [tot_app, tot_app, ty1]; omega) (by rw [List.length_append, List.length_append, l1]; omega) ((((s1.trans s2).trans s3).trans s4).trans (same_new g5)) upd_same
    refine ⟨_, rfl, rfl, _, rfl, ite2 (fun c2 => ?_) (fun c2 => ?_)⟩
    · refine ⟨_, rfl, _, rfl, _, rfl, " ", y, rfl, rfl, (by rw [sizeLine_eq]; omega), (by show 5 ≤ sizeLine; decide), fun r1 g1 => ?_⟩
      have p7 := pen_new (o := .lst [.str " ", .str (" " ++ y), .str "m", .str "0", .str " + 1"]) p6 g1
      refine ⟨pn, r1, n + 3, _, rfl, upd_same, pen_ne p6 g1, (by show 0 < 5; decide), (by show 5 ≤ 1000; decide), p7, by omega, fun v H8 hv p8 u8 => ?_⟩
      obtain ⟨z, rfl, hz⟩ := mem_strs (zs := [" ", " " ++ y, "m", "0", " + 1"]) hv
      have lz : z.length ≤ 100 := by
        simp only [List.mem_cons, List.mem_nil_iff, or_false] at hz
        rcases hz with rfl | rfl | rfl | rfl | rfl
        · decide
        · rw [app_len]; omega
        · decide
        · decide
        · decide
      refine ⟨x, z, rfl, rfl, (by rw [sizeLine_eq]; omega), k _ _ (by rw [app_len]; omega) (p8.le (by omega)) (U6.trans ((But.new g1).trans u8))⟩
    refine ⟨_, rfl, rfl, _, rfl, ite2 (fun c3 => ?_) (fun c3 => ?_)⟩
    · refine ⟨_, rfl, (by show 4 ≤ sizeLine; decide), fun r1 g1 => ?_⟩
      have p7 := pen_new (o := .lst [.str " ", .str "-", .str "+", .str "0"]) p6 g1
      refine ⟨pn, r1, n + 3, _, rfl, upd_same, pen_ne p6 g1, (by show 0 < 4; decide), (by show 4 ≤ 1000; decide), p7, by omega, fun v H8 hv p8 u8 => ?_⟩
      obtain ⟨z, rfl, hz⟩ := mem_strs (zs := [" ", "-", "+", "0"]) hv
      have lz : z.length ≤ 100 := by
        simp only [List.mem_cons, List.mem_nil_iff, or_false] at hz
        rcases hz with rfl | rfl | rfl | rfl <;> decide
      refine ⟨_, rfl, z, x, rfl, rfl, (by rw [sizeLine_eq]; omega), k _ _ (by rw [app_len]; omega) (p8.le (by omega)) (U6.trans ((But.new g1).trans u8))⟩
    · refine ⟨⟨" ", rfl⟩, _, rfl, _, rfl, d2, rfl, l, _, rfl, SqL.of L6, fun r1 g1 => ?_⟩
      rw [cut_strs]
      have s1 := same_new (o := .lst ((cutW W none (some d2)).map V.str)) g1
      refine ⟨_, rfl, (by show 1 ≤ sizeLine; decide), fun r2 g2 => ?_⟩
      have s2 := same_new (o := .lst [.str y]) g2
      obtain ⟨t1, t2⟩ := tot_cut W none (some d2)
      obtain ⟨t3, t4⟩ := tot_cut W (some (d2 + 1)) none
      refine ⟨r1, r2, _, _, rfl, rfl, s2 _ _ upd_same, upd_same, (by rw [List.length_map, sizeLine_eq]; show _ + 1 ≤ _; omega), fun r3 g3 => ?_⟩
      have q3 : (cutW W none (some d2)).map V.str ++ [V.str y] = (cutW W none (some d2) ++ [y]).map V.str := by rw [List.map_append]; rfl
      rw [q3]
      have s3 := same_new (o := .lst ((cutW W none (some d2) ++ [y]).map V.str)) g3
      refine ⟨_, rfl, _, rfl, _, _, rfl, rfl, _, rfl, l, _, rfl, SqL.of (s3 _ _ (s2 _ _ (s1 _ _ L6))), fun r4 g4 => ?_⟩
      rw [cut_strs]
      have s4 := same_new (o := .lst ((cutW W (some (d2 + 1)) none).map V.str)) g4
      refine ⟨r3, r4, _, _, rfl, rfl, s4 _ _ upd_same, upd_same, (by rw [List.length_map, List.length_map, List.length_append, sizeLine_eq]; show _ + 1 + _ ≤ _; omega), fun r5 g5 => ?_⟩
      rw [← List.map_append]
      have l1 : ([y] : List Str).length = 1 := rfl
      exact fin _ r5 _ (by rw [tot_app, tot_app, ty1]; omega) (by rw [List.length_append, List.length_append, l1]; omega) ((((s1.trans s2).trans s3).trans s4).trans (same_new g5)) upd_same
end
end My
set_option pp.maxSteps 1500
set_option pp.deepTerms.threshold 8
namespace My
open PySem PySem.Spec PyProof.Rows L2 TL TX
abbrev s_law : Stmt := topS 28
theorem sc_law : FnScope ["_law_script", "_law_pen_here", "_law_turn", "_law_rise_here", "_law_base", "_law_page", "_law_again", "_law_bent_here", "_law_odd"] ["_law_script"] (defScope s_law) := ⟨rfl, rfl, rfl, by decide +kernel, rfl, by decide +kernel, by decide +kernel⟩
def resD : RL → List PyData
  | .word k => [.str "word", .int (k : Nat)]
  | .line a b => [.str "line", .int a, .int b]
theorem res_dp {K : PySem.W.Frag} {H : Hp} (r : RL) : DpAll K H (resV r) (resD r) := by
  cases r with
  | word k => exact .cons (.str _) (.cons (.int _) .nil)
  | line a b => exact .cons (.str _) (.cons (.int _) (.cons (.int _) .nil))
theorem readM_small {s : Int} {rest : List (List Nat)} {k : Nat} (h : readM s rest = .word k) : k ≤ 3 := by
  unfold readM at h
  split at h
  · cases h
  · split at h
    · split at h
      · cases h; decide
      · split at h
        · cases h; decide
        · split at h
          · cases h; decide
          · split at h
            · cases h
            · cases h; decide
    · cases h; decide
theorem readV_small {v : V} {k : Nat} (h : readV v = .word k) : k ≤ 3 := by
  unfold readV readL at h
  split at h
  · cases h; decide
  · split at h
    · split at h
      · cases h; decide
      · split at h
        · cases h
        · cases h; decide
    · exact readM_small h
theorem res_dep (r : RL) : PyData.depthAll (resD r) = 0 := by cases r <;> rfl
/-- such a tuple shown -/
theorem res_show {K : PySem.W.Frag} {H : Hp} {t : Addr} {r : RL} (h : H t = some (.tup (resV r))) (ok : r.ok) (sm : ∀ k, r = .word k → k ≤ 3) : Dr K H (.ref t) (.tuple (resD r)) ∧ (PyData.tuple (resD r)).showable = true ∧ (PyData.tuple (resD r)).depth ≤ 60 ∧ (PyData.tuple (resD r)).shown.length ≤ sizeLine := by
  refine ⟨.inl (.tup (SqT.of h) (res_dp r)), ?_, ?_, ?_⟩
  · cases r with
    | word k =>
      show (true && (decide (((k : Nat) : Int).natAbs.log2 < 1920) && true)) = true
      rw [decide_eq_true (Nat.lt_of_lt_of_le (PySem.Flt.log2_lt_of (k := 10) (by decide) (by have := sm k rfl; show _ < 1024; omega)) (by decide))]
      rfl
    | line a b =>
      show (true && (decide (a.natAbs.log2 < 1920) && (decide (b.natAbs.log2 < 1920) && true))) = true
      rw [decide_eq_true (Num.log ok.1), decide_eq_true (Num.log ok.2)]
      rfl
  · show PyData.depthAll (resD r) + 1 ≤ 60
    rw [res_dep]
    decide
  · have h1 := tupleText_len_le (PyData.shownAll (resD r))
    show (tupleText (PyData.shownAll (resD r))).length ≤ sizeLine
    rw [sizeLine_eq]
    cases r with
    | word k =>
      have s3 := sm k rfl
      have e : ((PyData.shownAll (resD (.word k))).map (·.length)).sum = (PyData.str "word").shown.length + ((Str.ofString (toString ((k : Nat) : Int))).length + 0) := rfl
      have e2 : (PyData.shownAll (resD (.word k))).length = 2 := rfl
      have l1 : (PyData.str "word").shown.length ≤ 10 := by decide +kernel
      have l2 := intT_len (i := ((k : Nat) : Int)) (by unfold Num; exact Nat.lt_of_le_of_lt (by omega : _ ≤ 3) (by decide))
      omega
    | line a b =>
      have e : ((PyData.shownAll (resD (.line a b))).map (·.length)).sum = (PyData.str "line").shown.length + ((Str.ofString (toString a)).length + ((Str.ofString (toString b)).length + 0)) := rfl
      have e2 : (PyData.shownAll (resD (.line a b))).length = 3 := rfl
      have l1 : (PyData.str "line").shown.length ≤ 10 := by decide +kernel
      have l2 := intT_len ok.1
      have l3 := intT_len ok.2
      omega
theorem res_plain (r : RL) : (PyData.tuple (resD r)).plain = true := by
  cases r with
  | word k => rfl
  | line a b => rfl
theorem res_self (r : RL) : PyData.eqv (.tuple (resD r)) (.tuple (resD r)) = true := SeqAt.eqv_refl_plain _ (res_plain r)
theorem readV_odd {v : V} (h : ∀ x, v ≠ .str x) : readV v = .word 0 := by
  unfold readV
  rw [words_no h]
  decide +kernel
def spLaw (K : PySem.W.Frag) (TS : List (Addr × Str)) : Sp := fun vs H Q _ => ∃ (a : Addr) (ns : List Int), vs = [.ref a] ∧ SqL K H a (ns.map V.int) ∧ LamX.Tabs TS H ∧ ∀ (H' : Hp), Q (.bl true) H'
theorem ite_same {a b : Str} (e : a = b) {A B : Prop} (h : B) : if (!decide (V.str a = V.str b)) = true then A else B := by
  rw [e, decide_eq_true rfl]
  exact iteF h
section
variable {P : Program} {w : World} {K : PySem.W.Frag} {mg : Str → Option Value} {base : Heap} {CLine CBadLine fBadLine CT fT CE : Addr} {tM tD : Tok}
theorem ok_law {f : Addr} {fd : FuncData} (F : Fun K "law" "law" s_law f fd) (T : STx P K mg CLine CBadLine fBadLine CT fT tM tD) (ne0 : PySem.W.findIn K (.ref CLine) "__ne__" = some (some (.builtin "object.__ne__"))) (sf : PySem.W.notFirst K CLine (.ref CLine) = true)
    (D_pen : DefAt P w K mg base CX0 1 "_law_pen" ["_law_script"] (spPen K)) (D_pick : DefAt P w K mg base CX0 2 "_law_pick" ["_law_pen_here", "_law_some"] spPick)
    (D_integer : DefAt P w K mg base CX0 3 "_law_integer" ["_law_pen_here"] spInteger) (D_ltext : DefAt P w K mg base CX0 1 "_law_text" ["_law_rise_here", "_law_base"] spLtext) (D_bent : DefAt P w K mg base CX0 3 "_law_bent" ["_law_pen_here", "_law_page"] spBent)
    (D_heard : DefAt P w K mg base CX0 6 "_law_heard" ["_law_page"] (spHeard CLine)) (D_due : DefAt P w K mg base CX0 4 "_law_due" ["_law_page"] spDue)
    (M_Line : MakeAt P w K mg base (L2.CX P w) 3 "Line" CLine ["self", "slope", "more"] (spInit CLine CBadLine) []) (M_Line1 : MakeAt P w K mg base (L2.CX P w) 3 "Line" CLine ["self", "slope", "more"] (spInit CLine CBadLine) [.int 0])
    (KK_read : ClsK P w K mg base (L2.CX P w) 5 CLine "read" ["cls", "text"] ["text"] (spRead CLine CT) gApp) (CE_eq : CmpAt P w K mg base CX0 2 CLine "__eq__" ["self", "other"] (spEq CLine)) (ST_str : CmpAt P w K mg base CX0 2 CLine "__str__" ["self"] (spStr CLine)) : FnG P w K mg base CX0 9 f fd ["_law_script"] (spLaw K []) := by
  refine okG F sc_law (fun vs H Q E h => ?_) (fun cdv A outer s H vs Q E hf hgd hr h => ?_)
  · obtain ⟨a, ns, rfl, _⟩ := h
    rfl
  · obtain ⟨sc, ns, rfl, hs, _, k⟩ := h
    refine ⟨_, (pss_cons (ps_set (i := 1) sc_law.nd rfl (Or.inl rfl) (My.pe_d D_pen (hr.mono (by decide)) (by rfl) pass0 (pa_cons (pv 0) pa_nil)))
      (pss_cons (ps_for PassesOwn.never rfl (pi_range1 rfl T.z_range (pa_cons pe_int pa_nil)) (pg_name (i := 2) sc_law.nd rfl (Or.inl rfl)) (pss_cons (ps_par (i := 3) (j := 4) (by rfl) sc_law.nd rfl rfl (by decide) rfl rfl (pa_cons (My.pe_d D_integer (hr.mono (by decide)) (by rfl) pass0 (pa_cons (pv 1) pa_nil)) (pa_cons (My.pe_d D_integer (hr.mono (by decide)) (by rfl) pass0 (pa_cons (pv 1) pa_nil)) pa_nil)) (by rfl))
      (pss_cons (ps_set (i := 5) sc_law.nd rfl (Or.inl rfl) (My.pe_d D_ltext (hr.mono (by decide)) (by rfl) pass0 (pa_cons (pv 3) (pa_cons (pv 4) pa_nil))))
      (pss_cons (ps_if (PW.pt (pw_or (pt_cmpR op_ne (pe_callTy (My.call_strO ST_str (hr.mono (by decide)) pass0) (by rfl) T.z_str boot_str (pa_cons (My.pe_mk M_Line (hr.mono (by decide)) (by rfl) passL (pa_cons (pv 3) (pa_cons (pv 4) pa_nil))) pa_nil)) (pv 5) (nomark _)) (pw_or1 (pt_cmpR op_ne (pe_callB (My.call_repr hgd hr) (by rfl) T.z_repr boot_repr (pa_cons (My.pe_d D_heard (hr.mono (by decide)) (by rfl) pass0 (pa_cons (pv 5) pa_nil)) pa_nil)) (pe_callB (My.call_repr hgd hr) (by rfl) T.z_repr boot_repr (pa_cons (pe_tup (pa_cons pe_str (pa_cons (pv 3) (pa_cons (pv 4) pa_nil)))) pa_nil)) (nomark _))))) (pss_one (ps_ret pe_bl)) pss_nil)
      (pss_cons (ps_if (PW.pt (pw_or (pt_cmpR (My.op_neO CE_eq T.hm ne0 (hr.mono (by decide)) pass0) (My.pe_cmK KK_read (hr.mono (by decide)) passL (pe_glob (v := .ref CLine) (by rfl) T.gLine rfl) (pk_cons (pv 5) pk_nil)) (My.pe_mk M_Line (hr.mono (by decide)) (by rfl) passL (pa_cons (pv 3) (pa_cons (pv 4) pa_nil))) (nomark _)) (pw_or1 (pt_cmpR (My.op_neP hr.units) (My.pe_d D_due (hr.mono (by decide)) (by rfl) pass0 (pa_cons (pv 5) pa_nil)) (pe_tup (pa_cons pe_str (pa_cons (pv 3) (pa_cons (pv 4) pa_nil)))) (nomark _))))) (pss_one (ps_ret pe_bl)) pss_nil)
      (pss_cons (ps_for PassesOwn.never rfl (pi_range1 rfl T.z_range (pa_cons pe_int pa_nil)) (pg_name (i := 6) sc_law.nd rfl (Or.inl rfl)) (pss_cons (ps_set (i := 7) sc_law.nd rfl (Or.inl rfl) (My.pe_d D_bent (hr.mono (by decide)) (by rfl) pass0 (pa_cons (pv 1) (pa_cons (pv 5) pa_nil))))
      (pss_one (ps_if (pt_cmpR op_ne (pe_callB (My.call_repr hgd hr) (by rfl) T.z_repr boot_repr (pa_cons (My.pe_d D_heard (hr.mono (by decide)) (by rfl) pass0 (pa_cons (pv 7) pa_nil)) pa_nil)) (pe_callB (My.call_repr hgd hr) (by rfl) T.z_repr boot_repr (pa_cons (My.pe_d D_due (hr.mono (by decide)) (by rfl) pass0 (pa_cons (pv 7) pa_nil)) pa_nil)) (nomark _)) (pss_one (ps_ret pe_bl)) pss_nil))))
      (pss_cons (ps_set (i := 8) sc_law.nd rfl (Or.inl rfl) (My.pe_d D_pick (hr.mono (by decide)) (by rfl) pass0 (pa_cons (pv 1) (pa_cons (pe_lst (pa_cons pe_non (pa_cons pe_int (pa_cons pe_bl (pa_cons (pe_lst (pa_cons pe_str pa_nil)) (pa_cons (pe_tup pa_nil) (pa_cons pe_dnewK (pa_cons (My.pe_mk M_Line1 (hr.mono (by decide)) (by rfl) passL (pa_cons pe_int pa_nil)) (pa_cons (pe_op op_pow pe_int pe_int) pa_nil))))))))) pa_nil))))
      (pss_one (ps_if (pt_cmpR (My.op_neP hr.units) (My.pe_d D_heard (hr.mono (by decide)) (by rfl) pass0 (pa_cons (pv 8) pa_nil)) (pe_tup (pa_cons pe_str (pa_cons pe_int pa_nil))) (nomark _)) (pss_one (ps_ret pe_bl)) pss_nil)))))))))
      (pss_one (ps_ret (pe_and (pe_cmpR (My.op_eqP hr.units) (My.pe_d D_heard (hr.mono (by decide)) (by rfl) pass0 (pa_cons pe_str pa_nil)) (pe_tup (pa_cons pe_str (pa_cons pe_int pa_nil))) (nomark _)) (pe_one (pe_cmpR (My.op_eqP hr.units) (My.pe_d D_heard (hr.mono (by decide)) (by rfl) pass0 (pa_cons pe_str pa_nil)) (pe_tup (pa_cons pe_str (pa_cons pe_int pa_nil))) (nomark _)))))))), ?_⟩
    refine ⟨_, rfl, sc, ns, rfl, hs, fun pn H1 h1 p1 s1 => ?_⟩
    refine ⟨6, rfl, by decide, by decide, for_range (fun i σ H' => ∃ v2 v3 v4 v5 v6 v7 v8, σ = [some (.ref sc), some (.ref pn), v2, v3, v4, v5, v6, v7, v8] ∧ PenAt H' pn (100 * i)) ⟨none, none, none, none, none, none, none, rfl, p1⟩ ?_ ?_⟩
    · rintro i σ H' hi ⟨v2, v3, v4, v5, v6, v7, v8, rfl, hp⟩
      have hi6 : i < 6 := hi
      refine ⟨_, rfl, pn, 100 * i, rfl, hp, by omega, fun a H2 ha p2 u2 => ?_⟩
      refine ⟨_, rfl, pn, _, rfl, p2, by omega, fun b H3 hb p3 u3 => ⟨_, _, rfl, ?_⟩⟩
      refine ⟨_, rfl, _, rfl, a, b, rfl, ha, hb, fun x H4 hx s4 => ?_⟩
      have p4 := pen_same p3 s4
      clear u2 u3 p2 p3 s4
      have lx : x.length ≤ 200 := by rw [len_tl, hx]; exact lineWs_len ha hb
      have er := line_words hx ha hb
      have ex : lineT a b = x := ext_tl (by rw [tl_line, hx])
      refine ⟨_, rfl, _, rfl, fun q dx hq hd ne => init_at hq hd ne fun H5 l5 s5 => ?_⟩
      obtain ⟨dq, eq⟩ := id l5
      refine ⟨q, dq, _, rfl, eq, q, a, b, rfl, l5, ha.log, hb.log, fun H6 s6 => ⟨_, rfl, _, rfl, rfl, _, rfl, ?_⟩⟩
      rw [ex]
      have p6 := pen_same (pen_same p4 s5) s6
      clear s5 s6 l5 eq
      refine ite_same rfl ?_
      have ok0 : (readV (.str x)).ok := readL_ok _
      have sm0 : ∀ k, readV (.str x) = .word k → k ≤ 3 := fun k => readV_small
      refine ⟨_, rfl, .str x, rfl, .inl ⟨_, .str x⟩, Nat.le_trans lx (by decide), fun t7 H7 e7 s7 => ?_⟩
      obtain ⟨i1, i2, i3, i4⟩ := res_show (K := K) e7 ok0 sm0
      refine ⟨_, _, rfl, i1, i2, i3, i4, ?_⟩
      clear i1 i2 i3 i4
      refine ⟨_, rfl, _, rfl, (by show 3 ≤ sizeLine; decide), fun t8 h8 => ?_⟩
      have e8 : (upd H7 t8 (.tup [.str "line", .int a, .int b])) t8 = some (.tup (resV (readV (.str x)))) := by rw [er]; exact upd_same
      obtain ⟨i1, i2, i3, i4⟩ := res_show (K := K) e8 ok0 sm0
      refine ⟨_, _, rfl, i1, i2, i3, i4, rfl, _, rfl, ite_same rfl ?_⟩
      clear i1 i2 i3 i4
      have p8 := pen_same (pen_same p6 s7) (same_new (o := .tup [.str "line", .int a, .int b]) h8)
      generalize upd H7 t8 (.tup [.str "line", .int a, .int b]) = H8 at p8
      clear e7 e8 s7
      -- read by keyword
      refine ⟨rfl, _, rfl, rfl, .str x, rfl, .inl ⟨_, .str x⟩, Nat.le_trans lx (by decide), fun a' b' er' q9 H9 l9 s9 => ?_, fun n en => ?_⟩
      case refine_2 =>
        rw [er] at en
        cases en
      rw [er] at er'
      cases er'
      refine ⟨_, rfl, _, rfl, fun q2 dx hq hd ne => init_at hq hd ne fun H10 l10 s10 => ?_⟩
      have l9 := l9.same s10
      obtain ⟨d9, e9⟩ := id l9
      obtain ⟨d10, e10⟩ := id l10
      refine ⟨q9, d9, _, _, rfl, e9, .base (.ins e10 T.cl T.ha T.hn T.ht T.hm), sf, q9, q2, a, b, a, b, rfl, l9, l10, fun H11 s11 => ⟨_, rfl, ?_⟩⟩
      have p11 := pen_same (pen_same (pen_same p8 s9) s10) s11
      refine ⟨_, rfl, ?_⟩
      rw [decide_eq_true (⟨rfl, rfl⟩ : a = a ∧ b = b)]
      refine iteF ?_
      refine ⟨_, rfl, x, rfl, Nat.le_trans lx (by decide), fun t12 H12 e12 s12 => ?_⟩
      refine ⟨_, rfl, _, rfl, (by show 3 ≤ sizeLine; decide), fun t13 h13 => ?_⟩
      have s13 := same_new (o := .tup [.str "line", .int a, .int b]) h13
      have e13 : (upd H12 t13 (.tup [.str "line", .int a, .int b])) t13 = some (.tup (resV (readV (.str x)))) := by rw [er]; exact upd_same
      refine ⟨_, _, .tup (SqT.of (s13 _ _ e12)) (res_dp _), .tup (SqT.of e13) (res_dp _), res_plain _, res_plain _, (by rw [Nat.min_self]; show PyData.depthAll (resD _) + 1 ≤ 60; rw [res_dep]; decide), _, rfl, ?_⟩
      rw [res_self]
      refine iteF ?_
      have p13 := pen_same (pen_same p11 s12) s13
      generalize upd H12 t13 (.tup [.str "line", .int a, .int b]) = H13 at p13
      clear e12 e13 s12 s13
      refine ⟨5, rfl, by decide, by decide, for_range (fun j σ H' => ∃ v6 v7, σ = [some (.ref sc), some (.ref pn), some (.int (0 + ((i : Nat) : Int))), some (.int a), some (.int b), some (.str x), v6, v7, v8] ∧ PenAt H' pn (100 * i + 10 + 6 * j)) ⟨v6, v7, rfl, p13.le (by omega)⟩ ?_ ?_⟩
      · rintro j σ H' hj ⟨v6, v7, rfl, hp⟩
        have hj5 : j < 5 := hj
        refine ⟨_, rfl, _, rfl, pn, _, x, rfl, hp, by omega, by omega, fun y H14 ly p14 u14 => ?_⟩
        have ok1 : (readV (.str y)).ok := readL_ok _
        have sm1 : ∀ k, readV (.str y) = .word k → k ≤ 3 := fun k => readV_small
        refine ⟨_, rfl, .str y, rfl, .inl ⟨_, .str y⟩, Nat.le_trans ly (by decide), fun t15 H15 e15 s15 => ?_⟩
        obtain ⟨i1, i2, i3, i4⟩ := res_show (K := K) e15 ok1 sm1
        refine ⟨_, _, rfl, i1, i2, i3, i4, ?_⟩
        clear i1 i2 i3 i4
        refine ⟨_, rfl, y, rfl, Nat.le_trans ly (by decide), fun t16 H16 e16 s16 => ?_⟩
        obtain ⟨i1, i2, i3, i4⟩ := res_show (K := K) e16 ok1 sm1
        refine ⟨_, _, rfl, i1, i2, i3, i4, rfl, _, rfl, ite_same rfl ?_⟩
        exact ⟨_, _, rfl, (pen_same (pen_same p14 s15) s16).le (by omega)⟩
      rintro σ H' ⟨v6', v7', rfl, hp⟩
      have e5 : (100 * i + 10 + 6 * (5 : Int).toNat) = 100 * i + 40 := by
        have : (5 : Int).toNat = 5 := rfl
        omega
      have hp : PenAt H' pn (100 * i + 40) := by rw [← e5]; exact hp
      -- an odd one
      refine ⟨_, rfl, (by show 1 ≤ sizeLine; decide), fun l1 g1 => ⟨(by show 0 ≤ sizeLine; decide), fun t1 g2 => fun d1 g3 => ?_⟩⟩
      refine fun q dx hq hd ne => init_at hq hd ne fun H4 l4 s4 => ⟨_, _, rfl, rfl, ⟨by decide, by decide, by decide⟩, (by show 8 ≤ sizeLine; decide), fun l5 g5 => ?_⟩
      have S4 := ((((same_new (o := .lst [.str "m"]) g1).trans (same_new (o := .tup []) g2)).trans (same_new (o := .dK []) g3)).trans s4).trans (same_new (o := .lst [.non, .int 7, .bl true, .ref l1, .ref t1, .ref d1, .ref q, .int (10 ^ Int.toNat 59)]) g5)
      have p4 := pen_same hp S4
      have m1 := (((same_new (o := .tup []) g2).trans (same_new (o := .dK []) g3)).trans s4).trans (same_new (o := .lst [.non, .int 7, .bl true, .ref l1, .ref t1, .ref d1, .ref q, .int (10 ^ Int.toNat 59)]) g5) _ _ (upd_same (H := H') (a := l1) (o := .lst [.str "m"]))
      have m2 := ((same_new (o := .dK []) g3).trans s4).trans (same_new (o := .lst [.non, .int 7, .bl true, .ref l1, .ref t1, .ref d1, .ref q, .int (10 ^ Int.toNat 59)]) g5) _ _ (upd_same (H := upd H' l1 (.lst [.str "m"])) (a := t1) (o := .tup []))
      have m3 := s4.trans (same_new (o := .lst [.non, .int 7, .bl true, .ref l1, .ref t1, .ref d1, .ref q, .int (10 ^ Int.toNat 59)]) g5) _ _ (upd_same (H := upd (upd H' l1 (.lst [.str "m"])) t1 (.tup [])) (a := d1) (o := .dK []))
      obtain ⟨dq', eq'⟩ := id l4
      have m4 := same_new (o := .lst [.non, .int 7, .bl true, .ref l1, .ref t1, .ref d1, .ref q, .int (10 ^ Int.toNat 59)]) g5 _ _ eq'
      have M5 : (upd H4 l5 (.lst [.non, .int 7, .bl true, .ref l1, .ref t1, .ref d1, .ref q, .int (10 ^ Int.toNat 59)])) l5 = some (.lst [.non, .int 7, .bl true, .ref l1, .ref t1, .ref d1, .ref q, .int (10 ^ Int.toNat 59)]) := upd_same
      have n5 : l5 ≠ pn := by
        have h4 : PenAt H4 pn (100 * i + 40) := pen_same hp ((((same_new (o := .lst [.str "m"]) g1).trans (same_new (o := .tup []) g2)).trans (same_new (o := .dK []) g3)).trans s4)
        exact pen_ne h4 g5
      generalize upd H4 l5 (.lst [.non, .int 7, .bl true, .ref l1, .ref t1, .ref d1, .ref q, .int (10 ^ Int.toNat 59)]) = H5 at p4 m1 m2 m3 m4 M5
      refine ⟨pn, l5, _, _, rfl, M5, n5, (by show 0 < 8; decide), (by show 8 ≤ 1000; decide), p4, by omega, fun v H6 hv p6 u6 => ?_⟩
      have npn : ∀ (p : Addr) (o : HO), H5 p = some o → (∀ xs, o ≠ .lst xs) → H6 p = some o := fun p o e no => by
        obtain ⟨cl, ns', a', r', g, _⟩ := p4
        exact u6 p o e (ne_of e g (no _))
      have nl1 : H6 l1 = some (.lst [.str "m"]) := by
        obtain ⟨cl, ns', a', r', g, _⟩ := p4
        refine u6 _ _ m1 fun z => ?_
        rw [z, g] at m1
        injection m1 with m1
        injection m1 with m1
        cases m1
      have odd : TyL CLine H6 v ∧ (∀ x, v ≠ .str x) ∧ shortV v := by
        simp only [List.mem_cons, List.mem_nil_iff, or_false] at hv
        rcases hv with rfl | rfl | rfl | rfl | rfl | rfl | rfl | rfl
        · exact ⟨.inl ⟨_, .non⟩, (fun x z => nomatch z), trivial⟩
        · exact ⟨.inl ⟨_, .int _⟩, (fun x z => nomatch z), trivial⟩
        · exact ⟨.inl ⟨_, .bl _⟩, (fun x z => nomatch z), trivial⟩
        · exact ⟨.inl ⟨_, .lst nl1⟩, (fun x z => nomatch z), trivial⟩
        · exact ⟨.inl ⟨_, .tup (npn _ _ m2 (fun xs z => nomatch z))⟩, (fun x z => nomatch z), trivial⟩
        · exact ⟨.inl ⟨_, .dK (npn _ _ m3 (fun xs z => nomatch z))⟩, (fun x z => nomatch z), trivial⟩
        · exact ⟨.inr ⟨_, _, _, rfl, npn _ _ m4 (fun xs z => nomatch z)⟩, (fun x z => nomatch z), trivial⟩
        · exact ⟨.inl ⟨_, .int _⟩, (fun x z => nomatch z), trivial⟩
      refine ⟨_, rfl, v, rfl, odd.1, odd.2.2, fun t7 H7 e7 s7 => ⟨(by show 2 ≤ sizeLine; decide), fun t8 g8 => ?_⟩⟩
      rw [readV_odd odd.2.1] at e7
      have s8 := same_new (o := .tup [.str "word", .int 0]) g8
      refine ⟨.tuple (resD (.word 0)), .tuple (resD (.word 0)), .tup (SqT.of (s8 _ _ e7)) (res_dp _), .tup (SqT.of (by exact upd_same)) (res_dp (.word 0)), res_plain _, res_plain _, (by rw [Nat.min_self]; show PyData.depthAll (resD _) + 1 ≤ 60; rw [res_dep]; decide), _, rfl, ?_⟩
      rw [res_self]
      exact iteF ⟨_, _, _, _, _, _, _, rfl, (pen_same (pen_same p6 s7) s8).le (by omega)⟩
    · rintro σ H' ⟨v2, v3, v4, v5, v6, v7, v8, rfl, hp⟩
      have fin : ∀ (x : Str) (n : Nat), readV (.str x) = .word n → ∀ (t7 : Addr) (H7 : Hp), H7 t7 = some (.tup (resV (readV (.str x)))) → ∀ t8, H7 t8 = none → Dp K (upd H7 t8 (.tup [.str "word", .int (n : Nat)])) (.ref t7) (.tuple (resD (.word n))) ∧ Dp K (upd H7 t8 (.tup [.str "word", .int (n : Nat)])) (.ref t8) (.tuple (resD (.word n))) := fun x n er t7 H7 e7 t8 g8 => by
        rw [er] at e7
        exact ⟨.tup (SqT.of (same_new g8 _ _ e7)) (res_dp _), .tup (SqT.of (by exact upd_same)) (res_dp (.word n))⟩
      have dep : ∀ n, min (PyData.tuple (resD (.word n))).depth (PyData.tuple (resD (.word n))).depth ≤ 60 := fun n => by
        rw [Nat.min_self]
        show PyData.depthAll (resD _) + 1 ≤ 60
        rw [res_dep]
        decide
      refine ⟨.str "", rfl, .inl ⟨_, .str _⟩, (by show ("" : Str).length ≤ 5000; decide), fun t7 H7 e7 s7 => ⟨(by show 2 ≤ sizeLine; decide), fun t8 g8 => ?_⟩⟩
      obtain ⟨i1, i2⟩ := fin "" 0 (by decide +kernel) t7 H7 e7 t8 g8
      refine ⟨_, _, i1, i2, res_plain _, res_plain _, dep 0, ?_⟩
      rw [res_self]
      refine ⟨true, rfl, iteT ?_⟩
      refine ⟨.str "m + 0", rfl, .inl ⟨_, .str _⟩, (by show ("m + 0" : Str).length ≤ 5000; decide), fun t9 H9 e9 s9 => ⟨(by show 2 ≤ sizeLine; decide), fun t10 g10 => ?_⟩⟩
      obtain ⟨i1, i2⟩ := fin "m + 0" 2 (by decide +kernel) t9 H9 e9 t10 g10
      refine ⟨_, _, i1, i2, res_plain _, res_plain _, dep 2, ?_⟩
      rw [res_self]
      exact k _
end
end My
namespace My
open PySem PySem.Spec PyProof.Rows L2
theorem all_mk {l : PySem.W.OpenLaw} {w : World} {K : PySem.W.Frag} {h : Heap} {mg : Str → Option Value} {fa CE CLine CBadLine fBadLine CT fT : Addr} {tM tD : Tok}  (hfa : mg "law" = some (.ref fa))
    (_gL : mg "Line" = some (.ref CLine))
    (_gB : mg "BadLine" = some (.ref CBadLine))
    (_gT : mg "BadText" = some (.ref CT))
    (_gE : mg "ClipError" = some (.ref CE))
    (_gM : mg "MOST_DIGITS" = some (.int 60 tM))
    (_gD : mg "DIGITS" = some (.str "0123456789" tD))
    (_iB : PySem.W.findIn K (.ref CBadLine) "__init__" = some (some (.ref fBadLine)))
    (_iT : PySem.W.findIn K (.ref CT) "__init__" = some (some (.ref fT)))
    (T : STx l.prog K mg CLine CBadLine fBadLine CT fT tM tD)
    (TH : HTx l.prog K mg CE CT)
    (mk : PySem.W.makesIn K CLine = true)
    (kp : PySem.W.keepIn K (.ref CLine) = true)
    (sf : PySem.W.notFirst K CLine (.ref CLine) = true)
    (ne0 : PySem.W.findIn K (.ref CLine) "__ne__" = some (some (.builtin "object.__ne__")))
    (A_init : HasD K CLine "__init__" "Line.__init__" s_init [.int 0] [])
    (A_read : HasCM K CLine "read" "Line.read" s_read)
    (A_rank : HasM K CLine "rank" "Line.rank" s_rank)
    (A_eq : HasM K CLine "__eq__" "Line.__eq__" s_eq)
    (A_str : HasM K CLine "__str__" "Line.__str__" s_str)
    (A_isint : Has K mg "is_integer" s_isint)
    (A_digin : Has K mg "digits_in" s_digin)
    (A_intin : Has K mg "integer_in" s_intin)
    (A_slopein : Has K mg "slope_in" s_slopein)
    (A_morein : Has K mg "more_in" s_morein)
    (A_textof : Has K mg "text_of" s_textof)
    (A_pen : Has K mg "_law_pen" s_pen)
    (A_draw : Has K mg "_law_draw" s_draw)
    (A_pick : Has K mg "_law_pick" s_pick)
    (A_integer : Has K mg "_law_integer" s_integer)
    (A_ltext : Has K mg "_law_text" s_ltext)
    (A_lnum : Has K mg "_law_number" s_lnum)
    (A_lsigned : Has K mg "_law_signed" s_lsigned)
    (A_lrise : Has K mg "_law_rise" s_lrise)
    (A_due : Has K mg "_law_due" s_due)
    (A_heard : Has K mg "_law_heard" s_heard)
    (A_bent : Has K mg "_law_bent" s_bent)
    (A_law : Has K mg "law" s_law)
    : LawG l w K 9 63 "_law_script" mg fa h := by
  obtain ⟨fl, fdl, hl, Fl⟩ := A_law.ex
  have e := hfa.symm.trans hl
  cases e
  refine ⟨fdl, [], spLaw K [], (fun p hp => nomatch hp), fun s u => ?_, fun H a ns hn hb ht hs => ?_, fun base hK hN hT => ?_⟩
  · obtain ⟨oc, od, kV, doc, pm, an, cdv, ct, osl, rfl, _⟩ := Fl.ex
    exact .of_eq rfl
  · exact ⟨a, ns, rfl, hs, (fun p hp => nomatch hp), fun _ => rfl⟩
  · have D_isint : DefAt l.prog w K mg base CX0 1 "is_integer" ["thing"] (spIsint CLine) := def_at A_isint (fun f fd F => ok_isint F T.toLTx) fun _ _ _ _ _ _ us hl => match us, hl with | [_], _ => rfl
    have D_pen : DefAt l.prog w K mg base CX0 1 "_law_pen" ["_law_script"] (spPen K) := def_at A_pen (fun f fd F => ok_pen F T.toBI) fun _ _ _ _ _ _ us hl => match us, hl with | [_], _ => rfl
    have D_draw : DefAt l.prog w K mg base CX0 1 "_law_draw" ["_law_pen_here", "_law_many"] spDraw := def_at A_draw (fun f fd F => ok_draw F T.toBI) fun _ _ _ _ _ _ us hl => match us, hl with | [_, _], _ => rfl
    have D_pick : DefAt l.prog w K mg base CX0 2 "_law_pick" ["_law_pen_here", "_law_some"] spPick := def_at A_pick (fun f fd F => ok_pick F T.toBI D_draw) fun _ _ _ _ _ _ us hl => match us, hl with | [_, _], _ => rfl
    have M_Line : MakeAt l.prog w K mg base (L2.CX l.prog w) 3 "Line" CLine ["self", "slope", "more"] (spInit CLine CBadLine) [] := make_all A_init T.gLine mk kp (fun f fd F => ok_init F T.toLTx D_isint) (by simp) fun _ _ _ _ _ _ _ us its hl hi => match us, hl, its, hi with | [_, _, _], _, [_], _ => ⟨_, rfl, rfl⟩
    have M_Line1 : MakeAt l.prog w K mg base (L2.CX l.prog w) 3 "Line" CLine ["self", "slope", "more"] (spInit CLine CBadLine) [.int 0] := make_dfl (n := 2) A_init T.gLine mk kp (fun f fd F => ok_init F T.toLTx D_isint) (by simp) rfl fun _ _ _ _ _ _ _ us its hl hi => match us, hl, its, hi with | [_, _], _, [_], _ => ⟨_, rfl, rfl⟩
    have D_digin : DefAt l.prog w K mg base CX0 1 "digits_in" ["word"] (spWord TX.dg) := def_at A_digin (fun f fd F => ok_digin F T) fun _ _ _ _ _ _ us hl => match us, hl with | [_], _ => rfl
    have D_intin : DefAt l.prog w K mg base CX0 2 "integer_in" ["word"] (spWord TX.sg) := def_at A_intin (fun f fd F => ok_intin F T D_digin) fun _ _ _ _ _ _ us hl => match us, hl with | [_], _ => rfl
    have D_slopein : DefAt l.prog w K mg base CX0 3 "slope_in" ["word"] (spWord TX.rs) := def_at A_slopein (fun f fd F => ok_slopein F T D_intin) fun _ _ _ _ _ _ us hl => match us, hl with | [_], _ => rfl
    have D_morein : DefAt l.prog w K mg base (L2.CX l.prog w) 2 "more_in" ["words"] (spMore CT) := def_at A_morein (fun f fd F => ok_morein F T D_digin) fun _ _ _ _ _ _ us hl => match us, hl with | [_], _ => rfl
    have K_read : ClsAt l.prog w K mg base (L2.CX l.prog w) 5 CLine "read" (spRead CLine CT) := cls_at A_read (fun f fd F => ok_read F T D_slopein D_intin D_morein M_Line) fun _ _ _ _ _ _ us hl => match us, hl with | [_, _], _ => rfl
    have KK_read : ClsK l.prog w K mg base (L2.CX l.prog w) 5 CLine "read" ["cls", "text"] ["text"] (spRead CLine CT) gApp := clsK_at (g := fun us ws => us ++ ws) A_read (fun f fd F => ok_read F T D_slopein D_intin D_morein M_Line) (fun _ _ _ _ _ _ us ws h1 h2 => match us, h1, ws, h2 with | [_], _, [_], _ => rfl) app_rel
    have D_textof : DefAt l.prog w K mg base CX0 1 "text_of" ["slope", "more"] spText := def_at A_textof (fun f fd F => ok_textof F T.toLTx) fun _ _ _ _ _ _ us hl => match us, hl with | [_, _], _ => rfl
    have X_rank : MethAt l.prog w K mg base CX0 1 CLine "rank" ["self"] (spRank CLine) := meth_at A_rank (fun f fd F => ok_rank F T.toLTx) fun _ _ _ _ _ _ us hl => match us, hl with | [_], _ => rfl
    have CE_eq : CmpAt l.prog w K mg base CX0 2 CLine "__eq__" ["self", "other"] (spEq CLine) := cmp_at A_eq (fun f fd F => ok_eq F T.toLTx X_rank) fun _ _ _ _ _ _ us hl => match us, hl with | [_, _], _ => rfl
    have ST_str : CmpAt l.prog w K mg base CX0 2 CLine "__str__" ["self"] (spStr CLine) := cmp_at A_str (fun f fd F => ok_str F T.toLTx D_textof) fun _ _ _ _ _ _ us hl => match us, hl with | [_], _ => rfl
    have D_integer : DefAt l.prog w K mg base CX0 3 "_law_integer" ["_law_pen_here"] spInteger := def_at A_integer (fun f fd F => ok_integer F T.toBI D_draw D_pick) fun _ _ _ _ _ _ us hl => match us, hl with | [_], _ => rfl
    have D_ltext : DefAt l.prog w K mg base CX0 1 "_law_text" ["_law_rise_here", "_law_base"] spLtext := def_at A_ltext (fun f fd F => ok_ltext F T) fun _ _ _ _ _ _ us hl => match us, hl with | [_, _], _ => rfl
    have D_lnum : DefAt l.prog w K mg base CX0 1 "_law_number" ["_law_word"] (spWord TX.dg) := def_at A_lnum (fun f fd F => ok_lnum F T) fun _ _ _ _ _ _ us hl => match us, hl with | [_], _ => rfl
    have D_lsigned : DefAt l.prog w K mg base CX0 2 "_law_signed" ["_law_word"] (spWord TX.sg) := def_at A_lsigned (fun f fd F => ok_lsigned F T D_lnum) fun _ _ _ _ _ _ us hl => match us, hl with | [_], _ => rfl
    have D_lrise : DefAt l.prog w K mg base CX0 3 "_law_rise" ["_law_word"] (spWord TX.rs) := def_at A_lrise (fun f fd F => ok_lrise F T D_lsigned) fun _ _ _ _ _ _ us hl => match us, hl with | [_], _ => rfl
    have D_due : DefAt l.prog w K mg base CX0 4 "_law_due" ["_law_page"] spDue := def_at A_due (fun f fd F => ok_due F T D_lnum D_lsigned D_lrise) fun _ _ _ _ _ _ us hl => match us, hl with | [_], _ => rfl
    have D_heard : DefAt l.prog w K mg base CX0 6 "_law_heard" ["_law_page"] (spHeard CLine) := def_at A_heard (fun f fd F => ok_heard F T TH K_read) fun _ _ _ _ _ _ us hl => match us, hl with | [_], _ => rfl
    have D_bent : DefAt l.prog w K mg base CX0 3 "_law_bent" ["_law_pen_here", "_law_page"] spBent := def_at A_bent (fun f fd F => ok_bent F T.toBI D_draw D_pick) fun _ _ _ _ _ _ us hl => match us, hl with | [_, _], _ => rfl
    exact ok_law Fl T ne0 sf D_pen D_pick D_integer D_ltext D_bent D_heard D_due M_Line M_Line1 KK_read CE_eq ST_str
end My
open PySem PySem.W PyProof.Rows
set_option maxRecDepth 100000 in
set_option maxHeartbeats 0 in
theorem PySem.Challenge.cw_clipfades_k18_lines_written_and_read_holds : PySem.Challenge.rw_clipfades_k18_lines_written_and_read.Holds := by
  w_on; o_law; k_head; (case hw => w_witness2)
  k_fill
  refine My.walk_G (l := PySem.Challenge.rw_clipfades_k18_lines_written_and_read) (n := 63) (k := 9) (x := "_law_script") rfl (by decide) rfl ⟨rfl, by decide, by decide⟩ (fun w h Y => by first | exact PySem.W.km_in_of Y | exact PySem.W.kIn_of Y) ?F
  case F =>
    intro w mg fa h Y KX G hmg tf
    have bi : My.BI mg := ⟨mg_none_of KX G (by k_is), mg_none_of KX G (by k_is), mg_none_of KX G (by k_is), mg_none_of KX G (by k_is), mg_none_of KX G (by k_is), mg_none_of KX G (by k_is), mg_none_of KX G (by k_is), mg_none_of KX G (by k_is)⟩
    refine' My.all_mk hmg ?gL ?gB ?gT ?gE ?gM ?gD ?iB ?iT ?T ?TH ?mk ?kp ?sf ?ne0 ?A_init ?A_read ?A_rank ?A_eq ?A_str ?A_isint ?A_digin ?A_intin ?A_slopein ?A_morein ?A_textof ?A_pen ?A_draw ?A_pick ?A_integer ?A_ltext ?A_lnum ?A_lsigned ?A_lrise ?A_due ?A_heard ?A_bent ?A_law
    case gL => exact mg_of KX G (by k_is)
    case gB => exact mg_of KX G (by k_is)
    case gT => exact mg_of KX G (by k_is)
    case gE => exact mg_of KX G (by k_is)
    case gM => exact mg_of KX G (by k_is)
    case gD => exact mg_of KX G (by k_is)
    case iB => k_is
    case iT => k_is
    case T => exact ⟨⟨bi, ⟨by k_is, by k_is, by k_is, by k_is⟩, show PySem.W.findIn _ (.ref _) "slope" = some none by k_is, show PySem.W.findIn _ (.ref _) "more" = some none by k_is, mg_of KX G (by k_is), by k_is, by k_is, by k_is, by k_is, by kernel_rfl,
      ⟨mg_of KX G (by k_is), ⟨⟨_, _, _, _, _, _, _, _, _, _, _, _, _, _, _, by k_is, by decide⟩, by k_is, by k_is, by k_is, by k_is⟩, ⟨by k_is, by k_is, by k_is, by k_is⟩, by k_is, My.nm_part, by k_is, by k_is,
      ⟨_, _, _, _, _, _, _, _, _, _, _, _, _, _, _, _, _, _, _, _, _, _, by k_is, by k_is, ⟨_, _, _, by k_is⟩, _, _, _, _, _, _, by k_is, rfl, by decide +kernel, rfl⟩, by ks_is, by k_is, by k_is, mg_none_of KX G (by k_is), by k_is, by decide +kernel⟩, mg_none_of KX G (by k_is), by kernel_rfl⟩,
      ⟨mg_of KX G (by k_is), ⟨⟨_, _, _, _, _, _, _, _, _, _, _, _, _, _, _, by k_is, by decide⟩, by k_is, by k_is, by k_is, by k_is⟩, ⟨by k_is, by k_is, by k_is, by k_is⟩, by k_is, by k_is, My.nm2_line_word, by k_is, by k_is,
      ⟨_, _, _, _, _, _, _, _, _, _, _, _, _, _, _, _, _, _, _, _, _, _, _, _, _, _, _, _, by k_is, by k_is, ⟨_, _, _, by k_is⟩, _, _, _, _, _, _, by k_is, rfl, by decide +kernel, rfl⟩, by ks_is, by k_is, by k_is, mg_none_of KX G (by k_is), by k_is, by decide +kernel⟩, mg_of KX G (by k_is), mg_of KX G (by k_is), mg_none_of KX G (by k_is), by kernel_rfl⟩
    case TH => exact ⟨mg_of KX G (by k_is), by kernel_rfl, ⟨by kernel_rfl, by k_is, by k_is, by k_is, by k_is, by k_is, by k_is, by k_is⟩, by kernel_rfl⟩
    case mk => k_is
    case kp => k_is
    case sf => k_is
    case ne0 => k_is
    case A_init => exact ⟨_, _, by k_is, by k_is, ⟨_, _, _, _, _, _, _, _, _, _, rfl, by k_is, by k_is, .inr ⟨by simp, _, _, [.int 0 _], _, rfl, by k_is, rfl, .cons ⟨_, rfl⟩ .nil⟩, .inl rfl⟩, by k_is⟩
    case A_read => exact ⟨.type "type", _, _, _, ⟨by k_is, by k_is⟩, ⟨by k_is, ⟨_, by k_is⟩, by k_is⟩, L2.fun_mk (by k_is) (by k_is) (by k_is)⟩
    case A_rank => exact ⟨_, _, by k_is, by k_is, L2.fun_mk (by k_is) (by k_is) (by k_is)⟩
    case A_eq => exact ⟨_, _, by k_is, by k_is, L2.fun_mk (by k_is) (by k_is) (by k_is)⟩
    case A_str => exact ⟨_, _, by k_is, by k_is, L2.fun_mk (by k_is) (by k_is) (by k_is)⟩
    case A_isint => exact ⟨_, _, mg_of KX G (by k_is), L2.fun_mk (by k_is) (by k_is) (by k_is)⟩
    case A_digin => exact ⟨_, _, mg_of KX G (by k_is), L2.fun_mk (by k_is) (by k_is) (by k_is)⟩
    case A_intin => exact ⟨_, _, mg_of KX G (by k_is), L2.fun_mk (by k_is) (by k_is) (by k_is)⟩
    case A_slopein => exact ⟨_, _, mg_of KX G (by k_is), L2.fun_mk (by k_is) (by k_is) (by k_is)⟩
    case A_morein => exact ⟨_, _, mg_of KX G (by k_is), L2.fun_mk (by k_is) (by k_is) (by k_is)⟩
    case A_textof => exact ⟨_, _, mg_of KX G (by k_is), L2.fun_mk (by k_is) (by k_is) (by k_is)⟩
    case A_pen => exact ⟨_, _, mg_of KX G (by k_is), L2.fun_mk (by k_is) (by k_is) (by k_is)⟩
    case A_draw => exact ⟨_, _, mg_of KX G (by k_is), L2.fun_mk (by k_is) (by k_is) (by k_is)⟩
    case A_pick => exact ⟨_, _, mg_of KX G (by k_is), L2.fun_mk (by k_is) (by k_is) (by k_is)⟩
    case A_integer => exact ⟨_, _, mg_of KX G (by k_is), L2.fun_mk (by k_is) (by k_is) (by k_is)⟩
    case A_ltext => exact ⟨_, _, mg_of KX G (by k_is), L2.fun_mk (by k_is) (by k_is) (by k_is)⟩
    case A_lnum => exact ⟨_, _, mg_of KX G (by k_is), L2.fun_mk (by k_is) (by k_is) (by k_is)⟩
    case A_lsigned => exact ⟨_, _, mg_of KX G (by k_is), L2.fun_mk (by k_is) (by k_is) (by k_is)⟩
    case A_lrise => exact ⟨_, _, mg_of KX G (by k_is), L2.fun_mk (by k_is) (by k_is) (by k_is)⟩
    case A_due => exact ⟨_, _, mg_of KX G (by k_is), L2.fun_mk (by k_is) (by k_is) (by k_is)⟩
    case A_heard => exact ⟨_, _, mg_of KX G (by k_is), L2.fun_mk (by k_is) (by k_is) (by k_is)⟩
    case A_bent => exact ⟨_, _, mg_of KX G (by k_is), L2.fun_mk (by k_is) (by k_is) (by k_is)⟩
    case A_law => exact ⟨_, _, mg_of KX G (by k_is), L2.fun_mk (by k_is) (by k_is) (by k_is)⟩
